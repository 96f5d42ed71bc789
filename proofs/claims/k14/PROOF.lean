import PyProof.Rows.All
import Wide.All
import OpenK.AllK
import Wide.FinOn
import HandS.ForMost
import HandS.Exc
import HandS.TryOnly
import HandS.TryMany
import HandS.ExcOwn
import HandS.WordsExc
import HandS.CallSlots
import HandS.Defaults
import HandS.HeadHook2
import HandS.HeadHook4
import HandS.Lambda
import HandS.IsInst
import PyProof.StrBlock2
import HandS.Wide
import HandS.Deep
import HandS.TupAny
import HandS.Text
import KE.KStateDown
import HandS.Head0
import HandS.Head1
import HandS.Head2
import HandS.HeadEnd
import HandS.HeadHook1
import HandS.HeadWalk
import HandS.Style
import KE.KSuper
import KE.KExcSuper
import HandS.ExcInit
import HandS.FStr
import HandS.ExcIs
import HandS.ExcField
import KE.KExcIs
import HandS.Property
import HandS.MakeKwOnly
import HandS.SlotsOwn
import HandS.Rev
import HandS.IterVal
import HandS.OwnIter
import HandS.TupMul
import KE.SortData
import HandS.RevRange
import HandS.TupSets
import KE.GoesEnum
import HandS.HeadHook3
import HandS.Flow
import KE.DataMinMax
import HandS.SetFor
import HandS.Zip
import PyProof.AutoSeq1
import PyProof.LongRange
import HandS.DictComp
import HandS.BoundDict
import HandS.SetKeys
import PyProof.DictMoreH
import PyProof.ListRange
import KE.GoesZip
import KE.GoesMore
import HandS.HotCalls
import HandS.Conv
import KE.BitLaws
import HandS.DictTup
import PySem.Challenge.RW_tagoctets_k14_ranges_operators
set_option Elab.async false
set_option linter.all false
set_option maxRecDepth 100000
set_option maxHeartbeats 4000000
namespace Mp
open PySem PySem.Spec PyProof.Rows L2
abbrev Frag := PySem.W.Frag
inductive D where
  | non | bl (b : Bool) | int (i : Int) | str (x : Str) | ty (n : String) | tup (xs : List D) | lst (xs : List D) | fl (xs : List D) | obj (C : Str) (fs : List Str) (xs : List D)
inductive Nd where
  | d (x : D) | nd (k : Nat)
inductive Gn where
  | lst (xs : List Nd) | ins (C : Str) (fs : List (Str × Nd)) | tup (xs : List Nd) | dct (kvs : List (Key × Nd))
inductive O where
  | lst (xs : List D) | dct (kvs : List (Key × D)) | reg (gs : List Gn) | dtp (kvs : List (List Key × D)) | tbl (q : Str) | gone
structure Exn where
  cls : Str
  fs : List (Str × D)
inductive S where
  | d (x : D) | mu (n : Nat) | ob (n k : Nat) | exn (a : Addr) (c : Value) (d : Option Addr) (x : Exn)
abbrev Av := Addr → Prop
def hp0 : Hp := fun _ => none
def noA : Av := fun _ => False
mutual
def Rep (K : Frag) (A : Av) (H : Hp) : D → V → Prop
  | .non, v => v = .non
  | .bl b, v => v = .bl b
  | .int i, v => v = .int i
  | .str x, v => v = .str x
  | .ty n, v => v = .ty n
  | .tup ds, v => ∃ a vs, v = .ref a ∧ ((H a = some (.tup vs) ∧ ¬ A a) ∨ SqT K hp0 a vs) ∧ RepL K A H ds vs
  | .lst ds, v => ∃ a vs, v = .ref a ∧ (H a = some (.lst vs) ∧ ¬ A a) ∧ RepL K A H ds vs
  | .fl ds, v => ∃ a vs, v = .ref a ∧ ((Rd H a (.lst vs) ∧ ¬ A a) ∨ SqL K hp0 a vs) ∧ RepL K A H ds vs
  | .obj C fs ds, v => ∃ a vs dx, v = .ref a ∧ (H a = some (.ins (He.ga K C) dx (fs.zip vs)) ∧ ¬ A a) ∧ RepL K A H ds vs
def RepL (K : Frag) (A : Av) (H : Hp) : List D → List V → Prop
  | [], vs => vs = []
  | d :: ds, vs => ∃ v r, vs = v :: r ∧ Rep K A H d v ∧ RepL K A H ds r
end
structure Step (A M : Av) (H : Hp) (A' M' : Av) (H' : Hp) : Prop where
  keep : ∀ a o, H a = some o → ¬ M a → H' a = some o
  newA : ∀ a, A' a → A a ∨ H a = none
  newM : ∀ a, M' a → M a ∨ H a = none
  sub : ∀ a, M a → A a
  stay : ∀ a o, H a = some o → ∃ u, H' a = some u
theorem Step.refl {A M : Av} {H : Hp} (h : ∀ a, M a → A a) : Step A M H A M H := ⟨fun _ _ h _ => h, fun _ h => .inl h, fun _ h => .inl h, h, fun _ o h => ⟨o, h⟩⟩
theorem Step.trans {A M A1 M1 A2 M2 : Av} {H H1 H2 : Hp} (a : Step A M H A1 M1 H1) (b : Step A1 M1 H1 A2 M2 H2) : Step A M H A2 M2 H2 where
  keep := fun x o h n => b.keep x o (a.keep x o h n) fun n1 => (a.newM x n1).elim n fun z => by rw [h] at z; cases z
  newA := fun x h => by
    rcases b.newA x h with h | h
    · exact a.newA x h
    · cases e : H x with
      | none => exact .inr rfl
      | some o =>
        by_cases n : M x
        · exact .inl (a.sub x n)
        · rw [a.keep x o e n] at h; cases h
  newM := fun x h => by
    rcases b.newM x h with h | h
    · exact a.newM x h
    · cases e : H x with
      | none => exact .inr rfl
      | some o =>
        by_cases n : M x
        · exact .inl n
        · rw [a.keep x o e n] at h; cases h
  sub := a.sub
  stay := fun x o h => by
    obtain ⟨u, hu⟩ := a.stay x o h
    exact b.stay x u hu
theorem Step.not {A M A1 M1 : Av} {H H1 : Hp} (s : Step A M H A1 M1 H1) {a : Addr} {o : HO} (h : H a = some o) (n : ¬ A a) : ¬ A1 a := fun n1 => (s.newA a n1).elim n fun z => by rw [h] at z; cases z
theorem Step.kept {A M A1 M1 : Av} {H H1 : Hp} (s : Step A M H A1 M1 H1) {a : Addr} {o : HO} (h : H a = some o) (n : ¬ A a) : H1 a = some o := s.keep a o h fun z => n (s.sub a z)
theorem Step.rd {A M A1 M1 : Av} {H H1 : Hp} (s : Step A M H A1 M1 H1) {a : Addr} {u : HO} (h : Rd H a u) (n : ¬ A a) : Rd H1 a u ∧ ¬ A1 a := by
  rcases h with h | ⟨o, h⟩
  · exact ⟨.inl (s.kept h n), s.not h n⟩
  · exact ⟨.inr ⟨o, s.kept h n⟩, s.not h n⟩
theorem Step.fresh {A M : Av} {H : Hp} {p : Addr} {o : HO} (hs : ∀ a, M a → A a) (h : H p = none) : Step A M H A M (upd H p o) := ⟨fun a u e _ => by rw [upd_ne (ne_of_none e h)]; exact e, fun _ h => .inl h, fun _ h => .inl h, hs, fun a u e => ⟨u, by rw [upd_ne (ne_of_none e h)]; exact e⟩⟩
mutual
theorem Rep.mono {K : Frag} {A M A' M' : Av} {H H' : Hp} (s : Step A M H A' M' H') : ∀ (d : D) (v : V), Rep K A H d v → Rep K A' H' d v
  | .non, _, h => h
  | .bl _, _, h => h
  | .int _, _, h => h
  | .str _, _, h => h
  | .ty _, _, h => h
  | .tup ds, v, ⟨a, vs, e, h, r⟩ => ⟨a, vs, e, h.elim (fun h => .inl ⟨s.kept h.1 h.2, s.not h.1 h.2⟩) .inr, RepL.mono s ds vs r⟩
  | .lst ds, v, ⟨a, vs, e, h, r⟩ => ⟨a, vs, e, ⟨s.kept h.1 h.2, s.not h.1 h.2⟩, RepL.mono s ds vs r⟩
  | .fl ds, v, ⟨a, vs, e, h, r⟩ => ⟨a, vs, e, h.elim (fun h => .inl (s.rd h.1 h.2)) .inr, RepL.mono s ds vs r⟩
  | .obj C fs ds, v, ⟨a, vs, dx, e, h, r⟩ => ⟨a, vs, dx, e, ⟨s.kept h.1 h.2, s.not h.1 h.2⟩, RepL.mono s ds vs r⟩
theorem RepL.mono {K : Frag} {A M A' M' : Av} {H H' : Hp} (s : Step A M H A' M' H') : ∀ (ds : List D) (vs : List V), RepL K A H ds vs → RepL K A' H' ds vs
  | [], _, h => h
  | d :: ds, _, ⟨v, r, e, h, t⟩ => ⟨v, r, e, Rep.mono s d v h, RepL.mono s ds r t⟩
end
section
variable {K : Frag} {A : Av} {H : Hp}
theorem RepL.length : ∀ {ds : List D} {vs : List V}, RepL K A H ds vs → ds.length = vs.length
  | [], _, h => by cases h; rfl
  | d :: ds, _, ⟨v, r, e, _, t⟩ => by subst e; exact congrArg Nat.succ (RepL.length t)
theorem RepL.nil : RepL K A H [] [] := rfl
theorem RepL.cons {d : D} {ds : List D} {v : V} {vs : List V} (h : Rep K A H d v) (t : RepL K A H ds vs) : RepL K A H (d :: ds) (v :: vs) := ⟨v, vs, rfl, h, t⟩
theorem RepL.append : ∀ {ds es : List D} {vs us : List V}, RepL K A H ds vs → RepL K A H es us → RepL K A H (ds ++ es) (vs ++ us)
  | [], _, _, _, h, g => by cases h; exact g
  | d :: ds, _, _, _, ⟨v, r, e, h, t⟩, g => by subst e; exact ⟨v, r ++ _, rfl, h, RepL.append t g⟩
theorem RepL.get : ∀ {ds : List D} {vs : List V} {i : Nat} {d : D}, RepL K A H ds vs → ds[i]? = some d → ∃ v, vs[i]? = some v ∧ Rep K A H d v
  | [], _, _, _, _, e => by simp at e
  | d :: ds, _, 0, _, ⟨v, r, e, h, _⟩, g => by subst e; simp at g; subst g; exact ⟨v, rfl, h⟩
  | d :: ds, _, i + 1, _, ⟨v, r, e, _, t⟩, g => by subst e; obtain ⟨u, h1, h2⟩ := RepL.get (i := i) t (by simpa using g); exact ⟨u, by simpa using h1, h2⟩
theorem RepL.take : ∀ (n : Nat) {ds : List D} {vs : List V}, RepL K A H ds vs → RepL K A H (ds.take n) (vs.take n)
  | 0, _, _, _ => by simp [RepL]
  | n + 1, [], _, h => by cases h; simp [RepL]
  | n + 1, d :: ds, _, ⟨v, r, e, h, t⟩ => by subst e; exact ⟨v, r.take n, rfl, h, RepL.take n t⟩
theorem RepL.drop : ∀ (n : Nat) {ds : List D} {vs : List V}, RepL K A H ds vs → RepL K A H (ds.drop n) (vs.drop n)
  | 0, _, _, h => h
  | n + 1, [], _, h => by cases h; simp [RepL]
  | n + 1, d :: ds, _, ⟨v, r, e, h, t⟩ => by subst e; exact RepL.drop n t
theorem RepL.set : ∀ (n : Nat) {ds : List D} {vs : List V} {d : D} {v : V}, RepL K A H ds vs → Rep K A H d v → RepL K A H (ds.set n d) (vs.set n v)
  | _, [], _, _, _, h, _ => by cases h; simp [RepL]
  | 0, d :: ds, _, _, _, ⟨v, r, e, h, t⟩, g => by subst e; exact ⟨_, r, rfl, g, t⟩
  | n + 1, d :: ds, _, _, _, ⟨v, r, e, h, t⟩, g => by subst e; exact ⟨v, _, rfl, h, RepL.set n t g⟩
theorem RepL.reverse {ds : List D} {vs : List V} (h : RepL K A H ds vs) : RepL K A H ds.reverse vs.reverse := by
  induction ds generalizing vs with
  | nil => cases h; simp [RepL]
  | cons d ds ih =>
    obtain ⟨v, r, e, h, t⟩ := h
    subst e
    rw [List.reverse_cons, List.reverse_cons]
    exact (ih t).append (.cons h .nil)
theorem RepL.dropLast {ds : List D} {vs : List V} (h : RepL K A H ds vs) : RepL K A H ds.dropLast vs.dropLast := by
  rw [List.dropLast_eq_take, List.dropLast_eq_take, h.length]
  exact h.take _
theorem RepL.eraseIdx : ∀ (n : Nat) {ds : List D} {vs : List V}, RepL K A H ds vs → RepL K A H (ds.eraseIdx n) (vs.eraseIdx n)
  | _, [], _, h => by cases h; simp [RepL]
  | 0, d :: ds, _, ⟨v, r, e, h, t⟩ => by subst e; exact t
  | n + 1, d :: ds, _, ⟨v, r, e, h, t⟩ => by subst e; exact ⟨v, _, rfl, h, RepL.eraseIdx n t⟩
end
def RepT (K : Frag) (A : Av) (H : Hp) (d : D) (v : V) : Prop := match d with
  | .lst ds => ∃ a vs, v = .ref a ∧ H a = some (.lst vs) ∧ RepL K A H ds vs
  | d => Rep K A H d v
theorem Rep.t {K : Frag} {A : Av} {H : Hp} {d : D} {v : V} (h : Rep K A H d v) : RepT K A H d v := by
  cases d <;> first | exact h | (obtain ⟨a, vs, e, h, r⟩ := h; exact ⟨a, vs, e, h.1, r⟩)
def RepK {κ : Type} (K : Frag) (A : Av) (H : Hp) : List (κ × D) → List (κ × V) → Prop
  | [], ws => ws = []
  | (k, d) :: r, ws => ∃ v t, ws = (k, v) :: t ∧ Rep K A H d v ∧ RepK K A H r t
def RepN (K : Frag) (A : Av) (H : Hp) (as : List Addr) : Nd → V → Prop
  | .d x, v => Rep K A H x v
  | .nd k, v => ∃ a, as[k]? = some a ∧ v = .ref a
def RepNL (K : Frag) (A : Av) (H : Hp) (as : List Addr) : List Nd → List V → Prop := Paired (RepN K A H as)
def RepNF (K : Frag) (A : Av) (H : Hp) (as : List Addr) : List (Str × Nd) → List (Str × V) → Prop := Paired fun x w => x.1 = w.1 ∧ RepN K A H as x.2 w.2
def RepNK (K : Frag) (A : Av) (H : Hp) (as : List Addr) : List (Key × Nd) → List (Key × V) → Prop := Paired fun x w => x.1 = w.1 ∧ RepN K A H as x.2 w.2
def GR (K : Frag) (A : Av) (H : Hp) (as : List Addr) (a : Addr) : Gn → Prop
  | .lst xs => ∃ vs, H a = some (.lst vs) ∧ RepNL K A H as xs vs
  | .ins C fs => ∃ dx ws, H a = some (.ins (He.ga K C) dx ws) ∧ RepNF K A H as fs ws
  | .tup xs => ∃ vs, H a = some (.tup vs) ∧ RepNL K A H as xs vs
  | .dct kvs => ∃ ws, H a = some (.dK ws) ∧ RepNK K A H as kvs ws
abbrev adr (p : Addr × List Addr) : List Addr := p.1 :: p.2
def lamQ (f : Str) : Str := f ++ ".<locals>." ++ "<lambda>"
def tabA (K : Frag) (f : Str) : Addr := He.tabOf K (He.codeOf K (f, none))
def OR (K : Frag) (A : Av) (H : Hp) (p : Addr × List Addr) : O → Prop
  | .lst ds => p.2 = [] ∧ ∃ vs, H p.1 = some (.lst vs) ∧ RepL K A H ds vs
  | .dct kvs => p.2 = [] ∧ ∃ ws, H p.1 = some (.dK ws) ∧ RepK K A H kvs ws
  | .reg gs => (adr p).length = gs.length ∧ ∀ (k : Nat) (g : Gn) (a : Addr), gs[k]? = some g → (adr p)[k]? = some a → GR K A H (adr p) a g
  | .dtp kvs => p.2 = [] ∧ ∃ ws, H p.1 = some (.dT ws) ∧ RepK K A H kvs ws
  | .tbl f => p = (tabA K f, []) ∧ ∃ ps : Array Value, H p.1 = some (.tbl ps) ∧ TriplesOk ps.toList ∧ ∀ (pos : Pos) (cv : Value), codeAmong pos ps.toList = some cv → ∃ c, cv = .ref c ∧ H c = some (LamX.CodeO c (lamQ f)) ∧ ¬ A c
  | .gone => True
structure Mp_ where
  own : List (Addr × List Addr)
  ban : Av
def Mt (α : Mp_) (hp : List O) (a : Addr) : Prop := ∃ (n : Nat) (p : Addr × List Addr) (o : O), α.own[n]? = some p ∧ hp[n]? = some o ∧ o ≠ .gone ∧ (a = p.1 ∨ a ∈ p.2)
def Al (α : Mp_) (hp : List O) (a : Addr) : Prop := Mt α hp a ∨ α.ban a
theorem al_sub {α : Mp_} {hp : List O} : ∀ a, Mt α hp a → Al α hp a := fun _ h => .inl h
structure WOk (K : Frag) (α : Mp_) (hp : List O) (H : Hp) : Prop where
  len : α.own.length = hp.length
  obj : ∀ (n : Nat) (o : O) (p : Addr × List Addr), hp[n]? = some o → α.own[n]? = some p → OR K (Al α hp) H p o
  one : ∀ (n : Nat) (o : O) (p : Addr × List Addr), hp[n]? = some o → α.own[n]? = some p → o ≠ .gone → p.1 ∉ p.2 ∧ p.2.Nodup
  inj : ∀ (m n : Nat) (o u : O) (p q : Addr × List Addr), hp[m]? = some o → α.own[m]? = some p → o ≠ .gone → hp[n]? = some u → α.own[n]? = some q → u ≠ .gone → m ≠ n → ∀ a, (a = p.1 ∨ a ∈ p.2) → ¬ (a = q.1 ∨ a ∈ q.2)
  ban : ∀ a, α.ban a → (∃ o, H a = some o) ∧ ¬ Mt α hp a
def RepXF (K : Frag) (A : Av) (H : Hp) : List (Str × D) → List (Str × V) → Prop
  | [], ws => ws = []
  | (k, d) :: r, ws => ∃ v t, ws = (k, v) :: t ∧ Rep K A H d v ∧ RepXF K A H r t
def XRep (K : Frag) (A : Av) (H : Hp) (x : Exn) (c : Value) (dd : Option Addr) : Prop :=
  c = .ref (He.ga K x.cls) ∧ (x.fs = [] ∨ ∃ a ws, dd = some a ∧ (H a = some (.xd ws) ∧ ¬ A a) ∧ RepXF K A H x.fs ws)
theorem RepXF.mono {K : Frag} {A M A' M' : Av} {H H' : Hp} (s : Step A M H A' M' H') : ∀ {l : List (Str × D)} {ws : List (Str × V)}, RepXF K A H l ws → RepXF K A' H' l ws
  | [], _, h => h
  | (k, d) :: r, _, ⟨v, t, e, h, q⟩ => ⟨v, t, e, Rep.mono s d v h, RepXF.mono s q⟩
theorem XRep.mono {K : Frag} {A M A' M' : Av} {H H' : Hp} {x : Exn} {c : Value} {dd : Option Addr} (s : Step A M H A' M' H') (r : XRep K A H x c dd) : XRep K A' H' x c dd :=
  ⟨r.1, r.2.imp id fun ⟨a, ws, h1, h2, h3⟩ => ⟨a, ws, h1, ⟨s.kept h2.1 h2.2, s.not h2.1 h2.2⟩, RepXF.mono s h3⟩⟩
def SRep (K : Frag) (α : Mp_) (hp : List O) (H : Hp) : S → V → Prop
  | .d x, v => Rep K (Al α hp) H x v
  | .mu n, v => ∃ p, α.own[n]? = some p ∧ v = .ref p.1
  | .ob n k, v => ∃ p a, α.own[n]? = some p ∧ (adr p)[k]? = some a ∧ v = .ref a
  | .exn a c d x, v => v = .ref a ∧ XRep K (Al α hp) H x c d
def EnvR (K : Frag) (α : Mp_) (hp : List O) (H : Hp) (env : List (Option S)) (σ : L2.St) : Prop :=
  env.length = σ.length ∧ ∀ (i : Nat) (s : S), env[i]? = some (some s) → ∃ v, σ[i]? = some (some v) ∧ SRep K α hp H s v
def OwnLe (l m : List (Addr × List Addr)) : Prop := ∀ (n : Nat) (p : Addr × List Addr), l[n]? = some p → ∃ q : Addr × List Addr, m[n]? = some q ∧ q.1 = p.1 ∧ p.2 <+: q.2
theorem OwnLe.refl (l : List (Addr × List Addr)) : OwnLe l l := fun n p h => ⟨p, h, rfl, List.prefix_refl _⟩
theorem OwnLe.trans {l m k : List (Addr × List Addr)} (a : OwnLe l m) (b : OwnLe m k) : OwnLe l k := fun n p h => by
  obtain ⟨q, h1, h2, h3⟩ := a n p h
  obtain ⟨r, g1, g2, g3⟩ := b n q h1
  exact ⟨r, g1, g2.trans h2, h3.trans g3⟩
theorem OwnLe.app (l m : List (Addr × List Addr)) : OwnLe l (l ++ m) := fun n p h => ⟨p, by rw [List.getElem?_append_left (List.getElem?_eq_some_iff.mp h).1]; exact h, rfl, List.prefix_refl _⟩
theorem OwnLe.len {l m : List (Addr × List Addr)} (h : OwnLe l m) : l.length ≤ m.length := by
  by_cases c : l.length ≤ m.length
  · exact c
  · have hl : m.length < l.length := by omega
    obtain ⟨q, h1, _⟩ := h m.length _ (List.getElem?_eq_getElem hl)
    rw [List.getElem?_eq_none (Nat.le_refl _)] at h1
    cases h1
theorem OwnLe.take {l m : List (Addr × List Addr)} (h : OwnLe l m) {k : Nat} (hk : l.length ≤ k) : OwnLe l (m.take k) := fun n p e => by
  obtain ⟨q, h1, h2⟩ := h n p e
  have hn : n < l.length := (List.getElem?_eq_some_iff.mp e).1
  exact ⟨q, by rw [List.getElem?_take_of_lt (by omega)]; exact h1, h2⟩
theorem OwnLe.appR {l m k : List (Addr × List Addr)} (h : OwnLe l m) : OwnLe l (m ++ k) := h.trans (OwnLe.app m k)
structure Pre (α α' : Mp_) : Prop where
  own : OwnLe α.own α'.own
  ban : α'.ban = α.ban
theorem Pre.refl (α : Mp_) : Pre α α := ⟨OwnLe.refl _, rfl⟩
theorem Pre.trans {α β γ : Mp_} (a : Pre α β) (b : Pre β γ) : Pre α γ := ⟨a.own.trans b.own, b.ban.trans a.ban⟩
theorem Pre.get {α β : Mp_} (h : Pre α β) {n : Nat} {p : Addr × List Addr} (e : α.own[n]? = some p) : ∃ q, β.own[n]? = some q ∧ q.1 = p.1 := by
  obtain ⟨q, h1, h2, _⟩ := h.own n p e
  exact ⟨q, h1, h2⟩
theorem adr_le {p q : Addr × List Addr} (h1 : q.1 = p.1) (h2 : p.2 <+: q.2) {k : Nat} {a : Addr} (h : (adr p)[k]? = some a) : (adr q)[k]? = some a := by
  cases k with
  | zero => simp [adr] at h ⊢; exact h1.trans h
  | succ k =>
    have h' : p.2[k]? = some a := h
    obtain ⟨t, ht⟩ := h2
    show q.2[k]? = some a
    rw [← ht, List.getElem?_append_left (List.getElem?_eq_some_iff.mp h').1]
    exact h'
abbrev StepW (α : Mp_) (hp : List O) (H : Hp) (α' : Mp_) (hp' : List O) (H' : Hp) : Prop := Step (Al α hp) (Mt α hp) H (Al α' hp') (Mt α' hp') H'
abbrev StepA (α : Mp_) (hp : List O) (H : Hp) (α' : Mp_) (hp' : List O) (H' : Hp) : Prop := Step (Al α hp) (Al α hp) H (Al α' hp') (Al α' hp') H'
theorem Step.toA {α α' : Mp_} {hp hp' : List O} {H H' : Hp} (s : StepW α hp H α' hp' H') : StepA α hp H α' hp' H' := ⟨fun a o h n => s.keep a o h fun z => n (.inl z), s.newA, s.newA, fun _ h => h, s.stay⟩
structure Ext (α : Mp_) (hp : List O) (H : Hp) (α' : Mp_) (hp' : List O) (H' : Hp) : Prop where
  pre : Pre α α'
  step : StepW α hp H α' hp' H'
  nw : ∀ (n : Nat) (p : Addr × List Addr), α.own.length ≤ n → α'.own[n]? = some p → H p.1 = none
theorem none_back {H H' : Hp} (h : ∀ a o, H a = some o → ∃ u, H' a = some u) {a : Addr} (e : H' a = none) : H a = none := by
  cases q : H a with
  | none => rfl
  | some o =>
    obtain ⟨u, hu⟩ := h a o q
    rw [e] at hu
    cases hu
theorem at_none {τ : Type} {l : List τ} {n : Nat} {x : τ} (h : l.length ≤ n) (e : l[n]? = some x) : False := by
  rw [List.getElem?_eq_none h] at e
  cases e
theorem Ext.refl {α : Mp_} {hp : List O} {H : Hp} : Ext α hp H α hp H := ⟨Pre.refl _, Step.refl al_sub, fun _ _ h e => (at_none h e).elim⟩
theorem Ext.trans {α β γ : Mp_} {hp hp1 hp2 : List O} {H H1 H2 : Hp} (a : Ext α hp H β hp1 H1) (b : Ext β hp1 H1 γ hp2 H2) : Ext α hp H γ hp2 H2 := ⟨a.pre.trans b.pre, a.step.trans b.step, fun n p h e => by
  by_cases hn : n < β.own.length
  · obtain ⟨q, h1, h2⟩ := b.pre.get (List.getElem?_eq_getElem hn)
    rw [e] at h1
    cases h1
    rw [h2]
    exact a.nw n _ h (List.getElem?_eq_getElem hn)
  · exact none_back a.step.stay (b.nw n p (by omega) e)⟩
theorem SRep.mono {K : Frag} {α β : Mp_} {hp hp1 : List O} {H H1 : Hp} (e : Ext α hp H β hp1 H1) : ∀ {s : S} {v : V}, SRep K α hp H s v → SRep K β hp1 H1 s v
  | .d x, v, h => Rep.mono e.step x v h
  | .mu n, v, ⟨p, h, q⟩ => by
    obtain ⟨p', h', e'⟩ := e.pre.get h
    exact ⟨p', h', by rw [q, e']⟩
  | .ob n k, v, ⟨p, a, h, g, q⟩ => by
    obtain ⟨p', h', e1, e2⟩ := e.pre.own n p h
    exact ⟨p', a, h', adr_le e1 e2 g, q⟩
  | .exn a c d x, v, ⟨q, h⟩ => ⟨q, h.mono e.step⟩
theorem EnvR.mono {K : Frag} {α β : Mp_} {hp hp1 : List O} {H H1 : Hp} {env : List (Option S)} {σ : L2.St} (e : Ext α hp H β hp1 H1) (h : EnvR K α hp H env σ) : EnvR K β hp1 H1 env σ :=
  ⟨h.1, fun i s hi => by obtain ⟨v, h1, h2⟩ := h.2 i s hi; exact ⟨v, h1, h2.mono e⟩⟩
theorem RepK.mono {κ : Type} {K : Frag} {A M A' M' : Av} {H H' : Hp} (s : Step A M H A' M' H') : ∀ {l : List (κ × D)} {ws : List (κ × V)}, RepK K A H l ws → RepK K A' H' l ws
  | [], _, h => h
  | (k, d) :: r, _, ⟨v, t, e, h, q⟩ => ⟨v, t, e, Rep.mono s d v h, RepK.mono s q⟩
theorem RepN.mono {K : Frag} {A M A' M' : Av} {H H' : Hp} {as bs : List Addr} (s : Step A M H A' M' H') (l : ∀ (k : Nat) (a : Addr), as[k]? = some a → bs[k]? = some a) : ∀ {x : Nd} {v : V}, RepN K A H as x v → RepN K A' H' bs x v
  | .d _, _, h => Rep.mono s _ _ h
  | .nd k, _, ⟨a, h, e⟩ => ⟨a, l k a h, e⟩
theorem GR.mono {K : Frag} {A M A' M' : Av} {H H' : Hp} {as bs : List Addr} (s : Step A M H A' M' H') (l : ∀ (k : Nat) (a : Addr), as[k]? = some a → bs[k]? = some a) {a : Addr} (ha : H' a = H a) : ∀ {g : Gn}, GR K A H as a g → GR K A' H' bs a g
  | .lst _, ⟨vs, h, r⟩ => ⟨vs, ha.trans h, L2.Paired.mapP r fun _ _ q => q.mono s l⟩
  | .ins _ _, ⟨dx, ws, h, r⟩ => ⟨dx, ws, ha.trans h, L2.Paired.mapP r fun _ _ q => ⟨q.1, q.2.mono s l⟩⟩
  | .tup _, ⟨vs, h, r⟩ => ⟨vs, ha.trans h, L2.Paired.mapP r fun _ _ q => q.mono s l⟩
  | .dct _, ⟨ws, h, r⟩ => ⟨ws, ha.trans h, L2.Paired.mapP r fun _ _ q => ⟨q.1, q.2.mono s l⟩⟩
theorem GR.there {K : Frag} {A : Av} {H : Hp} {as : List Addr} {a : Addr} : ∀ {g : Gn}, GR K A H as a g → ∃ o, H a = some o
  | .lst _, ⟨vs, h, r⟩ => ⟨_, h⟩
  | .ins _ _, ⟨dx, ws, h, r⟩ => ⟨_, h⟩
  | .tup _, ⟨_, h, _⟩ => ⟨_, h⟩
  | .dct _, ⟨_, h, _⟩ => ⟨_, h⟩
theorem WOk.mt {K : Frag} {α : Mp_} {hp : List O} {H : Hp} (w : WOk K α hp H) {a : Addr} (h : Mt α hp a) : ∃ o, H a = some o := by
  obtain ⟨n, p, o, h1, h2, h3, h4⟩ := h
  have q := w.obj n o p h2 h1
  cases o with
  | lst ds =>
    obtain ⟨e, vs, h, _⟩ := q
    rcases h4 with z | z
    · subst z; exact ⟨_, h⟩
    · rw [e] at z; cases z
  | dct kvs =>
    obtain ⟨e, vs, h, _⟩ := q
    rcases h4 with z | z
    · subst z; exact ⟨_, h⟩
    · rw [e] at z; cases z
  | reg gs =>
    obtain ⟨e, r⟩ := q
    obtain ⟨k, hk, e2⟩ := List.mem_iff_getElem.mp (show a ∈ adr p from List.mem_cons.mpr h4)
    exact (r k gs[k] a (List.getElem?_eq_getElem (by omega)) (by rw [List.getElem?_eq_getElem hk, e2])).there
  | dtp kvs =>
    obtain ⟨e, vs, h, _⟩ := q
    rcases h4 with z | z
    · subst z; exact ⟨_, h⟩
    · rw [e] at z; cases z
  | tbl q' =>
    obtain ⟨e, vs, h, _⟩ := q
    rcases h4 with z | z
    · subst z; exact ⟨_, h⟩
    · rw [congrArg Prod.snd e] at z; cases z
  | gone => exact absurd rfl h3
theorem WOk.there {K : Frag} {α : Mp_} {hp : List O} {H : Hp} (w : WOk K α hp H) {a : Addr} (h : Al α hp a) : ∃ o, H a = some o := h.elim w.mt fun h => (w.ban a h).1
theorem WOk.non {K : Frag} {α : Mp_} {hp : List O} {H : Hp} (w : WOk K α hp H) : ∀ a, H a = none → ¬ Al α hp a := fun a h z => by
  obtain ⟨o, ho⟩ := w.there z
  rw [h] at ho
  cases ho
theorem Ext.fresh {α : Mp_} {hp : List O} {H : Hp} {p : Addr} {o : HO} (h : H p = none) : Ext α hp H α hp (upd H p o) := ⟨Pre.refl _, Step.fresh al_sub h, fun _ _ h e => (at_none h e).elim⟩
theorem OR.mono {K : Frag} {A M A' M' : Av} {H H' : Hp} {p : Addr × List Addr} (s : Step A M H A' M' H') : ∀ {o : O}, OR K A H p o → (o ≠ .gone → ∀ b, b = p.1 ∨ b ∈ p.2 → H' b = H b) → OR K A' H' p o
  | .lst ds, ⟨e, vs, h, r⟩, k => ⟨e, vs, by rw [k (fun z => nomatch z) _ (.inl rfl)]; exact h, RepL.mono s _ _ r⟩
  | .dct kvs, ⟨e, vs, h, r⟩, k => ⟨e, vs, by rw [k (fun z => nomatch z) _ (.inl rfl)]; exact h, r.mono s⟩
  | .reg gs, ⟨e, r⟩, k => ⟨e, fun j g a h1 h2 => (r j g a h1 h2).mono s (fun _ _ h => h) (k (fun z => nomatch z) a (List.mem_cons.mp (List.mem_iff_getElem?.mpr ⟨j, h2⟩)))⟩
  | .dtp kvs, ⟨e, vs, h, r⟩, k => ⟨e, vs, by rw [k (fun z => nomatch z) _ (.inl rfl)]; exact h, r.mono s⟩
  | .tbl q, ⟨e, ps, h, t, r⟩, k => ⟨e, ps, by rw [k (fun z => nomatch z) _ (.inl rfl)]; exact h, t, fun pos cv hc => by
    obtain ⟨c, h1, h2, h3⟩ := r pos cv hc
    exact ⟨c, h1, s.kept h2 h3, s.not h2 h3⟩⟩
  | .gone, _, _ => trivial
theorem WOk.fresh {K : Frag} {α : Mp_} {hp : List O} {H : Hp} {p : Addr} {o : HO} (w : WOk K α hp H) (h : H p = none) : WOk K α hp (upd H p o) :=
  ⟨w.len, fun n u q h1 h2 => (w.obj n u q h1 h2).mono (Step.fresh al_sub h) fun hg b hb => by
    obtain ⟨x, hx⟩ := w.mt ⟨n, q, u, h2, h1, hg, hb⟩
    exact upd_ne (ne_of_none hx h), w.one, w.inj, fun a ha => by
    obtain ⟨⟨x, hx⟩, hm⟩ := w.ban a ha
    exact ⟨⟨x, by rw [upd_ne (ne_of_none hx h)]; exact hx⟩, hm⟩⟩
theorem WOk.banned {K : Frag} {α : Mp_} {hp : List O} {H : Hp} {p : Addr} {o : HO} (w : WOk K α hp H) (h : H p = none) : WOk K { α with ban := fun a => α.ban a ∨ a = p } hp (upd H p o) ∧ StepW α hp H { α with ban := fun a => α.ban a ∨ a = p } hp (upd H p o) := by
  have st : StepW α hp H { α with ban := fun a => α.ban a ∨ a = p } hp (upd H p o) := ⟨fun a u e _ => by rw [upd_ne (ne_of_none e h)]; exact e, fun a z => by
    rcases z with z | z | z
    · exact .inl (.inl z)
    · exact .inl (.inr z)
    · subst z; exact .inr h, fun _ z => .inl z, al_sub, fun a u e => ⟨u, by rw [upd_ne (ne_of_none e h)]; exact e⟩⟩
  refine ⟨⟨w.len, fun n u q h1 h2 => (w.obj n u q h1 h2).mono st fun hg b hb => by
    obtain ⟨x, hx⟩ := w.mt ⟨n, q, u, h2, h1, hg, hb⟩
    exact upd_ne (ne_of_none hx h), w.one, w.inj, fun a ha => ?_⟩, st⟩
  rcases ha with ha | ha
  · obtain ⟨⟨x, hx⟩, hm⟩ := w.ban a ha
    exact ⟨⟨x, by rw [upd_ne (ne_of_none hx h)]; exact hx⟩, hm⟩
  · subst ha
    exact ⟨⟨o, upd_same⟩, fun z => by
      obtain ⟨x, hx⟩ := w.mt z
      rw [h] at hx
      cases hx⟩
end Mp
set_option Elab.async false
set_option linter.all false
set_option maxRecDepth 100000
set_option maxHeartbeats 4000000
namespace Mp
open PySem PySem.Spec PyProof.Rows L2
structure PS where
  hp : List O
  env : List (Option S)
  n0 : Nat
abbrev MX := Exn → List O → Prop
abbrev ME := PS → (S → List O → Prop) → MX → Prop
abbrev MT := PS → (Bool → List O → Prop) → MX → Prop
abbrev MA := PS → (List S → List O → Prop) → MX → Prop
def PostE (K : Frag) (α : Mp_) (hp : List O) (H : Hp) (R : S → List O → Prop) (Q : VK) : Prop :=
  ∀ s hp' α' H' v, R s hp' → Ext α hp H α' hp' H' → WOk K α' hp' H' → SRep K α' hp' H' s v → Q v H'
def PostT (K : Frag) (α : Mp_) (hp : List O) (H : Hp) (R : Bool → List O → Prop) (Q : Bool → Hp → Prop) : Prop :=
  ∀ b hp' α' H', R b hp' → Ext α hp H α' hp' H' → WOk K α' hp' H' → Q b H'
def SRepL (K : Frag) (α : Mp_) (hp : List O) (H : Hp) : List S → List V → Prop := Paired (SRep K α hp H)
def PostA (K : Frag) (α : Mp_) (hp : List O) (H : Hp) (R : List S → List O → Prop) (Q : List V → Hp → Prop) : Prop :=
  ∀ ss hp' α' H' vs, R ss hp' → Ext α hp H α' hp' H' → WOk K α' hp' H' → SRepL K α' hp' H' ss vs → Q vs H'
def PostX (K : Frag) (W : WX) (σ : L2.St) (α : Mp_) (hp : List O) (H : Hp) (Xp : MX) : Prop :=
  ∀ x hp' α' H' c dd, Xp x hp' → Ext α hp H α' hp' H' → WOk K α' hp' H' → XRep K (Al α' hp') H' x c dd → W c dd σ H'
section
variable {K : Frag} {W : WX} {σ : L2.St} {α β : Mp_} {hp hp1 : List O} {H H1 : Hp}
theorem PostE.at {R : S → List O → Prop} {Q : VK} (p : PostE K α hp H R Q) (e : Ext α hp H β hp1 H1) : PostE K β hp1 H1 R Q := fun s h a h' v r e' w q => p s h a h' v r (e.trans e') w q
theorem PostT.at {R : Bool → List O → Prop} {Q : Bool → Hp → Prop} (p : PostT K α hp H R Q) (e : Ext α hp H β hp1 H1) : PostT K β hp1 H1 R Q := fun s h a h' r e' w => p s h a h' r (e.trans e') w
theorem PostA.at {R : List S → List O → Prop} {Q : List V → Hp → Prop} (p : PostA K α hp H R Q) (e : Ext α hp H β hp1 H1) : PostA K β hp1 H1 R Q := fun s h a h' v r e' w q => p s h a h' v r (e.trans e') w q
theorem PostX.at {Xp : MX} (p : PostX K W σ α hp H Xp) (e : Ext α hp H β hp1 H1) : PostX K W σ β hp1 H1 Xp := fun x h a h' c dd r e' w q => p x h a h' c dd r (e.trans e') w q
theorem SRepL.mono (e : Ext α hp H β hp1 H1) {ss : List S} {vs : List V} (h : SRepL K α hp H ss vs) : SRepL K β hp1 H1 ss vs := L2.Paired.mapP h fun _ _ q => q.mono e
end
def SimE (K : Frag) (W : WX) (t : TE) (M : ME) : Prop := ∀ (α : Mp_) (s : PS) (H : Hp) (σ : L2.St), WOk K α s.hp H → EnvR K α s.hp H s.env σ → ∀ R Xp, M s R Xp → ∀ Q : VK, PostE K α s.hp H R Q → PostX K W σ α s.hp H Xp → t σ H Q
def SimT (K : Frag) (W : WX) (t : TT) (M : MT) : Prop := ∀ (α : Mp_) (s : PS) (H : Hp) (σ : L2.St), WOk K α s.hp H → EnvR K α s.hp H s.env σ → ∀ R Xp, M s R Xp → ∀ Q : Bool → Hp → Prop, PostT K α s.hp H R Q → PostX K W σ α s.hp H Xp → t σ H Q
def SimA (K : Frag) (W : WX) (t : TA) (M : MA) : Prop := ∀ (α : Mp_) (s : PS) (H : Hp) (σ : L2.St), WOk K α s.hp H → EnvR K α s.hp H s.env σ → ∀ R Xp, M s R Xp → ∀ Q : List V → Hp → Prop, PostA K α s.hp H R Q → PostX K W σ α s.hp H Xp → t σ H Q
def on {τ : Type} (o : Option τ) (k : τ → Prop) : Prop := match o with
  | some x => k x
  | none => False
@[simp] theorem on_some {τ : Type} {x : τ} {k : τ → Prop} : on (some x) k = k x := rfl
@[simp] theorem on_none {τ : Type} {k : τ → Prop} : on (none : Option τ) k = False := rfl
theorem on.ex {τ : Type} {o : Option τ} {k : τ → Prop} (h : on o k) : ∃ x, o = some x ∧ k x := by
  cases o with
  | none => exact h.elim
  | some x => exact ⟨x, rfl, h⟩
def dsOf : List Nd → Option (List D)
  | [] => some []
  | .d x :: r => (dsOf r).map (x :: ·)
  | .nd _ :: _ => none
def nodeAt (hp : List O) (n k : Nat) : Option Gn := match hp[n]? with
  | some (.reg gs) => gs[k]?
  | _ => none
theorem nodeAt_some {hp : List O} {n k : Nat} {g : Gn} (h : nodeAt hp n k = some g) : ∃ gs, hp[n]? = some (.reg gs) ∧ gs[k]? = some g := by
  unfold nodeAt at h
  split at h
  · rename_i gs e; exact ⟨gs, e, h⟩
  · cases h
theorem RepNL.ds {K : Frag} {A : Av} {H : Hp} {as : List Addr} : ∀ {xs : List Nd} {vs : List V} {ds : List D}, RepNL K A H as xs vs → dsOf xs = some ds → RepL K A H ds vs
  | [], _, ds, h, e => by cases h; cases e; exact .nil
  | .d x :: r, _, ds, h, e => by
    cases h with
    | cons h t =>
      unfold dsOf at e
      cases g : dsOf r with
      | none => rw [g] at e; cases e
      | some es =>
        rw [g] at e
        cases e
        exact .cons h (RepNL.ds t g)
  | .nd _ :: _, _, _, _, e => by cases e
theorem WOk.node {K : Frag} {α : Mp_} {hp : List O} {H : Hp} (w : WOk K α hp H) {n k : Nat} {g : Gn} {p : Addr × List Addr} {a : Addr} (h : nodeAt hp n k = some g) (hp' : α.own[n]? = some p) (ha : (adr p)[k]? = some a) : GR K (Al α hp) H (adr p) a g := by
  obtain ⟨gs, h1, h2⟩ := nodeAt_some h
  exact (w.obj n _ p h1 hp').2 k g a h2 ha
def val (hp : List O) : S → Option D
  | .d x => some x
  | .mu n => match hp[n]? with
    | some (.lst ds) => some (.lst ds)
    | _ => none
  | .ob n k => match nodeAt hp n k with
    | some (.lst xs) => (dsOf xs).map .lst
    | _ => none
  | .exn _ _ _ _ => none
@[simp] theorem val_d {hp : List O} {x : D} : val hp (.d x) = some x := rfl
theorem SRep.val {K : Frag} {α : Mp_} {hp : List O} {H : Hp} (w : WOk K α hp H) : ∀ {s : S} {v : V} {d : D}, SRep K α hp H s v → val hp s = some d → RepT K (Al α hp) H d v
  | .d x, v, d, h, e => by cases e; exact h.t
  | .mu n, v, d, ⟨p, h, q⟩, e => by
    simp only [Mp.val] at e
    cases g : hp[n]? with
    | none => rw [g] at e; cases e
    | some o =>
      rw [g] at e
      cases o with
      | lst ds =>
        cases e
        obtain ⟨_, vs, h1, h2⟩ := w.obj n _ p g h
        exact ⟨p.1, vs, q, h1, h2⟩
      | dct _ => cases e
      | reg _ => cases e
      | dtp _ => cases e
      | tbl _ => cases e
      | gone => cases e
  | .ob n k, v, d, ⟨p, a, h, ha, q⟩, e => by
    simp only [Mp.val] at e
    cases g : nodeAt hp n k with
    | none => rw [g] at e; cases e
    | some o =>
      rw [g] at e
      cases o with
      | lst xs =>
        obtain ⟨vs, h1, h2⟩ := w.node g h ha
        cases z : dsOf xs with
        | none => simp only [z] at e; cases e
        | some ds =>
          simp only [z] at e
          cases e
          exact ⟨a, vs, q, h1, h2.ds z⟩
      | ins _ _ => cases e
      | tup _ => cases e
      | dct _ => cases e
  | .exn _ _ _ _, _, _, _, e => by cases e
def mVar (i : Nat) : ME := fun s R _ => match s.env[i]? with
  | some (some v) => R v s.hp
  | _ => False
theorem sim_var {K : Frag} {W : WX} (i : Nat) : SimE K W (tVar i) (mVar i) := by
  intro α s H σ w e R Xp m Q q _
  unfold mVar at m
  cases g : s.env[i]? with
  | none => rw [g] at m; exact m.elim
  | some o =>
    rw [g] at m
    cases o with
    | none => exact m.elim
    | some x =>
      obtain ⟨v, h1, h2⟩ := e.2 i x g
      exact ⟨v, h1, q x s.hp α H v m Ext.refl w h2⟩
def mC (d : D) : ME := fun s R _ => R (.d d) s.hp
theorem sim_c {K : Frag} {W : WX} {v : V} {d : D} (h : ∀ A H, Rep K A H d v) : SimE K W (tC v) (mC d) := fun α s H σ w e R Xp m Q q _ => q _ _ α H v m Ext.refl w (h _ _)
theorem WOk.grown {K : Frag} {α : Mp_} {hp : List O} {H H' : Hp} (w : WOk K α hp H) (st : H' = H ∨ ∃ p o, H p = none ∧ H' = upd H p o) : Ext α hp H α hp H' ∧ WOk K α hp H' := by
  rcases st with rfl | ⟨p0, o, hn, rfl⟩
  · exact ⟨Ext.refl, w⟩
  · exact ⟨Ext.fresh hn, w.fresh hn⟩
abbrev F2 := D → D → (D → Prop) → Prop
def Sim2 (K : Frag) (r : R2) (f : F2) : Prop := ∀ (A : Av) (H : Hp) (d1 d2 : D) (v1 v2 : V), (∀ a, H a = none → ¬ A a) → RepT K A H d1 v1 → RepT K A H d2 v2 → ∀ P, f d1 d2 P → ∀ Q : VK, (∀ d v H', P d → Rep K A H' d v → (H' = H ∨ ∃ p o, H p = none ∧ H' = upd H p o) → Q v H') → r v1 v2 H Q
def m2 (f : F2) (Ma Mb : ME) : ME := fun s R Xp => Ma s (fun x hp1 => Mb { s with hp := hp1 } (fun y hp2 => on (val hp2 x) fun d1 => on (val hp2 y) fun d2 => f d1 d2 fun d => R (.d d) hp2) Xp) Xp
theorem sim_op {K : Frag} {W : WX} {r : R2} {f : F2} {ta tb : TE} {Ma Mb : ME} (hr : Sim2 K r f) (ha : SimE K W ta Ma) (hb : SimE K W tb Mb) : SimE K W (tOp r ta tb) (m2 f Ma Mb) := by
  intro α s H σ w e R Xp m Q q qx
  refine ha α s H σ w e _ _ m _ (fun x hp1 α1 H1 v1 m1 e1 w1 r1 => ?_) qx
  refine hb α1 { s with hp := hp1 } H1 σ w1 (e.mono e1) _ _ m1 _ (fun y hp2 α2 H2 v2 m2 e2 w2 r2 => ?_) (qx.at e1)
  have r1' := r1.mono e2
  obtain ⟨d1, g1, m2⟩ := on.ex m2
  obtain ⟨d2, g2, m2⟩ := on.ex m2
  refine hr _ H2 d1 d2 v1 v2 w2.non (r1'.val w2 g1) (r2.val w2 g2) _ m2 Q fun d v H' p rp st => ?_
  rcases st with rfl | ⟨p0, o, hn, rfl⟩
  · exact q _ _ α2 _ v p (e1.trans e2) w2 rp
  · exact q _ _ α2 _ v p ((e1.trans e2).trans (Ext.fresh hn)) (w2.fresh hn) rp
abbrev F1 := D → (D → Prop) → Prop
def Sim1 (K : Frag) (r : V → Hp → VK → Prop) (f : F1) : Prop := ∀ (A : Av) (H : Hp) (d1 : D) (v1 : V), (∀ a, H a = none → ¬ A a) → RepT K A H d1 v1 → ∀ P, f d1 P → ∀ Q : VK, (∀ d v H', P d → Rep K A H' d v → (H' = H ∨ ∃ p o, H p = none ∧ H' = upd H p o) → Q v H') → r v1 H Q
def m1 (f : F1) (Ma : ME) : ME := fun s R Xp => Ma s (fun x hp1 => on (val hp1 x) fun d1 => f d1 fun d => R (.d d) hp1) Xp
theorem sim_un {K : Frag} {W : WX} {r : V → Hp → VK → Prop} {f : F1} {ta : TE} {Ma : ME} (hr : Sim1 K r f) (ha : SimE K W ta Ma) : SimE K W (tUn r ta) (m1 f Ma) := by
  intro α s H σ w e R Xp m Q q qx
  refine ha α s H σ w e _ _ m _ (fun x hp1 α1 H1 v1 m1 e1 w1 r1 => ?_) qx
  obtain ⟨d1, g1, m1⟩ := on.ex m1
  all_goals
    refine hr _ H1 d1 v1 w1.non (r1.val w1 g1) _ m1 Q fun d v H' p rp st => ?_
    rcases st with rfl | ⟨p0, o, hn, rfl⟩
    · exact q _ _ α1 _ v p e1 w1 rp
    · exact q _ _ α1 _ v p (e1.trans (Ext.fresh hn)) (w1.fresh hn) rp
def mNil : MA := fun s R _ => R [] s.hp
def mCons (Ma : ME) (Mr : MA) : MA := fun s R Xp => Ma s (fun x hp1 => Mr { s with hp := hp1 } (fun xs hp2 => R (x :: xs) hp2) Xp) Xp
theorem sim_nil {K : Frag} {W : WX} : SimA K W tNil mNil := fun α s H σ w e R Xp m Q q _ => q _ _ α H [] m Ext.refl w .nil
theorem sim_cons {K : Frag} {W : WX} {ta : TE} {tr : TA} {Ma : ME} {Mr : MA} (ha : SimE K W ta Ma) (hr : SimA K W tr Mr) : SimA K W (tCons ta tr) (mCons Ma Mr) := by
  intro α s H σ w e R Xp m Q q qx
  refine ha α s H σ w e _ _ m _ (fun x hp1 α1 H1 v1 m1 e1 w1 r1 => ?_) qx
  refine hr α1 { s with hp := hp1 } H1 σ w1 (e.mono e1) _ _ m1 _ (fun xs hp2 α2 H2 vs m2 e2 w2 r2 => ?_) (qx.at e1)
  exact q _ _ α2 _ _ m2 (e1.trans e2) w2 (.cons (r1.mono e2) r2)
def vals (hp : List O) : List S → Option (List D)
  | [] => some []
  | x :: xs => match val hp x, vals hp xs with
    | some d, some ds => some (d :: ds)
    | _, _ => none
abbrev FN := List D → (D → Prop) → Prop
def RepTL (K : Frag) (A : Av) (H : Hp) : List D → List V → Prop := Paired (RepT K A H)
theorem SRepL.vals {K : Frag} {α : Mp_} {hp : List O} {H : Hp} (w : WOk K α hp H) : ∀ {ss : List S} {vs : List V} {ds : List D}, SRepL K α hp H ss vs → vals hp ss = some ds → RepTL K (Al α hp) H ds vs
  | [], _, ds, h, e => by cases h; cases e; exact .nil
  | x :: xs, _, ds, h, e => by
    cases h with
    | cons h t =>
      unfold Mp.vals at e
      cases g1 : val hp x with
      | none => rw [g1] at e; cases e
      | some d =>
        cases g2 : Mp.vals hp xs with
        | none => rw [g1, g2] at e; cases e
        | some es =>
          rw [g1, g2] at e
          cases e
          exact .cons (h.val w g1) (SRepL.vals w t g2)
def SimN (K : Frag) (r : List V → Hp → VK → Prop) (f : FN) : Prop := ∀ (A : Av) (H : Hp) (ds : List D) (vs : List V), (∀ a, H a = none → ¬ A a) → RepTL K A H ds vs → ∀ P, f ds P → ∀ Q : VK, (∀ d v H', P d → Rep K A H' d v → (H' = H ∨ ∃ p o, H p = none ∧ H' = upd H p o) → Q v H') → r vs H Q
def mN (f : FN) (Ma : MA) : ME := fun s R Xp => Ma s (fun xs hp1 => on (vals hp1 xs) fun ds => f ds fun d => R (.d d) hp1) Xp
theorem sim_cb {K : Frag} {W : WX} {r : List V → Hp → VK → Prop} {f : FN} {ta : TA} {Ma : MA} (hr : SimN K r f) (ha : SimA K W ta Ma) : SimE K W (tCB r ta) (mN f Ma) := by
  intro α s H σ w e R Xp m Q q qx
  refine ha α s H σ w e _ _ m _ (fun x hp1 α1 H1 v1 m1 e1 w1 r1 => ?_) qx
  obtain ⟨d1, g1, m1⟩ := on.ex m1
  all_goals
    refine hr _ H1 d1 v1 w1.non (r1.vals w1 g1) _ m1 Q fun d v H' p rp st => ?_
    rcases st with rfl | ⟨p0, o, hn, rfl⟩
    · exact q _ _ α1 _ v p e1 w1 rp
    · exact q _ _ α1 _ v p (e1.trans (Ext.fresh hn)) (w1.fresh hn) rp
def allD : List S → Option (List D)
  | [] => some []
  | .d x :: xs => match allD xs with
    | some ds => some (x :: ds)
    | _ => none
  | .mu _ :: _ => none
  | .ob _ _ :: _ => none
  | .exn _ _ _ _ :: _ => none
theorem SRepL.allD {K : Frag} {α : Mp_} {hp : List O} {H : Hp} : ∀ {ss : List S} {vs : List V} {ds : List D}, SRepL K α hp H ss vs → allD ss = some ds → RepL K (Al α hp) H ds vs
  | [], _, ds, h, e => by cases h; cases e; exact .nil
  | .d x :: xs, _, ds, h, e => by
    cases h with
    | cons h t =>
      unfold Mp.allD at e
      cases g2 : Mp.allD xs with
      | none => rw [g2] at e; cases e
      | some es =>
        rw [g2] at e
        cases e
        exact .cons h (SRepL.allD t g2)
  | .mu _ :: _, _, _, _, e => by cases e
  | .ob _ _ :: _, _, _, _, e => by cases e
  | .exn _ _ _ _ :: _, _, _, _, e => by cases e
def mTup (Ma : MA) : ME := fun s R Xp => Ma s (fun xs hp1 => on (allD xs) fun ds => ds.length ≤ sizeLine ∧ R (.d (.tup ds)) hp1) Xp
theorem sim_tup {K : Frag} {W : WX} {ta : TA} {Ma : MA} (ha : SimA K W ta Ma) : SimE K W (tTup ta) (mTup Ma) := by
  intro α s H σ w e R Xp m Q q qx
  refine ha α s H σ w e _ _ m _ (fun x hp1 α1 H1 v1 m1 e1 w1 r1 => ?_) qx
  obtain ⟨d1, g1, m1⟩ := on.ex m1
  all_goals
    have r2 := r1.allD g1
    refine ⟨by rw [← r2.length]; exact m1.1, fun p hn => ?_⟩
    have na : ¬ Al α1 hp1 p := fun z => by obtain ⟨o, ho⟩ := w1.there z; rw [hn] at ho; cases ho
    exact q _ _ α1 _ _ m1.2 (e1.trans (Ext.fresh hn)) (w1.fresh hn) ⟨p, v1, rfl, .inl ⟨upd_same, na⟩, RepL.mono (Step.fresh al_sub hn) _ _ r2⟩
def mLst (Ma : MA) : ME := fun s R Xp => Ma s (fun xs hp1 => on (allD xs) fun ds => ds.length ≤ sizeLine ∧ R (.d (.lst ds)) hp1) Xp
theorem sim_lst {K : Frag} {W : WX} {ta : TA} {Ma : MA} (ha : SimA K W ta Ma) : SimE K W (tLst ta) (mLst Ma) := by
  intro α s H σ w e R Xp m Q q qx
  refine ha α s H σ w e _ _ m _ (fun x hp1 α1 H1 v1 m1 e1 w1 r1 => ?_) qx
  obtain ⟨d1, g1, m1⟩ := on.ex m1
  all_goals
    have r2 := r1.allD g1
    refine ⟨by rw [← r2.length]; exact m1.1, fun p hn => ?_⟩
    have na : ¬ Al α1 hp1 p := fun z => by obtain ⟨o, ho⟩ := w1.there z; rw [hn] at ho; cases ho
    exact q _ _ α1 _ _ m1.2 (e1.trans (Ext.fresh hn)) (w1.fresh hn) ⟨p, v1, rfl, ⟨upd_same, na⟩, RepL.mono (Step.fresh al_sub hn) _ _ r2⟩
def Mp_.push (α : Mp_) (p : Addr × List Addr) : Mp_ := { α with own := α.own ++ [p] }
theorem mt_push {α : Mp_} {hp : List O} (hl : α.own.length = hp.length) {p : Addr × List Addr} {o : O} {a : Addr} : Mt (α.push p) (hp ++ [o]) a ↔ Mt α hp a ∨ (o ≠ .gone ∧ (a = p.1 ∨ a ∈ p.2)) := by
  constructor
  · rintro ⟨n, q, u, h1, h2, h3, h4⟩
    have h1 : (α.own ++ [p])[n]? = some q := h1
    by_cases hn : n < α.own.length
    · rw [List.getElem?_append_left hn] at h1
      rw [List.getElem?_append_left (by omega)] at h2
      exact .inl ⟨n, q, u, h1, h2, h3, h4⟩
    · have hx : n < (α.own ++ [p]).length := (List.getElem?_eq_some_iff.mp h1).1
      have en : n = α.own.length := by simp at hx; omega
      subst en
      rw [List.getElem?_append_right (Nat.le_refl _)] at h1
      rw [hl, List.getElem?_append_right (Nat.le_refl _)] at h2
      simp at h1 h2
      subst h1 h2
      exact .inr ⟨h3, h4⟩
  · rintro (⟨n, q, u, h1, h2, h3, h4⟩ | ⟨h3, h4⟩)
    · refine ⟨n, q, u, ?_, ?_, h3, h4⟩
      · show (α.own ++ [p])[n]? = _
        rw [List.getElem?_append_left (List.getElem?_eq_some_iff.mp h1).1]; exact h1
      · rw [List.getElem?_append_left (List.getElem?_eq_some_iff.mp h2).1]; exact h2
    · refine ⟨α.own.length, p, o, ?_, ?_, h3, h4⟩
      · show (α.own ++ [p])[α.own.length]? = _
        rw [List.getElem?_append_right (Nat.le_refl _)]; simp
      · rw [hl, List.getElem?_append_right (Nat.le_refl _)]; simp
theorem WOk.pushO {K : Frag} {α : Mp_} {hp : List O} {H H' : Hp} {p : Addr × List Addr} {o : O} (w : WOk K α hp H) (st : StepW α hp H (α.push p) (hp ++ [o]) H')
    (same : ∀ a, Al α hp a → H' a = H a) (na : ∀ a, (a = p.1 ∨ a ∈ p.2) → ¬ Al α hp a) (one : p.1 ∉ p.2 ∧ p.2.Nodup) (ho : OR K (Al (α.push p) (hp ++ [o])) H' p o) : WOk K (α.push p) (hp ++ [o]) H' := by
  have hl := w.len
  have cut : ∀ (n : Nat) (u : O) (q : Addr × List Addr), (hp ++ [o])[n]? = some u → (α.own ++ [p])[n]? = some q → (hp[n]? = some u ∧ α.own[n]? = some q) ∨ (n = hp.length ∧ u = o ∧ q = p) := fun n u q h1 h2 => by
    by_cases hn : n < hp.length
    · rw [List.getElem?_append_left hn] at h1
      rw [List.getElem?_append_left (by omega)] at h2
      exact .inl ⟨h1, h2⟩
    · have hx : n < (hp ++ [o]).length := (List.getElem?_eq_some_iff.mp h1).1
      have en : n = hp.length := by simp at hx; omega
      subst en
      rw [List.getElem?_append_right (Nat.le_refl _)] at h1
      rw [← hl, List.getElem?_append_right (Nat.le_refl _)] at h2
      simp at h1 h2
      exact .inr ⟨rfl, h1.symm, h2.symm⟩
  refine ⟨by show (α.own ++ [p]).length = _; simp [hl], fun n u q h1 h2 => ?_, fun n u q h1 h2 hg => ?_, fun m n u u' q q' h1 h2 h3 h4 h5 h6 hne a ha hb => ?_, fun a ha => ?_⟩
  · rcases cut n u q h1 h2 with ⟨h1, h2⟩ | ⟨_, rfl, rfl⟩
    · exact (w.obj n u q h1 h2).mono st fun hg b hb => same b (.inl ⟨n, q, u, h2, h1, hg, hb⟩)
    · exact ho
  · rcases cut n u q h1 h2 with ⟨h1, h2⟩ | ⟨_, rfl, rfl⟩
    · exact w.one n u q h1 h2 hg
    · exact one
  · rcases cut m u q h1 h2 with ⟨h1, h2⟩ | ⟨e1, rfl, rfl⟩
    · rcases cut n u' q' h4 h5 with ⟨h4, h5⟩ | ⟨e2, z1, z2⟩
      · exact w.inj m n u u' q q' h1 h2 h3 h4 h5 h6 hne a ha hb
      · rw [z2] at hb; exact na a hb (.inl ⟨m, q, u, h2, h1, h3, ha⟩)
    · rcases cut n u' q' h4 h5 with ⟨h4, h5⟩ | ⟨e2, rfl, rfl⟩
      · exact na a ha (.inl ⟨n, q', u', h5, h4, h6, hb⟩)
      · exact hne (e1.trans e2.symm)
  · have ha : α.ban a := ha
    obtain ⟨⟨x, hx⟩, hm⟩ := w.ban a ha
    refine ⟨⟨x, by rw [same a (.inr ha)]; exact hx⟩, fun z => ?_⟩
    rcases (mt_push hl).mp z with z | ⟨_, z⟩
    · exact hm z
    · exact na a z (.inr ha)
theorem Ext.push {α : Mp_} {hp : List O} {H H' : Hp} {p : Addr × List Addr} {o : O} (st : StepW α hp H (α.push p) (hp ++ [o]) H') (hn : H p.1 = none) : Ext α hp H (α.push p) (hp ++ [o]) H' :=
  ⟨⟨OwnLe.app _ _, rfl⟩, st, fun n q h e => by
    have e : (α.own ++ [p])[n]? = some q := e
    rw [List.getElem?_append_right h] at e
    cases z : n - α.own.length with
    | zero => rw [z] at e; cases e; exact hn
    | succ k => rw [z] at e; cases e⟩
theorem WOk.pushLst {K : Frag} {α : Mp_} {hp : List O} {H : Hp} {p : Addr} {ds : List D} {vs : List V} (w : WOk K α hp H) (hn : H p = none) (r : RepL K (Al α hp) H ds vs) :
    WOk K (α.push (p, [])) (hp ++ [.lst ds]) (upd H p (.lst vs)) ∧ Ext α hp H (α.push (p, [])) (hp ++ [.lst ds]) (upd H p (.lst vs)) := by
  have mt : ∀ a, Mt (α.push (p, [])) (hp ++ [.lst ds]) a → Mt α hp a ∨ a = p := fun a h => by
    rcases (mt_push w.len).mp h with h | ⟨_, h⟩
    · exact .inl h
    · rcases h with h | h
      · exact .inr h
      · cases h
  have na : ¬ Al α hp p := w.non p hn
  have st : StepW α hp H (α.push (p, [])) (hp ++ [.lst ds]) (upd H p (.lst vs)) := ⟨(Step.fresh (A := Al α hp) (M := Mt α hp) al_sub hn).keep, fun a h => by
    rcases h with h | h
    · exact (mt a h).imp .inl fun e => by rw [e]; exact hn
    · exact .inl (.inr h), fun a h => (mt a h).imp id fun e => by rw [e]; exact hn, al_sub, (Step.fresh (A := Al α hp) (M := Mt α hp) al_sub hn).stay⟩
  refine ⟨w.pushO st (fun a h => upd_ne fun e => na (e ▸ h)) (fun a h => ?_) ⟨by simp, by simp⟩ ⟨rfl, vs, upd_same, RepL.mono st _ _ r⟩, Ext.push st hn⟩
  rcases h with h | h
  · rw [h]; exact na
  · cases h
def mLstM (Ma : MA) : ME := fun s R Xp => Ma s (fun xs hp1 => on (allD xs) fun ds => ds.length ≤ sizeLine ∧ R (.mu hp1.length) (hp1 ++ [.lst ds])) Xp
theorem sim_lstM {K : Frag} {W : WX} {ta : TA} {Ma : MA} (ha : SimA K W ta Ma) : SimE K W (tLst ta) (mLstM Ma) := by
  intro α s H σ w e R Xp m Q q qx
  refine ha α s H σ w e _ _ m _ (fun x hp1 α1 H1 v1 m1 e1 w1 r1 => ?_) qx
  obtain ⟨d1, g1, m1⟩ := on.ex m1
  all_goals
    have r2 := r1.allD g1
    refine ⟨by rw [← r2.length]; exact m1.1, fun p hn => ?_⟩
    obtain ⟨w2, e2⟩ := w1.pushLst hn r2
    exact q _ _ _ _ _ m1.2 (e1.trans e2) w2 ⟨(p, []), by show (α1.own ++ [(p, [])])[hp1.length]? = _; rw [← w1.len, List.getElem?_append_right (Nat.le_refl _)]; simp, rfl⟩
def asB : S → Option Bool
  | .d (.bl b) => some b
  | _ => none
theorem SRep.asB {K : Frag} {α : Mp_} {hp : List O} {H : Hp} {s : S} {v : V} {b : Bool} (h : SRep K α hp H s v) (e : asB s = some b) : v = .bl b := by
  unfold Mp.asB at e
  split at e
  · cases e; exact h
  · cases e
def mTest (Ma : ME) : MT := fun s R Xp => Ma s (fun x hp1 => on (asB x) fun b => R b hp1) Xp
theorem sim_test {K : Frag} {W : WX} {ta : TE} {Ma : ME} (ha : SimE K W ta Ma) : SimT K W (tTest ta) (mTest Ma) := by
  intro α s H σ w e R Xp m Q q qx
  refine ha α s H σ w e _ _ m _ (fun x hp1 α1 H1 v1 m1 e1 w1 r1 => ?_) qx
  obtain ⟨b, g1, m1⟩ := on.ex m1
  exact ⟨b, r1.asB g1, q _ _ α1 _ m1 e1 w1⟩
theorem sim_tB {K : Frag} {W : WX} {ta : TE} {Ma : ME} (ha : SimE K W ta Ma) : SimT K W (tB ta) (mTest Ma) := sim_test ha
def mAnd (Ma Mb : MT) : MT := fun s R Xp => Ma s (fun b hp1 => if b = true then Mb { s with hp := hp1 } R Xp else R false hp1) Xp
def mOr (Ma Mb : MT) : MT := fun s R Xp => Ma s (fun b hp1 => if b = true then R true hp1 else Mb { s with hp := hp1 } R Xp) Xp
def mNot (Ma : MT) : MT := fun s R Xp => Ma s (fun b hp1 => R (!b) hp1) Xp
theorem sim_and {K : Frag} {W : WX} {t u : TT} {Ma Mb : MT} (ha : SimT K W t Ma) (hb : SimT K W u Mb) : SimT K W (tAnd t u) (mAnd Ma Mb) := by
  intro α s H σ w e R Xp m Q q qx
  refine ha α s H σ w e _ _ m _ (fun b hp1 α1 H1 m1 e1 w1 => ?_) qx
  cases b with
  | true => exact hb α1 { s with hp := hp1 } H1 σ w1 (e.mono e1) _ _ m1 _ (q.at e1) (qx.at e1)
  | false => exact q _ _ α1 _ m1 e1 w1
theorem sim_or {K : Frag} {W : WX} {t u : TT} {Ma Mb : MT} (ha : SimT K W t Ma) (hb : SimT K W u Mb) : SimT K W (tOr t u) (mOr Ma Mb) := by
  intro α s H σ w e R Xp m Q q qx
  refine ha α s H σ w e _ _ m _ (fun b hp1 α1 H1 m1 e1 w1 => ?_) qx
  cases b with
  | true => exact q _ _ α1 _ m1 e1 w1
  | false => exact hb α1 { s with hp := hp1 } H1 σ w1 (e.mono e1) _ _ m1 _ (q.at e1) (qx.at e1)
theorem sim_not {K : Frag} {W : WX} {t : TT} {Ma : MT} (ha : SimT K W t Ma) : SimT K W (tNot t) (mNot Ma) := by
  intro α s H σ w e R Xp m Q q qx
  exact ha α s H σ w e _ _ m _ (fun b hp1 α1 H1 m1 e1 w1 => q _ _ α1 _ m1 e1 w1) qx
def mAndV (Ma Mb : ME) : ME := fun s R Xp => Ma s (fun x hp1 => on (asB x) fun b => if b = true then Mb { s with hp := hp1 } R Xp else R (.d (.bl false)) hp1) Xp
def mOrV (Ma Mb : ME) : ME := fun s R Xp => Ma s (fun x hp1 => on (asB x) fun b => if b = true then R (.d (.bl true)) hp1 else Mb { s with hp := hp1 } R Xp) Xp
def mNotV (Ma : ME) : ME := fun s R Xp => Ma s (fun x hp1 => on (asB x) fun b => R (.d (.bl (!b))) hp1) Xp
theorem sim_andV {K : Frag} {W : WX} {t u : TE} {Ma Mb : ME} (ha : SimE K W t Ma) (hb : SimE K W u Mb) : SimE K W (tAndV t u) (mAndV Ma Mb) := by
  intro α s H σ w e R Xp m Q q qx
  refine ha α s H σ w e _ _ m _ (fun x hp1 α1 H1 v1 m1 e1 w1 r1 => ?_) qx
  obtain ⟨b, g1, m1⟩ := on.ex m1
  all_goals
    refine ⟨b, r1.asB g1, ?_⟩
    cases b with
    | true => exact hb α1 { s with hp := hp1 } H1 σ w1 (e.mono e1) _ _ m1 _ (q.at e1) (qx.at e1)
    | false => exact q _ _ α1 _ _ m1 e1 w1 rfl
theorem sim_orV {K : Frag} {W : WX} {t u : TE} {Ma Mb : ME} (ha : SimE K W t Ma) (hb : SimE K W u Mb) : SimE K W (tOrV t u) (mOrV Ma Mb) := by
  intro α s H σ w e R Xp m Q q qx
  refine ha α s H σ w e _ _ m _ (fun x hp1 α1 H1 v1 m1 e1 w1 r1 => ?_) qx
  obtain ⟨b, g1, m1⟩ := on.ex m1
  all_goals
    refine ⟨b, r1.asB g1, ?_⟩
    cases b with
    | true => exact q _ _ α1 _ _ m1 e1 w1 rfl
    | false => exact hb α1 { s with hp := hp1 } H1 σ w1 (e.mono e1) _ _ m1 _ (q.at e1) (qx.at e1)
theorem sim_notV {K : Frag} {W : WX} {t : TE} {Ma : ME} (ha : SimE K W t Ma) : SimE K W (tNotV t) (mNotV Ma) := by
  intro α s H σ w e R Xp m Q q qx
  refine ha α s H σ w e _ _ m _ (fun x hp1 α1 H1 v1 m1 e1 w1 r1 => ?_) qx
  obtain ⟨b, g1, m1⟩ := on.ex m1
  exact ⟨b, r1.asB g1, q _ _ α1 _ _ m1 e1 w1 rfl⟩
def mChain (f g : F2) (Ma Mb Mc : ME) : ME := fun s R Xp => Ma s (fun x hp1 => Mb { s with hp := hp1 } (fun y hp2 => on (val hp2 x) fun d1 => on (val hp2 y) fun d2 => f d1 d2 fun d =>
  on (asB (.d d)) fun b => if b = true then Mc { s with hp := hp2 } (fun z hp3 => on (val hp3 y) fun d2 => on (val hp3 z) fun d3 => g d2 d3 fun d => R (.d d) hp3) Xp else R (.d (.bl false)) hp2) Xp) Xp
theorem sim_chain {K : Frag} {W : WX} {r r' : R2} {f g : F2} {ta tb tc : TE} {Ma Mb Mc : ME} (hr : Sim2 K r f) (hr' : Sim2 K r' g) (ha : SimE K W ta Ma) (hb : SimE K W tb Mb) (hc : SimE K W tc Mc) : SimE K W (tChain r r' ta tb tc) (mChain f g Ma Mb Mc) := by
  intro α s H σ w e R Xp m Q q qx
  refine ha α s H σ w e _ _ m _ (fun x hp1 α1 H1 v1 m1 e1 w1 r1 => ?_) qx
  refine hb α1 { s with hp := hp1 } H1 σ w1 (e.mono e1) _ _ m1 _ (fun y hp2 α2 H2 v2 m2 e2 w2 r2 => ?_) (qx.at e1)
  obtain ⟨d1, g1, m2⟩ := on.ex m2
  obtain ⟨d2, g2, m2⟩ := on.ex m2
  refine hr _ H2 d1 d2 v1 v2 w2.non ((r1.mono e2).val w2 g1) (r2.val w2 g2) _ m2 _ fun d v H' p rp st => ?_
  obtain ⟨b, g3, p⟩ := on.ex p
  obtain ⟨e3, w3⟩ := w2.grown st
  have hv : v = .bl b := by
    unfold asB at g3
    split at g3
    · cases g3; rename_i q; cases q; exact rp
    · cases g3
  refine ⟨b, hv, ?_⟩
  cases b with
  | false => exact q _ _ α2 _ _ p ((e1.trans e2).trans e3) w3 rfl
  | true =>
    refine hc α2 { s with hp := hp2 } H' σ w3 ((e.mono (e1.trans e2)).mono e3) _ _ p _ (fun z hp3 α3 H3 v3 m3 e4 w4 r4 => ?_) (((qx.at e1).at e2).at e3)
    obtain ⟨d2', g4, m3⟩ := on.ex m3
    obtain ⟨d3, g5, m3⟩ := on.ex m3
    refine hr' _ H3 d2' d3 v2 v3 w4.non (((r2.mono e3).mono e4).val w4 g4) (r4.val w4 g5) _ m3 Q fun d' v' H4 p' rp' st' => ?_
    obtain ⟨e5, w5⟩ := w4.grown st'
    exact q _ _ α3 _ _ p' ((((e1.trans e2).trans e3).trans e4).trans e5) w5 rp'
end Mp
set_option Elab.async false
set_option linter.all false
set_option maxRecDepth 100000
set_option maxHeartbeats 4000000
namespace Mp
open PySem PySem.Spec PyProof.Rows L2
theorem OpR.or {X : Cx} {f : Value → Value → Sem Value} {r r' : R2} (h : OpR X f r) (h' : OpR X f r') : OpR X f (fun x y H Q => r x y H Q ∨ r' x y H Q) := by
  intro pins s σ H x y v u Q I rx ry q
  rcases q with q | q
  · exact h pins s σ H x y v u Q I rx ry q
  · exact h' pins s σ H x y v u Q I rx ry q
theorem CallR.or {X : Cx} {f : Value} {r r' : List V → Hp → VK → Prop} (h : CallR X f r) (h' : CallR X f r') : CallR X f (fun x H Q => r x H Q ∨ r' x H Q) := by
  intro pins s σ H xs us Q I rx q
  rcases q with q | q
  · exact h pins s σ H xs us Q I rx q
  · exact h' pins s σ H xs us Q I rx q
def fI (C : Int → Int → Prop) (g : Int → Int → D) : F2 := fun a b P => match a, b with
  | .int i, .int j => C i j ∧ P (g i j)
  | _, _ => False
@[simp] theorem fI_int {C : Int → Int → Prop} {g : Int → Int → D} {i j : Int} {P : D → Prop} : fI C g (.int i) (.int j) P = (C i j ∧ P (g i j)) := rfl
theorem sim_I {K : Frag} {C : Int → Int → Prop} {g : Int → Int → D} {g' : Int → Int → V} (hg : ∀ A H i j, Rep K A H (g i j) (g' i j)) : Sim2 K (rI C g') (fI C g) := by
  intro A H d1 d2 v1 v2 _ r1 r2 P p Q q
  cases d1 <;> cases d2 <;> first | exact p.elim | (cases r1; cases r2; exact ⟨_, _, rfl, rfl, p.1, q _ _ _ p.2 (hg _ _ _ _) (.inl rfl)⟩)
def fI0 (g : Int → Int → D) : F2 := fun a b P => match a, b with
  | .int i, .int j => P (g i j)
  | _, _ => False
@[simp] theorem fI0_int {g : Int → Int → D} {i j : Int} {P : D → Prop} : fI0 g (.int i) (.int j) P = P (g i j) := rfl
theorem sim_I0 {K : Frag} {g : Int → Int → D} {g' : Int → Int → V} (hg : ∀ A H i j, Rep K A H (g i j) (g' i j)) : Sim2 K (rI0 g') (fI0 g) := by
  intro A H d1 d2 v1 v2 _ r1 r2 P p Q q
  cases d1 <;> cases d2 <;> first | exact p.elim | (cases r1; cases r2; exact ⟨_, _, rfl, rfl, q _ _ _ p (hg _ _ _ _) (.inl rfl)⟩)
def fAdd : F2 := fun a b P => match a, b with
  | .int i, .int j => P (.int (i + j))
  | .str x, .str y => x.length + y.length ≤ sizeLine ∧ P (.str (x ++ y))
  | .lst x, .lst y => x.length + y.length ≤ sizeLine ∧ P (.lst (x ++ y))
  | .tup x, .tup y => x.length + y.length ≤ sizeLine ∧ P (.tup (x ++ y))
  | _, _ => False
@[simp] theorem fAdd_int {i j : Int} {P : D → Prop} : fAdd (.int i) (.int j) P = P (.int (i + j)) := rfl
@[simp] theorem fAdd_str {i j : Str} {P : D → Prop} : fAdd (.str i) (.str j) P = (i.length + j.length ≤ sizeLine ∧ P (.str (i ++ j))) := rfl
@[simp] theorem fAdd_lst {i j : List D} {P : D → Prop} : fAdd (.lst i) (.lst j) P = (i.length + j.length ≤ sizeLine ∧ P (.lst (i ++ j))) := rfl
@[simp] theorem fAdd_tup {i j : List D} {P : D → Prop} : fAdd (.tup i) (.tup j) P = (i.length + j.length ≤ sizeLine ∧ P (.tup (i ++ j))) := rfl
def rAddS2 : R2 := fun x y H Q => ∃ i j, x = .str i ∧ y = .str j ∧ i.length + j.length ≤ sizeLine ∧ Q (.str (i ++ j)) H
def rAddA (K : Frag) : R2 := fun x y H Q => rI0 (fun i j => .int (i + j)) x y H Q ∨ rAddS2 x y H Q ∨ rCat x y H Q ∨ rCatA K x y H Q
theorem op_addA {X : Cx} : OpR X (binaryOp .Add) (rAddA X.K) := OpR.or op_add (OpR.or op_add_str (OpR.or op_cat op_catA))
theorem tup_sq {K : Frag} {A : Av} {H : Hp} {ds : List D} {v : V} (h : Rep K A H (.tup ds) v) : ∃ a vs, v = .ref a ∧ SqT K H a vs ∧ RepL K A H ds vs := by
  obtain ⟨a, vs, e, h, r⟩ := h
  refine ⟨a, vs, e, ?_, r⟩
  rcases h with h | h
  · exact .inl (.inl h.1)
  · rcases h with h | h
    · rcases h with h | ⟨_, h⟩ <;> cases h
    · exact .inr h
theorem fl_sq {K : Frag} {A : Av} {H : Hp} {ds : List D} {v : V} (h : Rep K A H (.fl ds) v) : ∃ a vs, v = .ref a ∧ SqL K H a vs ∧ RepL K A H ds vs := by
  obtain ⟨a, vs, e, h, r⟩ := h
  refine ⟨a, vs, e, ?_, r⟩
  rcases h with h | h
  · exact .inl h.1
  · rcases h with h | h
    · rcases h with h | ⟨_, h⟩ <;> cases h
    · exact .inr h
theorem new_lst {K : Frag} {A : Av} {H : Hp} {ds : List D} {vs : List V} {p : Addr} (hA : ∀ a, H a = none → ¬ A a) (hn : H p = none) (r : RepL K A H ds vs) : Rep K A (upd H p (.lst vs)) (.lst ds) (.ref p) :=
  ⟨p, vs, rfl, ⟨upd_same, hA p hn⟩, RepL.mono (Step.fresh (M := noA) (fun _ z => z.elim) hn) _ _ r⟩
theorem new_tup {K : Frag} {A : Av} {H : Hp} {ds : List D} {vs : List V} {p : Addr} (hA : ∀ a, H a = none → ¬ A a) (hn : H p = none) (r : RepL K A H ds vs) : Rep K A (upd H p (.tup vs)) (.tup ds) (.ref p) :=
  ⟨p, vs, rfl, .inl ⟨upd_same, hA p hn⟩, RepL.mono (Step.fresh (M := noA) (fun _ z => z.elim) hn) _ _ r⟩
theorem sim_add {K : Frag} : Sim2 K (rAddA K) fAdd := by
  intro A H d1 d2 v1 v2 hA r1 r2 P p Q q
  cases d1 with
  | int i =>
    cases d2 with
    | int j => cases r1; cases r2; exact .inl ⟨_, _, rfl, rfl, q _ _ _ p rfl (.inl rfl)⟩
    | _ => exact p.elim
  | str i =>
    cases d2 with
    | str j => cases r1; cases r2; exact .inr (.inl ⟨_, _, rfl, rfl, p.1, q _ _ _ p.2 rfl (.inl rfl)⟩)
    | _ => exact p.elim
  | lst i =>
    cases d2 with
    | lst j =>
      obtain ⟨a, vs, rfl, h1, k1⟩ := r1
      obtain ⟨b, us, rfl, h2, k2⟩ := r2
      exact .inr (.inr (.inl ⟨a, b, vs, us, rfl, rfl, h1, h2, by rw [← k1.length, ← k2.length]; exact p.1, fun l hl => q _ _ _ p.2 (new_lst hA hl (k1.append k2)) (.inr ⟨l, _, hl, rfl⟩)⟩))
    | _ => exact p.elim
  | tup i =>
    cases d2 with
    | tup j =>
      obtain ⟨a, vs, e1, h1, k1⟩ := tup_sq (r1 : Rep K A H (.tup i) v1)
      obtain ⟨b, us, e2, h2, k2⟩ := tup_sq (r2 : Rep K A H (.tup j) v2)
      refine .inr (.inr (.inr ⟨a, b, vs, us, e1, e2, h1, h2, by rw [← k1.length, ← k2.length]; exact p.1, fun z => ?_, fun z1 z => ?_, fun _ _ l hl => q _ _ _ p.2 (new_tup hA hl (k1.append k2)) (.inr ⟨l, _, hl, rfl⟩)⟩))
      · subst z
        have e : i = [] := List.eq_nil_of_length_eq_zero (by have := k1.length; simpa using this)
        subst e
        exact q _ _ _ p.2 (e2 ▸ r2) (.inl rfl)
      · subst z
        have e : j = [] := List.eq_nil_of_length_eq_zero (by have := k2.length; simpa using this)
        subst e
        refine q _ _ _ p.2 ?_ (.inl rfl)
        rw [List.append_nil]
        exact e1 ▸ r1
    | _ => exact p.elim
  | _ => exact p.elim
def fMul : F2 := fun a b P => match a, b with
  | .int i, .int j => (CMul i j ∨ CMulW i j) ∧ P (.int (i * j))
  | .lst x, .int k => -(2 ^ 63) ≤ k ∧ k < 2 ^ 63 ∧ x.length * k.toNat ≤ sizeLine ∧ P (.lst (List.flatten (List.replicate k.toNat x)))
  | .str x, .int k => MulOk x k ∧ P (.str (Txt.mul x k))
  | _, _ => False
@[simp] theorem fMul_str {x : Str} {k : Int} {P : D → Prop} : fMul (.str x) (.int k) P = (MulOk x k ∧ P (.str (Txt.mul x k))) := rfl
@[simp] theorem fMul_int {i j : Int} {P : D → Prop} : fMul (.int i) (.int j) P = ((CMul i j ∨ CMulW i j) ∧ P (.int (i * j))) := rfl
@[simp] theorem fMul_lst {x : List D} {k : Int} {P : D → Prop} : fMul (.lst x) (.int k) P = (-(2 ^ 63) ≤ k ∧ k < 2 ^ 63 ∧ x.length * k.toNat ≤ sizeLine ∧ P (.lst (List.flatten (List.replicate k.toNat x)))) := rfl
theorem RepL.flat {K : Frag} {A : Av} {H : Hp} {ds : List D} {vs : List V} (r : RepL K A H ds vs) : ∀ n : Nat, RepL K A H (List.flatten (List.replicate n ds)) (List.flatten (List.replicate n vs))
  | 0 => rfl
  | n + 1 => by rw [List.replicate_succ, List.replicate_succ, List.flatten_cons, List.flatten_cons]; exact r.append (RepL.flat r n)
def rMulS : R2 := fun x y H Q => ∃ (a : Str) (k : Int), x = .str a ∧ y = .int k ∧ MulOk a k ∧ Q (.str (Txt.mul a k)) H
theorem op_mulS {X : Cx} : OpR X (binaryOp .Mult) rMulS := by
  intro pins s σ H x y v u Q I rx ry h
  obtain ⟨a, k, rfl, rfl, hz, q⟩ := h
  obtain ⟨t, rfl⟩ := rx
  obtain ⟨t', rfl⟩ := ry
  exact SB.mul hz fun t' tk => ⟨.str (Txt.mul a k), H, I.tok _, ⟨_, rfl⟩, q⟩
def rMulA : R2 := fun x y H Q => rI CMul (fun i j => .int (i * j)) x y H Q ∨ rI CMulW (fun i j => .int (i * j)) x y H Q ∨ rRep x y H Q ∨ rMulS x y H Q
theorem op_mulA {X : Cx} : OpR X (binaryOp .Mult) rMulA := OpR.or op_mul (OpR.or op_mulW (OpR.or op_rep op_mulS))
theorem sim_mul {K : Frag} : Sim2 K rMulA fMul := by
  intro A H d1 d2 v1 v2 hA r1 r2 P p Q q
  cases d1 with
  | int i =>
    cases d2 with
    | int j =>
      cases r1; cases r2
      rcases p.1 with c | c
      · exact .inl ⟨_, _, rfl, rfl, c, q _ _ _ p.2 rfl (.inl rfl)⟩
      · exact .inr (.inl ⟨_, _, rfl, rfl, c, q _ _ _ p.2 rfl (.inl rfl)⟩)
    | _ => exact p.elim
  | lst i =>
    cases d2 with
    | int j =>
      obtain ⟨a, vs, rfl, h1, k1⟩ := r1
      cases r2
      obtain ⟨p1, p2, p3, p4⟩ := p
      exact .inr (.inr (.inl ⟨a, _, vs, rfl, rfl, h1, p1, p2, by rw [← k1.length]; exact p3, fun l hl => q _ _ _ p4 (new_lst hA hl (k1.flat _)) (.inr ⟨l, _, hl, rfl⟩)⟩))
    | _ => exact p.elim
  | str i =>
    cases d2 with
    | int j =>
      cases r1; cases r2
      exact .inr (.inr (.inr ⟨_, _, rfl, rfl, p.1, q _ _ _ p.2 rfl (.inl rfl)⟩))
    | _ => exact p.elim
  | _ => exact p.elim
mutual
def D.py : D → PyData
  | .non => .none
  | .bl b => .bool b
  | .int i => .int i
  | .str x => .str x
  | .ty _ => .dict []
  | .tup ds => .tuple (D.pyL ds)
  | .lst ds => .list (D.pyL ds)
  | .fl ds => .list (D.pyL ds)
  | .obj _ _ _ => .dict []
def D.pyL : List D → List PyData
  | [] => []
  | d :: ds => D.py d :: D.pyL ds
end
def eqD (a b : D) : Bool := PyData.eqv a.py b.py
def shD (d : D) : Bool := SeqAt.shaped d.py
mutual
theorem Rep.dp {K : Frag} {A : Av} {H : Hp} : ∀ (d : D) (v : V), d.py.canLay0 = true → Rep K A H d v → Dp K H v d.py
  | .non, _, _, h => by cases h; exact .non
  | .bl b, _, _, h => by cases h; exact .bl b
  | .int b, _, _, h => by cases h; exact .int b
  | .str b, _, _, h => by cases h; exact .str b
  | .ty b, _, z, h => by simp [D.py, PyData.canLay0] at z
  | .obj _ _ _, _, z, h => by simp [D.py, PyData.canLay0] at z
  | .tup ds, v, z, h => by
    obtain ⟨a, vs, e, h1, r⟩ := tup_sq h
    subst e
    exact .tup h1 (RepL.dp ds vs (by simpa [D.py, PyData.canLay0] using z) r)
  | .lst ds, v, z, h => by
    obtain ⟨a, vs, e, h1, r⟩ := h
    subst e
    exact .lst (.inl (.inl h1.1)) (RepL.dp ds vs (by simpa [D.py, PyData.canLay0] using z) r)
  | .fl ds, v, z, h => by
    obtain ⟨a, vs, e, h1, r⟩ := fl_sq h
    subst e
    exact .lst h1 (RepL.dp ds vs (by simpa [D.py, PyData.canLay0] using z) r)
theorem RepL.dp {K : Frag} {A : Av} {H : Hp} : ∀ (ds : List D) (vs : List V), PyData.canLayAll0 (D.pyL ds) = true → RepL K A H ds vs → DpAll K H vs (D.pyL ds)
  | [], _, _, h => by cases h; exact .nil
  | d :: ds, _, z, ⟨v, r, e, h, t⟩ => by
    subst e
    have z2 : d.py.canLay0 = true ∧ PyData.canLayAll0 (D.pyL ds) = true := by simpa [D.pyL, PyData.canLayAll0] using z
    exact .cons (Rep.dp d v z2.1 h) (RepL.dp ds r z2.2 t)
end
theorem RepT.dp {K : Frag} {A : Av} {H : Hp} {d : D} {v : V} (z : shD d = true) (h : RepT K A H d v) : Dp K H v d.py := by
  have z1 := SeqAt.canLay_of_shaped z
  cases d with
  | lst ds =>
    obtain ⟨a, vs, e, h1, r⟩ := h
    subst e
    exact .lst (.inl (.inl h1)) (RepL.dp ds vs (by simpa [D.py, PyData.canLay0] using z1) r)
  | non => exact Rep.dp (A := A) _ _ z1 h
  | bl _ => exact Rep.dp (A := A) _ _ z1 h
  | int _ => exact Rep.dp (A := A) _ _ z1 h
  | str _ => exact Rep.dp (A := A) _ _ z1 h
  | ty _ => exact Rep.dp (A := A) _ _ z1 h
  | tup _ => exact Rep.dp (A := A) _ _ z1 h
  | fl _ => exact Rep.dp (A := A) _ _ z1 h
  | obj _ _ _ => exact Rep.dp (A := A) _ _ z1 h
def fEq : F2 := fun a b P => shD a = true ∧ shD b = true ∧ P (.bl (eqD a b))
def fNe : F2 := fun a b P => shD a = true ∧ shD b = true ∧ P (.bl (!eqD a b))
theorem sim_eq {K : Frag} : Sim2 K (rEqD K) fEq := by
  intro A H d1 d2 v1 v2 hA r1 r2 P p Q q
  exact ⟨_, _, r1.dp p.1, r2.dp p.2.1, p.1, p.2.1, q _ _ _ p.2.2 rfl (.inl rfl)⟩
theorem sim_ne {K : Frag} : Sim2 K (rNeD K) fNe := by
  intro A H d1 d2 v1 v2 hA r1 r2 P p Q q
  exact ⟨_, _, r1.dp p.1, r2.dp p.2.1, p.1, p.2.1, q _ _ _ p.2.2 rfl (.inl rfl)⟩
def isNon : D → Bool
  | .non => true
  | _ => false
theorem RepT.isNon {K : Frag} {A : Av} {H : Hp} {d : D} {v : V} (h : RepT K A H d v) : decide (v = .non) = isNon d := by
  cases d with
  | non => cases h; rfl
  | bl b => cases h; rfl
  | int b => cases h; rfl
  | str b => cases h; rfl
  | ty b => cases h; rfl
  | tup ds => obtain ⟨a, vs, e, _⟩ := h; subst e; rfl
  | fl ds => obtain ⟨a, vs, e, _⟩ := h; subst e; rfl
  | lst ds => obtain ⟨a, vs, e, _⟩ := h; subst e; rfl
  | obj _ _ _ => obtain ⟨a, vs, dx, e, _⟩ := h; subst e; rfl
def fIsN : F2 := fun a b P => match b with
  | .non => P (.bl (isNon a))
  | _ => False
@[simp] theorem fIsN_non {a : D} {P : D → Prop} : fIsN a .non P = P (.bl (isNon a)) := rfl
def rIsNo : R2 := fun x y H Q => y = .non ∧ Q (.bl (decide (x = .non))) H
theorem sim_isN {K : Frag} : Sim2 K rIsNo fIsN := by
  intro A H d1 d2 v1 v2 hA r1 r2 P p Q q
  cases d2 <;> first | exact p.elim | (cases r2; exact ⟨rfl, by rw [r1.isNon]; exact q _ _ _ p rfl (.inl rfl)⟩)
def flatD : D → Bool
  | .non => true
  | .bl _ => true
  | .int _ => true
  | .str _ => true
  | _ => false
theorem Rep.flat {K : Frag} {A : Av} {H : Hp} {d : D} {v : V} (h : Rep K A H d v) (f : flatD d = true) : flatV v = true := by
  cases d with
  | non => cases h; rfl
  | bl _ => cases h; rfl
  | int _ => cases h; rfl
  | str _ => cases h; rfl
  | _ => exact absurd f (by simp [flatD])
def items : D → Option (List D)
  | .tup ds => some ds
  | .lst ds => some ds
  | .fl ds => some ds
  | _ => none
@[simp] theorem items_tup {ds : List D} : items (.tup ds) = some ds := rfl
@[simp] theorem items_lst {ds : List D} : items (.lst ds) = some ds := rfl
@[simp] theorem items_fl {ds : List D} : items (.fl ds) = some ds := rfl
theorem RepT.items {K : Frag} {A : Av} {H : Hp} {d : D} {v : V} {ds : List D} (h : RepT K A H d v) (e : items d = some ds) : ∃ a vs, v = .ref a ∧ (SqL K H a vs ∨ SqT K H a vs) ∧ RepL K A H ds vs := by
  cases d with
  | tup ds => cases e; obtain ⟨a, vs, e1, h1, r⟩ := tup_sq (h : Rep K A H (.tup _) v); exact ⟨a, vs, e1, .inr h1, r⟩
  | lst ds => cases e; obtain ⟨a, vs, e1, h1, r⟩ := h; exact ⟨a, vs, e1, .inl (.inl (.inl h1)), r⟩
  | fl ds => cases e; obtain ⟨a, vs, e1, h1, r⟩ := fl_sq (h : Rep K A H (.fl _) v); exact ⟨a, vs, e1, .inl h1, r⟩
  | _ => cases e
def asS : D → Option Str
  | .str x => some x
  | _ => none
@[simp] theorem asS_str {x : Str} : asS (.str x) = some x := rfl
theorem RepT.asS {K : Frag} {A : Av} {H : Hp} {d : D} {v : V} {x : Str} (h : RepT K A H d v) (e : asS d = some x) : v = .str x := by
  unfold Mp.asS at e
  split at e
  · cases e; exact h
  · cases e
theorem RepT.rep {K : Frag} {A : Av} {H : Hp} {d : D} {v : V} (h : RepT K A H d v) (f : flatD d = true) : Rep K A H d v := by
  cases d with
  | lst _ => cases f
  | _ => exact h
def fIx : F2 := fun x y P => match y with
  | .int i => (match x with
    | .str z => z.length ≤ sizeLine ∧ on (atI z.cps.toList i) fun c => P (.str ⟨#[c]⟩)
    | x => on (items x) fun ds => on (atI ds i) P)
  | _ => False
@[simp] theorem fIx_lst {ds : List D} {i : Int} {P : D → Prop} : fIx (.lst ds) (.int i) P = on (atI ds i) P := rfl
@[simp] theorem fIx_tup {ds : List D} {i : Int} {P : D → Prop} : fIx (.tup ds) (.int i) P = on (atI ds i) P := rfl
@[simp] theorem fIx_fl {ds : List D} {i : Int} {P : D → Prop} : fIx (.fl ds) (.int i) P = on (atI ds i) P := rfl
@[simp] theorem fIx_str {z : Str} {i : Int} {P : D → Prop} : fIx (.str z) (.int i) P = (z.length ≤ sizeLine ∧ on (atI z.cps.toList i) fun c => P (.str ⟨#[c]⟩)) := rfl
theorem RepL.atI {K : Frag} {A : Av} {H : Hp} {ds : List D} {vs : List V} {i : Int} {d : D} (r : RepL K A H ds vs) (h : atI ds i = some d) : ∃ v, L2.atI vs i = some v ∧ Rep K A H d v := by
  unfold L2.atI at h ⊢
  rw [← r.length]
  cases e : ixN ds.length i with
  | none => rw [e] at h; cases h
  | some j => rw [e] at h; exact r.get h
theorem sim_ix {K : Frag} : Sim2 K (rIx K) fIx := by
  intro A H d1 d2 v1 v2 hA r1 r2 P p Q q
  cases d2 with
  | int i =>
    cases r2
    cases d1 with
    | str z =>
      cases r1
      obtain ⟨c, e, p2⟩ := on.ex p.2
      exact .inr (.inr ⟨_, _, c, rfl, rfl, p.1, e, q _ _ _ p2 rfl (.inl rfl)⟩)
    | tup ds =>
      obtain ⟨d, e, p⟩ := on.ex (show on (atI ds i) P from p)
      obtain ⟨a, vs, e1, h1, r⟩ := tup_sq (r1 : Rep K A H (.tup ds) v1)
      obtain ⟨v, e2, r2⟩ := r.atI e
      exact .inr (.inl ⟨a, vs, i, v, e1, rfl, h1, e2, q _ _ _ p r2 (.inl rfl)⟩)
    | lst ds =>
      obtain ⟨d, e, p⟩ := on.ex (show on (atI ds i) P from p)
      obtain ⟨a, vs, e1, h1, r⟩ := r1
      obtain ⟨v, e2, r2⟩ := r.atI e
      exact .inl ⟨a, vs, i, v, e1, rfl, .inl (.inl h1), e2, q _ _ _ p r2 (.inl rfl)⟩
    | fl ds =>
      obtain ⟨d, e, p⟩ := on.ex (show on (atI ds i) P from p)
      obtain ⟨a, vs, e1, h1, r⟩ := fl_sq (r1 : Rep K A H (.fl ds) v1)
      obtain ⟨v, e2, r2⟩ := r.atI e
      exact .inl ⟨a, vs, i, v, e1, rfl, h1, e2, q _ _ _ p r2 (.inl rfl)⟩
    | _ => exact p.elim
  | _ => exact p.elim
def one (ds : List D) (k : D → Prop) : Prop := match ds with
  | [d] => k d
  | _ => False
@[simp] theorem one_one {d : D} {k : D → Prop} : one [d] k = k d := rfl
theorem one.ex {K : Frag} {A : Av} {H : Hp} {ds : List D} {vs : List V} {k : D → Prop} (h : one ds k) (r : RepTL K A H ds vs) : ∃ d v, vs = [v] ∧ RepT K A H d v ∧ k d := by
  cases r with
  | nil => exact h.elim
  | @cons d v ds vs r t =>
    cases t with
    | cons _ _ => exact h.elim
    | nil => exact ⟨d, v, rfl, r, h⟩
def two (ds : List D) (k : D → D → Prop) : Prop := match ds with
  | [d, e] => k d e
  | _ => False
@[simp] theorem two_two {d e : D} {k : D → D → Prop} : two [d, e] k = k d e := rfl
theorem two.ex {K : Frag} {A : Av} {H : Hp} {ds : List D} {vs : List V} {k : D → D → Prop} (h : two ds k) (r : RepTL K A H ds vs) : ∃ d e v u, vs = [v, u] ∧ RepT K A H d v ∧ RepT K A H e u ∧ k d e := by
  cases r with
  | nil => exact h.elim
  | @cons d v ds vs r t =>
    cases t with
    | nil => exact h.elim
    | @cons e u ds vs r2 t =>
      cases t with
      | cons _ _ => exact h.elim
      | nil => exact ⟨d, e, v, u, rfl, r, r2, h⟩
def asI : D → Option Int
  | .int x => some x
  | _ => none
@[simp] theorem asI_int {x : Int} : asI (.int x) = some x := rfl
theorem RepT.asI {K : Frag} {A : Av} {H : Hp} {d : D} {v : V} {x : Int} (h : RepT K A H d v) (e : asI d = some x) : v = .int x := by
  unfold Mp.asI at e
  split at e
  · cases e; exact h
  · cases e
def fLen : FN := fun ds P => one ds fun d => (on (asS d) fun z => z.length ≤ sizeLine ∧ P (.int z.length)) ∨ on (items d) fun xs => P (.int xs.length)
def rLenA (K : Frag) : List V → Hp → VK → Prop := fun xs H Q => ∃ x n, xs = [x] ∧ LenV K x H n ∧ Q (.int n) H
theorem sim_len {K : Frag} : SimN K (rLenA K) fLen := by
  intro A H ds vs hA r P p Q q
  obtain ⟨d, v, rfl, r, p⟩ := p.ex r
  rcases p with p | p
  · obtain ⟨z, e, p1, p2⟩ := on.ex p
    cases r.asS e
    exact ⟨_, _, rfl, ⟨p1, rfl⟩, q _ _ _ p2 rfl (.inl rfl)⟩
  · obtain ⟨xs, e, p⟩ := on.ex p
    obtain ⟨a, vs, rfl, h, r2⟩ := r.items e
    exact ⟨_, _, rfl, h.imp (fun h => ⟨vs, h, r2.length⟩) (fun h => ⟨vs, h, r2.length⟩), q _ _ _ p rfl (.inl rfl)⟩
def asB' : D → Option Bool
  | .bl x => some x
  | _ => none
@[simp] theorem asB'_bl {x : Bool} : asB' (.bl x) = some x := rfl
theorem RepT.asB {K : Frag} {A : Av} {H : Hp} {d : D} {v : V} {x : Bool} (h : RepT K A H d v) (e : asB' d = some x) : v = .bl x := by
  unfold Mp.asB' at e
  split at e
  · cases e; exact h
  · cases e
def fInt : FN := fun ds P => one ds fun d => (on (asI d) fun i => P (.int i)) ∨ on (asB' d) fun b => P (.int (if b then 1 else 0))
def rInt1 : List V → Hp → VK → Prop := fun xs H Q => (∃ i, xs = [.int i] ∧ Q (.int i) H) ∨ ∃ k, xs = [.bl k] ∧ Q (.int (if k then 1 else 0)) H
theorem sim_int {K : Frag} : SimN K rInt1 fInt := by
  intro A H ds vs hA r P p Q q
  obtain ⟨d, v, rfl, r, p⟩ := p.ex r
  rcases p with p | p
  · obtain ⟨z, e, p⟩ := on.ex p
    cases r.asI e
    exact .inl ⟨_, rfl, q _ _ _ p rfl (.inl rfl)⟩
  · obtain ⟨z, e, p⟩ := on.ex p
    cases r.asB e
    exact .inr ⟨_, rfl, q _ _ _ p rfl (.inl rfl)⟩
def fAbs : FN := fun ds P => one ds fun d => on (asI d) fun i => P (.int (if i < 0 then -i else i))
def rAbs1 : List V → Hp → VK → Prop := fun xs H Q => ∃ i, xs = [.int i] ∧ Q (.int (if i < 0 then -i else i)) H
theorem sim_abs {K : Frag} : SimN K rAbs1 fAbs := by
  intro A H ds vs hA r P p Q q
  obtain ⟨d, v, rfl, r, p⟩ := p.ex r
  obtain ⟨z, e, p⟩ := on.ex p
  cases r.asI e
  exact ⟨_, rfl, q _ _ _ p rfl (.inl rfl)⟩
def fMM (g : Int → Int → Int) : FN := fun ds P => two ds fun d e => on (asI d) fun i => on (asI e) fun j => P (.int (g i j))
def rMM (g : Int → Int → Int) : List V → Hp → VK → Prop := fun xs H Q => ∃ i j, xs = [.int i, .int j] ∧ Q (.int (g i j)) H
theorem sim_MM {K : Frag} {g : Int → Int → Int} : SimN K (rMM g) (fMM g) := by
  intro A H ds vs hA r P p Q q
  obtain ⟨d, e, v, u, rfl, r1, r2, p⟩ := p.ex r
  obtain ⟨i, e1, p⟩ := on.ex p
  obtain ⟨j, e2, p⟩ := on.ex p
  cases r1.asI e1
  cases r2.asI e2
  exact ⟨_, _, rfl, q _ _ _ p rfl (.inl rfl)⟩
def fList : FN := fun ds P => one ds fun d => on (items d) fun xs => P (.lst xs)
def rListA (K : Frag) : List V → Hp → VK → Prop := fun xs H Q => ∃ p ys, xs = [.ref p] ∧ (SqL K H p ys ∨ SqT K H p ys) ∧ ∀ l, H l = none → Q (.ref l) (upd H l (.lst ys))
theorem sim_list {K : Frag} : SimN K (rListA K) fList := by
  intro A H ds vs hA r P p Q q
  obtain ⟨d, v, rfl, r, p⟩ := p.ex r
  obtain ⟨xs, e, p⟩ := on.ex p
  obtain ⟨a, vs, rfl, h, r2⟩ := r.items e
  exact ⟨a, vs, rfl, h, fun l hl => q _ _ _ p (new_lst hA hl r2) (.inr ⟨l, _, hl, rfl⟩)⟩
def fTuple : FN := fun ds P => one ds fun d => on (items d) fun xs => P (.tup xs)
def rTupleA (K : Frag) : List V → Hp → VK → Prop := fun xs H Q => ∃ p ys, xs = [.ref p] ∧ ((SqL K H p ys ∧ ∀ l, H l = none → Q (.ref l) (upd H l (.tup ys))) ∨ (SqT K H p ys ∧ Q (.ref p) H))
theorem sim_tuple {K : Frag} : SimN K (rTupleA K) fTuple := by
  intro A H ds vs hA r P p Q q
  obtain ⟨d, v, rfl, r, p⟩ := p.ex r
  obtain ⟨xs, e, p⟩ := on.ex p
  cases d with
  | tup ds =>
    cases e
    obtain ⟨a, vs, rfl, h, r2⟩ := tup_sq (r : Rep K A H (.tup _) v)
    exact ⟨a, vs, rfl, .inr ⟨h, q _ _ _ p r (.inl rfl)⟩⟩
  | lst ds =>
    cases e
    obtain ⟨a, vs, rfl, h, r2⟩ := r
    exact ⟨a, vs, rfl, .inl ⟨.inl (.inl h), fun l hl => q _ _ _ p (new_tup hA hl r2) (.inr ⟨l, _, hl, rfl⟩)⟩⟩
  | fl ds =>
    cases e
    obtain ⟨a, vs, rfl, h, r2⟩ := fl_sq (r : Rep K A H (.fl _) v)
    exact ⟨a, vs, rfl, .inl ⟨h, fun l hl => q _ _ _ p (new_tup hA hl r2) (.inr ⟨l, _, hl, rfl⟩)⟩⟩
  | _ => cases e
def tyN : D → Option String
  | .non => some "NoneType"
  | .bl _ => some "bool"
  | .int _ => some "int"
  | .str _ => some "str"
  | .tup _ => some "tuple"
  | .lst _ => some "list"
  | .fl _ => some "list"
  | .ty _ => none
  | .obj _ _ _ => none
theorem RepT.tyx {K : Frag} {A : Av} {H : Hp} {d : D} {v : V} {n : String} (h : RepT K A H d v) (e : tyN d = some n) : TyX K H v (.type n) := by
  cases d with
  | non => cases e; cases h; exact .base .non
  | bl b => cases e; cases h; exact .base (.bl b)
  | int b => cases e; cases h; exact .base (.int b)
  | str b => cases e; cases h; exact .base (.str b)
  | ty b => cases e
  | obj _ _ _ => cases e
  | lst ds => cases e; obtain ⟨a, vs, rfl, h1, r⟩ := h; exact .base (.lst h1)
  | tup ds =>
    cases e
    obtain ⟨a, vs, rfl, h1, r⟩ := tup_sq (h : Rep K A H (.tup ds) v)
    rcases h1 with (h1 | ⟨o, h1⟩) | ⟨o, its, m, h1, h2, h3, _⟩
    · exact .base (.tup h1)
    · exact .fTuple h1
    · exact .kTuple h1 h2
  | fl ds =>
    cases e
    obtain ⟨a, vs, rfl, h1, r⟩ := fl_sq (h : Rep K A H (.fl ds) v)
    rcases h1 with (h1 | ⟨o, h1⟩) | ⟨o, its, m, h1, h2, h3, _⟩
    · exact .base (.lst h1)
    · exact .base (.frz h1)
    · exact .kList h1 h2
def tyNames : List D → Option (List String)
  | [] => some []
  | .ty m :: r => (tyNames r).bind fun l => some (m :: l)
  | _ => none
def isAny (n : String) : List String → Option Bool
  | [] => some false
  | m :: r => (kitB n m).bind fun b => if b then some true else isAny n r
theorem tyNames_ok {K : Frag} {A : Av} {H : Hp} : ∀ {ms : List D} {vs : List V} {l : List String}, RepL K A H ms vs → tyNames ms = some l → Paired ClsV vs (l.map Value.type)
  | [], _, l, r, e => by cases r; cases e; exact .nil
  | m :: ms, _, l, ⟨v, r, q, h, t⟩, e => by
    subst q
    cases m with
    | ty m =>
      cases h
      have e1 : ((tyNames ms).bind fun l => some (m :: l)) = some l := e
      cases g : tyNames ms with
      | none => rw [g] at e1; cases e1
      | some l' => rw [g] at e1; cases e1; exact .cons (.ty m) (tyNames_ok t g)
    | _ => cases e
theorem isAny_ok {K : Frag} {n : String} : ∀ {l : List String} {b : Bool}, isAny n l = some b → PySem.W.kitAny K (.type n) (l.map Value.type) = some b
  | [], b, e => by cases e; exact kitAny_nil
  | m :: r, b, e => by
    have e1 : ((kitB n m).bind fun b => if b then some true else isAny n r) = some b := e
    cases g : kitB n m with
    | none => rw [g] at e1; cases e1
    | some c =>
      rw [g] at e1
      refine kitAny_cons (kit_ty g) (fun z => ?_) (fun z => ?_)
      · subst z; exact isAny_ok e1
      · subst z; cases e1; rfl
def asTy : D → Option String
  | .ty n => some n
  | _ => none
def asTup : D → Option (List D)
  | .tup n => some n
  | _ => none
@[simp] theorem asTy_ty {n : String} : asTy (.ty n) = some n := rfl
@[simp] theorem asTup_tup {n : List D} : asTup (.tup n) = some n := rfl
def fIsi : FN := fun ds P => two ds fun d c => on (tyN d) fun n => (on (asTy c) fun m => on (kitB n m) fun b => P (.bl b)) ∨ on (asTup c) fun ms => on (tyNames ms) fun l => on (isAny n l) fun b => P (.bl b)
def rIsiA (K : Frag) : List V → Hp → VK → Prop := fun xs H Q => rIsi K xs H Q ∨ rIsiT K xs H Q ∨ rIsiK K xs H Q
theorem call_isiA {X : Cx} : CallR X (.builtin "isinstance") (rIsiA X.K) := CallR.or call_isi (CallR.or call_isiT call_isiK)
theorem sim_isi {K : Frag} : SimN K (rIsiA K) fIsi := by
  intro A H ds vs hA r P p Q q
  obtain ⟨d, c, v, u, rfl, r1, r2, p⟩ := p.ex r
  obtain ⟨n, hn, p⟩ := on.ex p
  rcases p with p | p
  · obtain ⟨m, hm, p⟩ := on.ex p
    obtain ⟨b, hb, pf⟩ := on.ex p
    cases c <;> first | cases hm | skip
    cases r2
    exact .inl ⟨v, _, _, _, b, rfl, .ty _, r1.tyx hn, kit_ty hb, q _ _ _ pf rfl (.inl rfl)⟩
  · obtain ⟨ms, hm, p⟩ := on.ex p
    obtain ⟨l, hl, p⟩ := on.ex p
    obtain ⟨b, hb, pf⟩ := on.ex p
    cases c <;> first | cases hm | skip
    obtain ⟨a, vs, rfl, h, r⟩ := (r2 : Rep K A H (.tup ms) u)
    have hc := tyNames_ok r hl
    rcases h with h | h
    · exact .inr (.inl ⟨v, a, vs, _, _, b, rfl, h.1, hc, r1.tyx hn, isAny_ok hb, q _ _ _ pf rfl (.inl rfl)⟩)
    · rcases h with h | ⟨o, its, k, h1, h2, h3, h4, h5⟩
      · rcases h with h | ⟨_, h⟩ <;> cases h
      · obtain ⟨oc, od, dt, sl⟩ := o
        simp only at h2 h3
        subst h2 h3
        have e := ClsV.all hc h5
        exact .inr (.inr ⟨v, a, od, its.toList, k, sl, _, b, rfl, by simpa using h1, r1.tyx hn, by rw [e]; exact isAny_ok hb, q _ _ _ pf rfl (.inl rfl)⟩)
end Mp
set_option Elab.async false
set_option linter.all false
set_option maxRecDepth 100000
set_option maxHeartbeats 4000000
namespace Mp
open PySem PySem.Spec PyProof.Rows L2
structure MK where
  nx : PS → Prop
  bk : PS → Prop
  ct : PS → Prop
  rt : S → List O → Prop
  ex : MX
abbrev MS := PS → MK → Prop
abbrev MG := S → PS → (PS → Prop) → Prop
structure En where
  as : List (Addr × List Addr)
  h : Hp
structure Pre0 (ρ : En) (α : Mp_) (H : Hp) : Prop where
  own : OwnLe ρ.as α.own
  nw : ∀ (n : Nat) (p : Addr × List Addr), ρ.as.length ≤ n → α.own[n]? = some p → ρ.h p.1 = none
  stay : ∀ a o, ρ.h a = some o → ∃ u, H a = some u
theorem Pre0.ext {ρ : En} {α β : Mp_} {hp hp1 : List O} {H H1 : Hp} (h : Pre0 ρ α H) (e : Ext α hp H β hp1 H1) : Pre0 ρ β H1 where
  own := h.own.trans e.pre.own
  nw := fun n p hn q => by
    by_cases hl : n < α.own.length
    · obtain ⟨p', h1, h2⟩ := e.pre.get (List.getElem?_eq_getElem hl)
      rw [q] at h1
      cases h1
      rw [h2]
      exact h.nw n _ hn (List.getElem?_eq_getElem hl)
    · exact none_back h.stay (e.nw n p (by omega) q)
  stay := fun a o q => by
    obtain ⟨u, hu⟩ := h.stay a o q
    exact e.step.stay a u hu
structure Here (K : Frag) (ρ : En) (α : Mp_) (s : PS) (H : Hp) (σ : L2.St) : Prop where
  pre : Pre0 ρ α H
  n0 : True
  ok : WOk K α s.hp H
  env : EnvR K α s.hp H s.env σ
def PostN (K : Frag) (ρ : En) (α : Mp_) (hp : List O) (H : Hp) (N : PS → Prop) (Dn : L2.St → Hp → Prop) : Prop :=
  ∀ s' α' H' σ', N s' → Here K ρ α' s' H' σ' → StepW α hp H α' s'.hp H' → α'.ban = α.ban → Dn σ' H'
structure PostS (K : Frag) (W : WX) (ρ : En) (α : Mp_) (hp : List O) (H : Hp) (k : MK) (D : Ends) : Prop where
  nx : PostN K ρ α hp H k.nx D.nx
  bk : PostN K ρ α hp H k.bk D.bk
  ct : PostN K ρ α hp H k.ct D.ct
  rt : ∀ v hp' α' H' u, k.rt v hp' → Pre0 ρ α' H' → WOk K α' hp' H' → StepW α hp H α' hp' H' → α'.ban = α.ban → SRep K α' hp' H' v u → D.rt u H'
  ex : ∀ x hp' α' H' c dd σ', k.ex x hp' → Pre0 ρ α' H' → WOk K α' hp' H' → StepW α hp H α' hp' H' → α'.ban = α.ban → XRep K (Al α' hp') H' x c dd → W c dd σ' H'
def SimS (K : Frag) (W : WX) (t : TS) (M : MS) : Prop := ∀ (ρ : En) (α : Mp_) (s : PS) (H : Hp) (σ : L2.St), Here K ρ α s H σ → ∀ k, M s k → ∀ D : Ends, PostS K W ρ α s.hp H k D → t D σ H
def SimG (K : Frag) (g : TG) (us : List Nat) (M : MG) : Prop := ∀ (ρ : En) (α : Mp_) (s : PS) (H : Hp) (σ : L2.St) (v : S) (u : V), Here K ρ α s H σ → SRep K α s.hp H v u → ∀ N, M v s N → ∀ Q : L2.St → Hp → Prop,
  (∀ s' α' H' σ', N s' → Here K ρ α' s' H' σ' → Ext α s.hp H α' s'.hp H' → (σ'.length = σ.length ∧ ∀ i, i ∉ us → σ'[i]? = σ[i]?) → Q σ' H') → g u σ H Q
section
variable {K : Frag} {W : WX} {ρ : En} {α β : Mp_} {hp hp1 : List O} {H H1 : Hp} {σ : L2.St} {s : PS}
theorem PostN.at {N : PS → Prop} {Dn : L2.St → Hp → Prop} (p : PostN K ρ α hp H N Dn) (e : StepW α hp H β hp1 H1) (b : β.ban = α.ban) : PostN K ρ β hp1 H1 N Dn := fun s' a h' σ' n i st bb => p s' a h' σ' n i (e.trans st) (bb.trans b)
theorem PostS.at {k : MK} {D : Ends} (p : PostS K W ρ α hp H k D) (e : StepW α hp H β hp1 H1) (b : β.ban = α.ban) : PostS K W ρ β hp1 H1 k D :=
  ⟨p.nx.at e b, p.bk.at e b, p.ct.at e b, fun v h a h' u r pr w st bb => p.rt v h a h' u r pr w (e.trans st) (bb.trans b), fun x h a h' c dd σ' r pr w st bb => p.ex x h a h' c dd σ' r pr w (e.trans st) (bb.trans b)⟩
theorem Here.ext (i : Here K ρ α s H σ) (e : Ext α s.hp H β hp1 H1) (w : WOk K β hp1 H1) : Here K ρ β { s with hp := hp1 } H1 σ := ⟨i.pre.ext e, i.n0, w, i.env.mono e⟩
theorem PostS.postX {k : MK} {D : Ends} (p : PostS K W ρ α hp H k D) (pre : Pre0 ρ α H) : PostX K W σ α hp H k.ex := fun x h a h' c dd r e w q => p.ex x h a h' c dd σ r (pre.ext e) w e.step e.pre.ban q
theorem EnvR.set {env : List (Option S)} {i : Nat} {v : S} {u : V} (e : EnvR K α hp H env σ) (r : SRep K α hp H v u) : EnvR K α hp H (env.set i (some v)) (σ.set i (some u)) := by
  refine ⟨by rw [List.length_set, List.length_set]; exact e.1, fun j s hj => ?_⟩
  by_cases hi : i = j
  · subst hi
    by_cases hl : i < env.length
    · rw [List.getElem?_set_self hl] at hj
      cases hj
      exact ⟨u, List.getElem?_set_self (by rw [← e.1]; exact hl), r⟩
    · rw [List.getElem?_eq_none (by simpa using hl)] at hj
      cases hj
  · rw [List.getElem?_set_ne hi] at hj
    obtain ⟨v', h1, h2⟩ := e.2 j s hj
    exact ⟨v', by rw [List.getElem?_set_ne hi]; exact h1, h2⟩
end
def mgName (i : Nat) : MG := fun v s N => N { s with env := s.env.set i (some v) }
theorem simg_name {K : Frag} (i : Nat) : SimG K (gName i) [i] (mgName i) := by
  intro ρ α s H σ v u h r N m Q q
  exact q _ α H _ m ⟨h.pre, h.n0, h.ok, h.env.set r⟩ Ext.refl ⟨List.length_set .., fun j hj => List.getElem?_set_ne fun e => hj (by simp [e])⟩
def mAsg (Ma : ME) (G : MG) : MS := fun s k => Ma s (fun v hp' => G v { s with hp := hp' } k.nx) k.ex
theorem sim_asg {K : Frag} {W : WX} {t : TE} {g : TG} {us : List Nat} {Ma : ME} {G : MG} (ha : SimE K W t Ma) (hg : SimG K g us G) : SimS K W (tAsg t g) (mAsg Ma G) := by
  intro ρ α s H σ h k m D p
  refine ha α s H σ h.ok h.env _ _ m _ (fun v hp1 α1 H1 u m1 e1 w1 r1 => ?_) (p.postX h.pre)
  refine hg ρ α1 { s with hp := hp1 } H1 σ v u (h.ext e1 w1) r1 _ m1 _ fun s' α' H' σ' n i e _ => ?_
  exact p.nx s' α' H' σ' n i (e1.trans e).step ((e1.trans e).pre.ban)
def mDrop (Ma : ME) : MS := fun s k => Ma s (fun _ hp' => k.nx { s with hp := hp' }) k.ex
theorem sim_drop {K : Frag} {W : WX} {t : TE} {Ma : ME} (ha : SimE K W t Ma) : SimS K W (tDrop t) (mDrop Ma) := by
  intro ρ α s H σ h k m D p
  refine ha α s H σ h.ok h.env _ _ m _ (fun v hp1 α1 H1 u m1 e1 w1 r1 => ?_) (p.postX h.pre)
  exact p.nx _ α1 H1 σ m1 (h.ext e1 w1) e1.step e1.pre.ban
def mRet (Ma : ME) : MS := fun s k => Ma s k.rt k.ex
theorem sim_ret {K : Frag} {W : WX} {t : TE} {Ma : ME} (ha : SimE K W t Ma) : SimS K W (tRet t) (mRet Ma) := by
  intro ρ α s H σ h k m D p
  refine ha α s H σ h.ok h.env _ _ m _ (fun v hp1 α1 H1 u m1 e1 w1 r1 => ?_) (p.postX h.pre)
  exact p.rt v hp1 α1 H1 u m1 (h.pre.ext e1) w1 e1.step e1.pre.ban r1
def mNext : MS := fun s k => k.nx s
theorem sim_next {K : Frag} {W : WX} : SimS K W tNext mNext := fun ρ α s H σ h k m D p => p.nx s α H σ m h (Step.refl al_sub) rfl
def mSeq (Ma Mb : MS) : MS := fun s k => Ma s { k with nx := fun s' => Mb s' k }
theorem sim_seq {K : Frag} {W : WX} {t u : TS} {Ma Mb : MS} (ha : SimS K W t Ma) (hb : SimS K W u Mb) : SimS K W (tSeq t u) (mSeq Ma Mb) := by
  intro ρ α s H σ h k m D p
  refine ha ρ α s H σ h _ m _ ⟨fun s' α' H' σ' n i st b => ?_, p.bk, p.ct, p.rt, p.ex⟩
  exact hb ρ α' s' H' σ' i k n D (p.at st b)
def mIfS (Mc : MT) (Ma Mb : MS) : MS := fun s k => Mc s (fun b hp' => if b = true then Ma { s with hp := hp' } k else Mb { s with hp := hp' } k) k.ex
theorem sim_ifS {K : Frag} {W : WX} {c : TT} {t u : TS} {Mc : MT} {Ma Mb : MS} (hc : SimT K W c Mc) (ha : SimS K W t Ma) (hb : SimS K W u Mb) : SimS K W (tIfS c t u) (mIfS Mc Ma Mb) := by
  intro ρ α s H σ h k m D p
  refine hc α s H σ h.ok h.env _ _ m _ (fun b hp1 α1 H1 m1 e1 w1 => ?_) (p.postX h.pre)
  cases b with
  | true => exact ha ρ α1 _ H1 σ (h.ext e1 w1) k m1 D (p.at e1.step e1.pre.ban)
  | false => exact hb ρ α1 _ H1 σ (h.ext e1 w1) k m1 D (p.at e1.step e1.pre.ban)
def envI (s : PS) (i : Nat) : Option Int := match s.env[i]? with
  | some (some (.d (.int a))) => some a
  | _ => none
def mAug (i : Nat) (f : Int → Int → Int) (Ma : ME) : MS := fun s k => on (envI s i) fun a => Ma s (fun v hp' => on (val hp' v) fun d => on (asI d) fun b => k.nx { s with hp := hp', env := s.env.set i (some (.d (.int (f a b)))) }) k.ex
theorem sim_aug {K : Frag} {W : WX} {t : TE} {Ma : ME} (i : Nat) (f : Int → Int → Int) (ha : SimE K W t Ma) : SimS K W (tAug i t (ipI f)) (mAug i f Ma) := by
  intro ρ α s H σ h k m D p
  obtain ⟨a, g, m⟩ := on.ex m
  have hx : σ[i]? = some (some (.int a)) := by
    unfold envI at g
    split at g
    · cases g
      rename_i q
      obtain ⟨v, h1, h2⟩ := h.env.2 i _ q
      cases (show v = .int a from h2)
      exact h1
    · cases g
  refine ⟨_, hx, ha α s H σ h.ok h.env _ _ m _ (fun v hp1 α1 H1 u m1 e1 w1 r1 => ?_) (p.postX h.pre)⟩
  obtain ⟨d, g1, m1⟩ := on.ex m1
  obtain ⟨b, g2, m1⟩ := on.ex m1
  have hi := h.ext e1 w1
  refine ⟨a, b, rfl, (r1.val w1 g1).asI g2, p.nx _ α1 H1 _ m1 ⟨hi.pre, hi.n0, hi.ok, hi.env.set (v := .d (.int (f a b))) rfl⟩ e1.step e1.pre.ban⟩
def whileN (Mc : MT) (Mb : MS) : Nat → MS
  | 0 => fun _ _ => False
  | n + 1 => fun s k => Mc s (fun b hp' => if b = true then Mb { s with hp := hp' } { k with nx := fun s' => whileN Mc Mb n s' k, ct := fun s' => whileN Mc Mb n s' k, bk := k.nx } else k.nx { s with hp := hp' }) k.ex
def mWhile (Mc : MT) (Mb : MS) : MS := fun s k => ∃ n, whileN Mc Mb n s k
theorem sim_while {K : Frag} {W : WX} {c : TT} {t : TS} {Mc : MT} {Mb : MS} (hc : SimT K W c Mc) (hb : SimS K W t Mb) : SimS K W (tWhile c t) (mWhile Mc Mb) := by
  intro ρ α s H σ h k ⟨n, m⟩ D p
  refine ⟨fun n σ' H' => ∃ α' s', Here K ρ α' s' H' σ' ∧ StepW α s.hp H α' s'.hp H' ∧ α'.ban = α.ban ∧ whileN Mc Mb n s' k, ⟨n, α, s, h, Step.refl al_sub, rfl, m⟩, ?_⟩
  rintro n σ' H' ⟨α', s', h', st, bb, m⟩
  cases n with
  | zero => exact m.elim
  | succ n =>
    have p' := p.at st bb
    refine hc α' s' H' σ' h'.ok h'.env _ _ m _ (fun b hp1 α1 H1 m1 e1 w1 => ?_) (p'.postX h'.pre)
    have p1 := p'.at e1.step e1.pre.ban
    cases b with
    | false => exact p1.nx _ α1 H1 σ' m1 (h'.ext e1 w1) (Step.refl al_sub) rfl
    | true =>
      show ∃ N : L2.St → Hp → Prop, _ ∧ _
      refine ⟨fun σ2 H2 => ∃ α' s', Here K ρ α' s' H2 σ2 ∧ StepW α s.hp H α' s'.hp H2 ∧ α'.ban = α.ban ∧ whileN Mc Mb n s' k, fun σ2 H2 q => ⟨n, Nat.lt_succ_self n, q⟩, ?_⟩
      have nn : PostN K ρ α1 hp1 H1 (fun s' => whileN Mc Mb n s' k) (fun σ2 H2 => ∃ α' s', Here K ρ α' s' H2 σ2 ∧ StepW α s.hp H α' s'.hp H2 ∧ α'.ban = α.ban ∧ whileN Mc Mb n s' k) := fun s2 α2 H2 σ2 n2 i2 st2 b2 => ⟨α2, s2, i2, (st.trans e1.step).trans st2, b2.trans (e1.pre.ban.trans bb), n2⟩
      exact hb ρ α1 _ H1 σ' (h'.ext e1 w1) _ m1 _ ⟨nn, p1.nx, nn, p1.rt, p1.ex⟩
inductive Wk where
  | mu (n : Nat) | ob (n k : Nat)
def Wk.ix : Wk → Nat
  | .mu n => n
  | .ob n _ => n
@[simp] theorem Wk.ix_mu {n : Nat} : (Wk.mu n).ix = n := rfl
@[simp] theorem Wk.ix_ob {n k : Nat} : (Wk.ob n k).ix = n := rfl
def nodeDs (hp : List O) (n k : Nat) : Option (List D) := match nodeAt hp n k with
  | some (.lst xs) => dsOf xs
  | _ => none
def still (v : Option Wk) (ds : List D) (hp : List O) : Prop := match v with
  | none => True
  | some (.mu n) => hp[n]? = some (.lst ds)
  | some (.ob n k) => nodeDs hp n k = some ds
@[simp] theorem still_none {ds : List D} {hp : List O} : still none ds hp = True := rfl
def sameAt (v : Option Wk) (α β : Mp_) : Prop := match v with
  | none => True
  | some (.mu n) => ∃ p q : Addr × List Addr, α.own[n]? = some p ∧ β.own[n]? = some q ∧ q.1 = p.1
  | some (.ob n k) => ∃ (p q : Addr × List Addr) (a : Addr), α.own[n]? = some p ∧ β.own[n]? = some q ∧ (adr p)[k]? = some a ∧ (adr q)[k]? = some a
theorem own_same {α β : Mp_} (h : OwnLe α.own β.own) : ∀ {v : Option Wk}, sameAt v α α → sameAt v α β
  | none, _ => trivial
  | some (.mu n), ⟨p, _, h1, _, _⟩ => by
    obtain ⟨q, g1, g2, _⟩ := h n p h1
    exact ⟨p, q, h1, g1, g2⟩
  | some (.ob n k), ⟨p, _, a, h1, _, h3, _⟩ => by
    obtain ⟨q, g1, g2, g3⟩ := h n p h1
    exact ⟨p, q, a, h1, g1, h3, adr_le g2 g3 h3⟩
theorem sameAt.trans {α β γ : Mp_} : ∀ {v : Option Wk}, sameAt v α β → sameAt v β γ → sameAt v α γ
  | none, _, _ => trivial
  | some (.mu n), ⟨p, q, h1, h2, h3⟩, ⟨p', q', g1, g2, g3⟩ => by
    rw [h2] at g1
    cases g1
    exact ⟨p, q', h1, g2, g3.trans h3⟩
  | some (.ob n k), ⟨p, q, a, h1, h2, h3, h4⟩, ⟨p', q', a', g1, g2, g3, g4⟩ => by
    rw [h2] at g1
    cases g1
    rw [h4] at g3
    cases g3
    exact ⟨p, q', a, h1, g2, h3, g4⟩
theorem sameAt.right {α β : Mp_} : ∀ {v : Option Wk}, sameAt v α β → sameAt v β β
  | none, _ => trivial
  | some (.mu n), ⟨p, q, h1, h2, h3⟩ => ⟨q, q, h2, h2, rfl⟩
  | some (.ob n k), ⟨p, q, a, h1, h2, h3, h4⟩ => ⟨q, q, a, h2, h2, h4, h4⟩
def Walks (K : Frag) (J : It) (α : Mp_) (hp : List O) (H : Hp) (v : Option Wk) (ds : List D) : Prop :=
  ∀ α' hp' H', StepA α hp H α' hp' H' → sameAt v α α' → WOk K α' hp' H' → still v ds hp' →
    (∀ i d, ds[i]? = some d → J.go i H' ∧ ∀ x H'', J.yld i H' x H'' → (H'' = H' ∨ ∃ p o, H' p = none ∧ H'' = upd H' p o) ∧ Rep K (Al α' hp') H'' d x) ∧ J.stop ds.length H'
abbrev MI := PS → (Option Wk → List D → List O → Prop) → MX → Prop
def SimI (K : Frag) (W : WX) (wi : TI) (M : MI) : Prop := ∀ (α : Mp_) (s : PS) (H : Hp) (σ : L2.St), WOk K α s.hp H → EnvR K α s.hp H s.env σ → ∀ R Xp, M s R Xp → ∀ Q : It → Hp → Prop,
  (∀ v ds hp' α' H' J, R v ds hp' → Ext α s.hp H α' hp' H' → WOk K α' hp' H' → Walks K J α' hp' H' v ds → still v ds hp' → sameAt v α' α' → Q J H') → PostX K W σ α s.hp H Xp → wi σ H Q
def walked (hp : List O) (v : S) (R : Option Wk → List D → List O → Prop) : Prop := match v with
  | .d d => on (items d) fun ds => R none ds hp
  | .mu n => match hp[n]? with
    | some (.lst ds) => R (some (.mu n)) ds hp
    | _ => False
  | .ob n k => on (nodeDs hp n k) fun ds => R (some (.ob n k)) ds hp
  | .exn _ _ _ _ => False
def iSq (K : Frag) (t : TE) : TI := fun σ H R => t σ H fun x H1 => ∃ a, x = .ref a ∧ (((∃ vs, SqL K H1 a vs) ∧ R (Itl K a) H1) ∨ ((∃ vs, SqT K H1 a vs) ∧ R (Itt K a) H1))
theorem pi_sq {X : Cx} {tg l : Expr} {t : TE} (h : PE X l t) : PI X tg l (iSq X.K t) := by
  refine ⟨fun pins st σ H R I hq => thn (h.run pins st σ H _ I hq) fun v st1 ⟨x, G, J, rv, a, ex, q⟩ => ?_⟩
  subst ex
  cases rv
  have kp : Inv X pins σ G { st1 with heap := st1.heap.push { cls := .type "x", data := .fields #[] } } := J.kept (t' := st1.toks) fun _ _ e => Heap.get?_push_of_some _ e
  have fp : ∀ b ∈ [st1.heap.objs.size], FpOk X pins G b := fun b hb => by
    cases List.mem_singleton.mp hb
    exact J.fpOk (Nat.le_refl _) (J.hok.fresh (Nat.le_refl _))
  rcases q with ⟨⟨vs, hv⟩, q⟩ | ⟨⟨vs, hv⟩, q⟩
  · obtain ⟨us, _, pl, _⟩ := J.list hv
    exact wpAny_pyIter_list pl.isList ⟨st1.heap.objs.size, [st1.heap.objs.size], _, _, G, rfl, J.kept (t' := st1.toks) (fun _ _ e => Heap.get?_push_of_some _ e), turn_list a _, ⟨_, Heap.get?_push_size _ rfl, rfl, rfl⟩, fp, q⟩
  · obtain ⟨us, _, pl, _⟩ := J.tuple hv
    exact wpAny_pyIter_tuple (show st1.heap.IsTuple a us.toArray from pl) ⟨st1.heap.objs.size, [st1.heap.objs.size], _, _, G, rfl, J.kept (t' := st1.toks) (fun _ _ e => Heap.get?_push_of_some _ e), turn_tuple a _, ⟨_, Heap.get?_push_size _ rfl, rfl, rfl⟩, fp, q⟩
theorem walks_l {K : Frag} {α : Mp_} {hp : List O} {H : Hp} {a : Addr} {v : Option Wk} {ds : List D} (h : ∀ α' hp' H', StepA α hp H α' hp' H' → sameAt v α α' → WOk K α' hp' H' → still v ds hp' → ∃ vs, SqL K H' a vs ∧ RepL K (Al α' hp') H' ds vs) : Walks K (Itl K a) α hp H v ds := by
  intro α' hp' H' st sa w stl
  obtain ⟨vs, hv, r⟩ := h α' hp' H' st sa w stl
  refine ⟨fun i d hd => ?_, ⟨vs, hv, by rw [r.length]; exact Nat.le_refl _⟩⟩
  obtain ⟨u, h1, h2⟩ := r.get hd
  refine ⟨⟨vs, u, hv, h1⟩, fun x H'' ⟨e, y⟩ => ?_⟩
  subst e
  have := y vs hv
  rw [h1] at this
  cases this
  exact ⟨.inl rfl, h2⟩
theorem walks_t {K : Frag} {α : Mp_} {hp : List O} {H : Hp} {a : Addr} {v : Option Wk} {ds : List D} (h : ∀ α' hp' H', StepA α hp H α' hp' H' → sameAt v α α' → WOk K α' hp' H' → still v ds hp' → ∃ vs, SqT K H' a vs ∧ RepL K (Al α' hp') H' ds vs) : Walks K (Itt K a) α hp H v ds := by
  intro α' hp' H' st sa w stl
  obtain ⟨vs, hv, r⟩ := h α' hp' H' st sa w stl
  refine ⟨fun i d hd => ?_, ⟨vs, hv, by rw [r.length]; exact Nat.le_refl _⟩⟩
  obtain ⟨u, h1, h2⟩ := r.get hd
  refine ⟨⟨vs, u, hv, h1⟩, fun x H'' ⟨e, y⟩ => ?_⟩
  subst e
  have := y vs hv
  rw [h1] at this
  cases this
  exact ⟨.inl rfl, h2⟩
def miSq (Ma : ME) : MI := fun s R Xp => Ma s (fun v hp' => walked hp' v R) Xp
theorem simi_sq {K : Frag} {W : WX} {t : TE} {Ma : ME} (ha : SimE K W t Ma) : SimI K W (iSq K t) (miSq Ma) := by
  intro α s H σ w e R Xp m Q q qx
  refine ha α s H σ w e _ _ m _ (fun v hp1 α1 H1 u m1 e1 w1 r1 => ?_) qx
  cases v with
  | d d =>
    obtain ⟨ds, hd, m1⟩ := on.ex (show on (items d) _ from m1)
    cases d with
    | tup xs =>
      cases hd
      obtain ⟨a, vs, eu, h1, r⟩ := tup_sq (show Rep K (Al α1 hp1) H1 (.tup _) u from r1)
      refine ⟨a, eu, .inr ⟨⟨vs, h1⟩, q none _ hp1 α1 H1 _ m1 e1 w1 (walks_t fun α' hp' H' st _ w' _ => ?_) trivial trivial⟩⟩
      obtain ⟨a', vs', eu', h1', r'⟩ := tup_sq (Rep.mono st _ _ (show Rep K (Al α1 hp1) H1 (.tup _) u from r1))
      cases eu.symm.trans eu'
      exact ⟨vs', h1', r'⟩
    | lst xs =>
      cases hd
      obtain ⟨a, vs, eu, h1, r⟩ := (show Rep K (Al α1 hp1) H1 (.lst _) u from r1)
      refine ⟨a, eu, .inl ⟨⟨vs, .inl (.inl h1.1)⟩, q none _ hp1 α1 H1 _ m1 e1 w1 (walks_l fun α' hp' H' st _ w' _ => ?_) trivial trivial⟩⟩
      obtain ⟨a', vs', eu', h1', r'⟩ := Rep.mono st _ _ (show Rep K (Al α1 hp1) H1 (.lst _) u from r1)
      cases eu.symm.trans eu'
      exact ⟨vs', .inl (.inl h1'.1), r'⟩
    | fl xs =>
      cases hd
      obtain ⟨a, vs, eu, h1, r⟩ := fl_sq (show Rep K (Al α1 hp1) H1 (.fl _) u from r1)
      refine ⟨a, eu, .inl ⟨⟨vs, h1⟩, q none _ hp1 α1 H1 _ m1 e1 w1 (walks_l fun α' hp' H' st _ w' _ => ?_) trivial trivial⟩⟩
      obtain ⟨a', vs', eu', h1', r'⟩ := fl_sq (Rep.mono st _ _ (show Rep K (Al α1 hp1) H1 (.fl _) u from r1))
      cases eu.symm.trans eu'
      exact ⟨vs', h1', r'⟩
    | _ => cases hd
  | mu n =>
    obtain ⟨p, hp, eu⟩ := r1
    simp only [walked] at m1
    cases g : hp1[n]? with
    | none => rw [g] at m1; exact m1.elim
    | some o =>
      rw [g] at m1
      cases o with
      | lst ds =>
        obtain ⟨_, vs, h1, r⟩ := w1.obj n _ p g hp
        refine ⟨p.1, eu, .inl ⟨⟨vs, .inl (.inl h1)⟩, q (some (.mu n)) ds hp1 α1 H1 _ m1 e1 w1 (walks_l fun α' hp' H' st sa w' stl => ?_) g ⟨p, p, hp, hp, rfl⟩⟩⟩
        obtain ⟨p1, p2, g1, g2, g3⟩ := sa
        rw [hp] at g1
        cases g1
        obtain ⟨_, vs', h1', r'⟩ := w'.obj n _ p2 stl g2
        rw [g3] at h1'
        exact ⟨vs', .inl (.inl h1'), r'⟩
      | dct _ => exact m1.elim
      | reg _ => exact m1.elim
      | dtp _ => exact m1.elim
      | tbl _ => exact m1.elim
      | gone => exact m1.elim
  | ob n k =>
    obtain ⟨p, a, hp, ha, eu⟩ := r1
    obtain ⟨ds, g, m1⟩ := on.ex (show on (nodeDs hp1 n k) _ from m1)
    have at_ : ∀ {α' : Mp_} {hp' : List O} {H' : Hp} {p' : Addr × List Addr}, WOk K α' hp' H' → nodeDs hp' n k = some ds → α'.own[n]? = some p' → (adr p')[k]? = some a → ∃ vs, SqL K H' a vs ∧ RepL K (Al α' hp') H' ds vs := fun {α' hp' H' p'} w' g hp ha => by
      unfold nodeDs at g
      split at g
      · rename_i xs e
        obtain ⟨vs, h1, r⟩ := w'.node e hp ha
        exact ⟨vs, .inl (.inl h1), RepNL.ds r g⟩
      · cases g
    obtain ⟨vs, h1, r⟩ := at_ w1 g hp ha
    refine ⟨a, eu, .inl ⟨⟨vs, h1⟩, q (some (.ob n k)) ds hp1 α1 H1 _ m1 e1 w1 (walks_l fun α' hp' H' st sa w' stl => ?_) g ⟨p, p, a, hp, hp, ha, ha⟩⟩⟩
    obtain ⟨p1, p2, b, g1, g2, g3, g4⟩ := sa
    rw [hp] at g1
    cases g1
    rw [ha] at g3
    cases g3
    exact at_ w' stl g2 g4
  | exn _ _ _ _ => exact m1.elim
def rng (lo c : Int) (n : Nat) : List D := (List.range n).map fun (i : Nat) => D.int (lo + (i : Int) * c)
theorem rng_len {lo c : Int} {n : Nat} : (rng lo c n).length = n := by unfold rng; simp
theorem rng_get {lo c : Int} {n i : Nat} {d : D} (h : (rng lo c n)[i]? = some d) : i < n ∧ d = .int (lo + (i : Int) * c) := by
  have hi : i < n := by have := (List.getElem?_eq_some_iff.mp h).1; rwa [rng_len] at this
  unfold rng at h
  rw [List.getElem?_map, List.getElem?_range hi] at h
  cases h
  exact ⟨hi, rfl⟩
theorem walks_r {K : Frag} {α : Mp_} {hp : List O} {H : Hp} {lo : Int} {n : Nat} : Walks K (Itr lo n) α hp H none (rng lo 1 n) := by
  intro α' hp' H' st sa w stl
  refine ⟨fun i d hd => ?_, by show n ≤ _; rw [rng_len]; exact Nat.le_refl _⟩
  obtain ⟨h1, rfl⟩ := rng_get hd
  exact ⟨h1, fun x H'' ⟨e, y⟩ => ⟨.inl e, by subst y; show V.int _ = V.int _; rw [Int.mul_one]⟩⟩
def intsD : List D → Option (List Int)
  | [] => some []
  | .int i :: r => (intsD r).bind fun l => some (i :: l)
  | _ => none
theorem ints_ok {K : Frag} {A : Av} {H : Hp} : ∀ {ds : List D} {vs : List V} {l : List Int}, RepTL K A H ds vs → intsD ds = some l → vs = l.map V.int
  | [], _, l, h, e => by cases h; cases e; rfl
  | d :: ds, _, l, h, e => by
    cases h with
    | @cons _ v _ vs h t =>
      cases d with
      | int i =>
        have e1 : ((intsD ds).bind fun l => some (i :: l)) = some l := e
        cases g : intsD ds with
        | none => rw [g] at e1; cases e1
        | some l' =>
          rw [g] at e1
          cases e1
          cases (show v = .int i from h)
          rw [ints_ok t g]
          rfl
      | _ => cases e
def miRng (f : List Int → (Int → Int → Nat → Prop) → Prop) (Ma : MA) : MI := fun s R Xp => Ma s (fun vs hp' => on (vals hp' vs) fun ds => on (intsD ds) fun l => f l fun lo c n => R none (rng lo c n) hp') Xp
def f1R : List Int → (Int → Int → Nat → Prop) → Prop := fun l k => match l with
  | [j] => -(2 ^ 62) ≤ j ∧ j < 2 ^ 62 ∧ k 0 1 j.toNat
  | _ => False
theorem simi_r1 {K : Frag} {W : WX} {t : TA} {Ma : MA} (ha : SimA K W t Ma) : SimI K W (iRng1 t) (miRng f1R Ma) := by
  intro α s H σ w e R Xp m Q q qx
  refine ha α s H σ w e _ _ m _ (fun v hp1 α1 H1 u m1 e1 w1 r1 => ?_) qx
  obtain ⟨ds, hd, m1⟩ := on.ex m1
  obtain ⟨l, hl, m1⟩ := on.ex m1
  cases ints_ok (r1.vals w1 hd) hl
  match l, m1 with
  | [j], m1 => exact ⟨j, rfl, m1.1, m1.2.1, q _ _ _ α1 H1 _ m1.2.2 e1 w1 walks_r trivial trivial⟩
def forL (v : Option Wk) (all : List D) (G : MG) (Mb : MS) : List D → MS
  | [] => fun s k => k.nx s
  | d :: ds => fun s k => G (.d d) s fun s1 => Mb s1 { k with nx := fun s2 => still v all s2.hp ∧ forL v all G Mb ds s2 k, ct := fun s2 => still v all s2.hp ∧ forL v all G Mb ds s2 k, bk := k.nx }
def mFor (I : MI) (G : MG) (Mb : MS) : MS := fun s k => I s (fun v ds hp' => forL v ds G Mb ds { s with hp := hp' } k) k.ex
theorem Pre0.trans {ρ : En} {α β : Mp_} {H H1 : Hp} (h : Pre0 ρ α H) (g : Pre0 ⟨α.own, H⟩ β H1) : Pre0 ρ β H1 where
  own := h.own.trans g.own
  nw := fun n p hn q => by
    by_cases hl : n < α.own.length
    · obtain ⟨p', h1, h2, _⟩ := g.own n _ (List.getElem?_eq_getElem hl)
      rw [q] at h1
      cases h1
      rw [h2]
      exact h.nw n _ hn (List.getElem?_eq_getElem hl)
    · exact none_back h.stay (g.nw n p (by show α.own.length ≤ n; omega) q)
  stay := fun a o q => by
    obtain ⟨u, hu⟩ := h.stay a o q
    exact g.stay a u hu
theorem Pre0.refl {α : Mp_} {H : Hp} : Pre0 ⟨α.own, H⟩ α H := ⟨OwnLe.refl _, fun _ _ h z => (at_none h z).elim, fun _ o h => ⟨o, h⟩⟩
theorem Here.up {K : Frag} {ρ : En} {α β : Mp_} {s : PS} {H H1 : Hp} {σ : L2.St} (pre : Pre0 ρ α H) (h : Here K ⟨α.own, H⟩ β s H1 σ) : Here K ρ β s H1 σ := ⟨pre.trans h.pre, trivial, h.ok, h.env⟩
theorem Here.new {K : Frag} {ρ : En} {α : Mp_} {s : PS} {H : Hp} {σ : L2.St} (h : Here K ρ α s H σ) : Here K ⟨α.own, H⟩ α s H σ := ⟨Pre0.refl, trivial, h.ok, h.env⟩
theorem PostN.up {K : Frag} {ρ : En} {α β : Mp_} {hp1 : List O} {H H1 : Hp} {N : PS → Prop} {Dn : L2.St → Hp → Prop} (pre : Pre0 ρ α H) (p : PostN K ρ β hp1 H1 N Dn) : PostN K ⟨α.own, H⟩ β hp1 H1 N Dn := fun s' a h' σ' n i st b => p s' a h' σ' n (i.up pre) st b
theorem PostS.up {K : Frag} {W : WX} {ρ : En} {α β : Mp_} {hp1 : List O} {H H1 : Hp} {k : MK} {D : Ends} (pre : Pre0 ρ α H) (p : PostS K W ρ β hp1 H1 k D) : PostS K W ⟨α.own, H⟩ β hp1 H1 k D :=
  ⟨p.nx.up pre, p.bk.up pre, p.ct.up pre, fun v h a h' u r pr w st bb => p.rt v h a h' u r (pre.trans pr) w st bb, fun x h a h' c dd σ' r pr w st bb => p.ex x h a h' c dd σ' r (pre.trans pr) w st bb⟩
theorem sim_for {K : Frag} {W : WX} {wi : TI} {g : TG} {us : List Nat} {t : TS} {I : MI} {G : MG} {Mb : MS} (hi : SimI K W wi I) (hg : SimG K g us G) (hb : SimS K W t Mb) : SimS K W (tFor wi g t) (mFor I G Mb) := by
  intro ρ α s H σ h k m D p
  refine hi α s H σ h.ok h.env _ _ m _ (fun v ds hp1 α1 H1 J m1 e1 w1 wk stl hvl => ?_) (p.postX h.pre)
  have h0 := h.ext e1 w1
  have p1 := (p.at e1.step e1.pre.ban).up h0.pre
  have h1 := h0.new
  let P : Nat → L2.St → Hp → Prop := fun i σ' H' => ∃ α' s', Here K ⟨α1.own, H1⟩ α' s' H' σ' ∧ StepW α1 hp1 H1 α' s'.hp H' ∧ α'.ban = α1.ban ∧ still v ds s'.hp ∧ forL v ds G Mb (ds.drop i) s' k
  refine ⟨fun i m σ' H' => m = ds.length - i ∧ i ≤ ds.length ∧ P i σ' H', ⟨ds.length, by simp, Nat.zero_le _, α1, { s with hp := hp1 }, h1, Step.refl al_sub, rfl, stl, by rw [List.drop_zero]; exact m1⟩, ?_⟩
  rintro i m σ' H' ⟨rfl, hil, α', s', h', st, bb, stl', mm⟩
  obtain ⟨w2, w3⟩ := wk α' s'.hp H' st.toA (own_same h'.pre.own hvl) h'.ok stl'
  by_cases hlt : i < ds.length
  · obtain ⟨go, yl⟩ := w2 i ds[i] (List.getElem?_eq_getElem hlt)
    refine .inr ⟨go, P (i + 1), fun σ2 H2 q => ⟨ds.length - (i + 1), by omega, rfl, hlt, q⟩, fun x H2 y => ?_⟩
    obtain ⟨gr, rx⟩ := yl x H2 y
    obtain ⟨e2, wk2⟩ := h'.ok.grown gr
    rw [List.drop_eq_getElem_cons hlt] at mm
    have p2 := (p1.at st bb).at e2.step e2.pre.ban
    refine hg ⟨α1.own, H1⟩ α' { s' with hp := s'.hp } H2 σ' (.d ds[i]) x (h'.ext e2 wk2) rx _ mm _ fun s3 α3 H3 σ3 n3 i3 e3 _ => ?_
    have p3 := p2.at e3.step e3.pre.ban
    have nn : PostN K ⟨α1.own, H1⟩ α3 s3.hp H3 (fun s2 => still v ds s2.hp ∧ forL v ds G Mb (ds.drop (i + 1)) s2 k) (P (i + 1)) := fun s4 α4 H4 σ4 n4 i4 st4 b4 =>
      ⟨α4, s4, i4, ((st.trans e2.step).trans e3.step).trans st4, b4.trans (e3.pre.ban.trans (e2.pre.ban.trans bb)), n4.1, n4.2⟩
    exact hb ⟨α1.own, H1⟩ α3 s3 H3 σ3 i3 _ n3 _ ⟨nn, p3.nx, nn, p3.rt, p3.ex⟩
  · have e : i = ds.length := by omega
    subst e
    rw [List.drop_length] at mm
    exact .inl ⟨w3, (p1.at st bb).nx s' α' H' σ' mm h' (Step.refl al_sub) rfl⟩
end Mp
set_option Elab.async false
set_option linter.all false
set_option maxRecDepth 100000
set_option maxHeartbeats 4000000
namespace Mp
open PySem PySem.Spec PyProof.Rows L2
def isD : S → Option D
  | .d x => some x
  | _ => none
@[simp] theorem isD_d {x : D} : isD (.d x) = some x := rfl
theorem SRep.isD {K : Frag} {α : Mp_} {hp : List O} {H : Hp} {s : S} {v : V} {d : D} (h : SRep K α hp H s v) (e : Mp.isD s = some d) : Rep K (Al α hp) H d v := by
  cases s with
  | d x => cases e; exact h
  | mu n => cases e
  | ob _ _ => cases e
  | exn _ _ _ _ => cases e
def noX : MX := fun _ _ => False
def wipeE (env : List (Option S)) : List Nat → List (Option S)
  | [] => env
  | v :: vs => (wipeE env vs).set v none
theorem wipe_get (σ : L2.St) (i : Nat) : ∀ vs : List Nat, (wipe σ vs)[i]? = if i ∈ vs then (if i < σ.length then some none else none) else σ[i]?
  | [] => by simp [wipe]
  | v :: vs => by
    unfold wipe
    by_cases h : v = i
    · subst h
      by_cases hl : v < σ.length
      · rw [List.getElem?_set_self (by rw [wipe_length]; exact hl)]; simp [hl]
      · rw [List.getElem?_eq_none (by rw [List.length_set, wipe_length]; omega)]; simp [hl]
    · rw [List.getElem?_set_ne h, wipe_get σ i vs]
      simp [Ne.symm h]
theorem wipeE_get (σ : List (Option S)) (i : Nat) : ∀ vs : List Nat, (wipeE σ vs)[i]? = if i ∈ vs then (if i < σ.length then some none else none) else σ[i]?
  | [] => by simp [wipeE]
  | v :: vs => by
    have hl0 : ∀ ws : List Nat, (wipeE σ ws).length = σ.length := fun ws => by
      induction ws with
      | nil => rfl
      | cons w ws ih => unfold wipeE; rw [List.length_set, ih]
    unfold wipeE
    by_cases h : v = i
    · subst h
      by_cases hl : v < σ.length
      · rw [List.getElem?_set_self (by rw [hl0]; exact hl)]; simp [hl]
      · rw [List.getElem?_eq_none (by rw [List.length_set, hl0]; omega)]; simp [hl]
    · rw [List.getElem?_set_ne h, wipeE_get σ i vs]
      simp [Ne.symm h]
theorem EnvR.wipe {K : Frag} {α : Mp_} {hp : List O} {H : Hp} {env : List (Option S)} {σ : L2.St} (e : EnvR K α hp H env σ) (vs : List Nat) : EnvR K α hp H (wipeE env vs) (wipe σ vs) := by
  refine ⟨?_, fun i s hi => ?_⟩
  · rw [wipe_length, ← e.1]
    induction vs with
    | nil => rfl
    | cons w ws ih => unfold wipeE; rw [List.length_set, ih]
  · rw [wipeE_get] at hi
    rw [wipe_get]
    by_cases h : i ∈ vs
    · rw [if_pos h] at hi
      split at hi <;> cases hi
    · rw [if_neg h] at hi ⊢
      exact e.2 i s hi
theorem wipe_back {σ σ2 : L2.St} {us vs : List Nat} (hl : σ2.length = σ.length) (hs : ∀ u ∈ us, u ∈ vs) (h : ∀ i, i ∉ us → σ2[i]? = (wipe σ vs)[i]?) : wipe σ2 vs = wipe σ vs := by
  apply List.ext_getElem?
  intro i
  rw [wipe_get, wipe_get, hl]
  by_cases hi : i ∈ vs
  · rw [if_pos hi, if_pos hi]
  · rw [if_neg hi, if_neg hi, h i fun z => hi (hs i z), wipe_get, if_neg hi]
theorem WOk.unban {K : Frag} {α : Mp_} {hp : List O} {H : Hp} {b : Av} (w : WOk K α hp H) (hb : ∀ a, b a → α.ban a) : WOk K { α with ban := b } hp H ∧ StepW α hp H { α with ban := b } hp H := by
  have st : StepW α hp H { α with ban := b } hp H := ⟨fun _ _ h _ => h, fun a h => .inl (h.imp id (hb a)), fun _ h => .inl h, al_sub, fun _ o h => ⟨o, h⟩⟩
  exact ⟨⟨w.len, fun n o p h1 h2 => (w.obj n o p h1 h2).mono st fun _ _ _ => rfl, w.one, w.inj, fun a h => w.ban a (hb a h)⟩, st⟩
theorem stay_upd {H : Hp} {p : Addr} {o : HO} : ∀ a u, H a = some u → ∃ w, upd H p o a = some w := fun a u e => by
  by_cases z : a = p
  · subst z; exact ⟨o, upd_same⟩
  · exact ⟨u, by rw [upd_ne z]; exact e⟩
theorem stepBan {α : Mp_} {hp : List O} {H : Hp} {p : Addr} {o : HO} (hp' : α.ban p) : Step (Al α hp) (Al α hp) H (Al α hp) (Al α hp) (upd H p o) :=
  ⟨fun a u e n => by
    have z : a ≠ p := fun z => by subst z; exact n (.inr hp')
    rw [upd_ne z]; exact e, fun _ h => .inl h, fun _ h => .inl h, fun _ h => h, stay_upd⟩
theorem WOk.setBan {K : Frag} {α : Mp_} {hp : List O} {H : Hp} {p : Addr} {o : HO} (w : WOk K α hp H) (hb : α.ban p) : WOk K α hp (upd H p o) :=
  ⟨w.len, fun n u q h1 h2 => (w.obj n u q h1 h2).mono (stepBan hb) fun hg b hz => upd_ne fun z => (w.ban p hb).2 (z ▸ ⟨n, q, u, h2, h1, hg, hz⟩), w.one, w.inj, fun a ha => by
    refine ⟨?_, (w.ban a ha).2⟩
    by_cases z : a = p
    · subst z; exact ⟨o, upd_same⟩
    · obtain ⟨x, hx⟩ := (w.ban a ha).1
      exact ⟨x, by rw [upd_ne z]; exact hx⟩⟩
def compL (v : Option Wk) (all : List D) (G : MG) (Mt : MT) (Me : ME) (env0 : List (Option S)) : List D → List D → List O → (List D → List O → Prop) → Prop
  | [], acc, hp, R => R acc hp
  | d :: ds, acc, hp, R => G (.d d) ⟨hp, env0, hp.length⟩ fun s1 => Mt s1 (fun b hp2 => if b = true then Me { s1 with hp := hp2 } (fun y hp3 => on (isD y) fun dy => acc.length < sizeLine ∧ still v all hp3 ∧ compL v all G Mt Me env0 ds (acc ++ [dy]) hp3 R) noX
      else still v all hp2 ∧ compL v all G Mt Me env0 ds acc hp2 R) noX
def mLc (I : MI) (G : MG) (Mt : MT) (Me : ME) (vs : List Nat) : ME := fun s R Xp => I s (fun v ds hp' => compL v ds G Mt Me (wipeE s.env vs) ds [] hp' fun acc hp2 => R (.d (.lst acc)) hp2) Xp
def mLcM (I : MI) (G : MG) (Mt : MT) (Me : ME) (vs : List Nat) : ME := fun s R Xp => I s (fun v ds hp' => compL v ds G Mt Me (wipeE s.env vs) ds [] hp' fun acc hp2 => R (.mu hp2.length) (hp2 ++ [.lst acc])) Xp
theorem postX_no {K : Frag} {W : WX} {σ : L2.St} {α : Mp_} {hp : List O} {H : Hp} : PostX K W σ α hp H noX := fun _ _ _ _ _ _ z => z.elim
structure Built (K : Frag) (α1 : Mp_) (hp1 : List O) (H1 : Hp) (p : Addr) (α' : Mp_) (hp' : List O) (H' : Hp) (acc : List D) : Prop where
  pre : OwnLe α1.own α'.own
  ban : α'.ban = fun a => α1.ban a ∨ a = p
  ok : WOk K α' hp' H'
  step : StepW α1 hp1 H1 α' hp' H'
  nw : ∀ (n : Nat) (p : Addr × List Addr), α1.own.length ≤ n → α'.own[n]? = some p → H1 p.1 = none
  at_ : ∃ us, H' p = some (.lst us) ∧ RepL K (Al α' hp') H' acc us
theorem Built.go {K : Frag} {α1 α2 α3 : Mp_} {hp1 hp2 hp3 : List O} {H1 H2 H3 : Hp} {p : Addr} {acc : List D} (b : Built K α1 hp1 H1 p α2 hp2 H2 acc) (e : Ext α2 hp2 H2 α3 hp3 H3) (w : WOk K α3 hp3 H3) : Built K α1 hp1 H1 p α3 hp3 H3 acc := by
  obtain ⟨us, h1, h2⟩ := b.at_
  refine ⟨b.pre.trans e.pre.own, e.pre.ban.trans b.ban, w, b.step.trans e.step, fun n q h z => ?_, us, e.step.keep p _ h1 ?_, RepL.mono e.step _ _ h2⟩
  · by_cases hn : n < α2.own.length
    · obtain ⟨q', h3, h4⟩ := e.pre.get (List.getElem?_eq_getElem hn)
      rw [z] at h3
      cases h3
      rw [h4]
      exact b.nw n _ h (List.getElem?_eq_getElem hn)
    · exact none_back b.step.stay (e.nw n q (by omega) z)
  · exact (b.ok.ban p (by rw [b.ban]; exact .inr rfl)).2
theorem Built.app {K : Frag} {α1 α2 : Mp_} {hp1 hp2 : List O} {H1 H2 : Hp} {p : Addr} {acc : List D} {d : D} {u : V} (hn : H1 p = none) (b : Built K α1 hp1 H1 p α2 hp2 H2 acc) (r : Rep K (Al α2 hp2) H2 d u) :
    ∃ us, H2 p = some (.lst us) ∧ us.length = acc.length ∧ Built K α1 hp1 H1 p α2 hp2 (upd H2 p (.lst (us ++ [u]))) (acc ++ [d]) := by
  obtain ⟨us, h1, h2⟩ := b.at_
  have hb : α2.ban p := by rw [b.ban]; exact .inr rfl
  refine ⟨us, h1, h2.length.symm, b.pre, b.ban, b.ok.setBan hb, ⟨fun a o e n => by
    have z : a ≠ p := fun z => by subst z; rw [hn] at e; cases e
    rw [upd_ne z]; exact b.step.keep a o e n, b.step.newA, b.step.newM, b.step.sub, fun a o e => by
    obtain ⟨u, hu⟩ := b.step.stay a o e
    exact stay_upd a u hu⟩, b.nw, _, upd_same, ?_⟩
  · exact (RepL.mono (stepBan hb) _ _ h2).append (.cons (Rep.mono (stepBan hb) _ _ r) .nil)
theorem Built.fin {K : Frag} {α1 α2 : Mp_} {hp1 hp2 : List O} {H1 H2 : Hp} {p : Addr} {acc : List D} (w1 : WOk K α1 hp1 H1) (hn : H1 p = none) (b : Built K α1 hp1 H1 p α2 hp2 H2 acc) :
    ∃ α3, Ext α1 hp1 H1 α3 hp2 H2 ∧ WOk K α3 hp2 H2 ∧ Rep K (Al α3 hp2) H2 (.lst acc) (.ref p) := by
  obtain ⟨us, h1, h2⟩ := b.at_
  obtain ⟨w3, st⟩ := b.ok.unban (b := α1.ban) (fun a h => by rw [b.ban]; exact .inl h)
  refine ⟨{ α2 with ban := α1.ban }, ⟨⟨b.pre, rfl⟩, b.step.trans st, b.nw⟩, w3, p, us, rfl, ⟨h1, fun z => ?_⟩, RepL.mono st _ _ h2⟩
  rcases z with z | z
  · exact (b.ok.ban p (by rw [b.ban]; exact .inr rfl)).2 z
  · obtain ⟨o, ho⟩ := (w1.ban p z).1
    rw [hn] at ho
    cases ho
theorem Built.finM {K : Frag} {α1 α2 : Mp_} {hp1 hp2 : List O} {H1 H2 : Hp} {p : Addr} {acc : List D} (w1 : WOk K α1 hp1 H1) (hn : H1 p = none) (b : Built K α1 hp1 H1 p α2 hp2 H2 acc) :
    ∃ α3, Ext α1 hp1 H1 α3 (hp2 ++ [.lst acc]) H2 ∧ WOk K α3 (hp2 ++ [.lst acc]) H2 ∧ SRep K α3 (hp2 ++ [.lst acc]) H2 (.mu hp2.length) (.ref p) := by
  obtain ⟨us, h1, h2⟩ := b.at_
  have hb : α2.ban p := by rw [b.ban]; exact .inr rfl
  obtain ⟨w3, st⟩ := b.ok.unban (b := α1.ban) (fun a h => by rw [b.ban]; exact .inl h)
  let α3 : Mp_ := { α2 with ban := α1.ban }
  have np : ¬ Al α3 hp2 p := fun z => by
    rcases z with z | z
    · exact (b.ok.ban p hb).2 z
    · obtain ⟨o, ho⟩ := (w1.ban p z).1
      rw [hn] at ho
      cases ho
  have mt : ∀ a, Mt (α3.push (p, [])) (hp2 ++ [.lst acc]) a → Mt α2 hp2 a ∨ a = p := fun a h => by
    rcases (mt_push w3.len).mp h with h | ⟨_, h⟩
    · exact .inl h
    · rcases h with h | h
      · exact .inr h
      · cases h
  have st2 : Step (Al α2 hp2) (Al α2 hp2) H2 (Al (α3.push (p, [])) (hp2 ++ [.lst acc])) (Al (α3.push (p, [])) (hp2 ++ [.lst acc])) H2 := by
    have q : ∀ a, Al (α3.push (p, [])) (hp2 ++ [.lst acc]) a → Al α2 hp2 a := fun a h => by
      rcases h with h | h
      · rcases mt a h with h | h
        · exact .inl h
        · subst h; exact .inr hb
      · exact .inr (by rw [b.ban]; exact .inl h)
    exact ⟨fun _ _ h _ => h, fun a h => .inl (q a h), fun a h => .inl (q a h), fun _ h => h, fun _ o h => ⟨o, h⟩⟩
  have stW : StepW α1 hp1 H1 (α3.push (p, [])) (hp2 ++ [.lst acc]) H2 := ⟨b.step.keep, fun a h => by
    rcases h with h | h
    · rcases mt a h with h | h
      · exact b.step.newA a (.inl h)
      · subst h; exact .inr hn
    · exact .inl (.inr h), fun a h => by
    rcases mt a h with h | h
    · exact b.step.newM a h
    · subst h; exact .inr hn, al_sub, b.step.stay⟩
  have hl := w3.len
  have cut : ∀ (n : Nat) (u : O) (q : Addr × List Addr), (hp2 ++ [O.lst acc])[n]? = some u → (α2.own ++ [(p, [])])[n]? = some q → (hp2[n]? = some u ∧ α2.own[n]? = some q) ∨ (n = hp2.length ∧ u = .lst acc ∧ q = (p, [])) := fun n u q h1 h2 => by
    by_cases hx : n < hp2.length
    · rw [List.getElem?_append_left hx] at h1
      rw [List.getElem?_append_left (by have : α2.own.length = hp2.length := hl; omega)] at h2
      exact .inl ⟨h1, h2⟩
    · have hy : n < (hp2 ++ [O.lst acc]).length := (List.getElem?_eq_some_iff.mp h1).1
      have en : n = hp2.length := by simp at hy; omega
      subst en
      rw [List.getElem?_append_right (Nat.le_refl _)] at h1
      rw [← (show α2.own.length = hp2.length from hl), List.getElem?_append_right (Nat.le_refl _)] at h2
      simp at h1 h2
      exact .inr ⟨rfl, h1.symm, h2.symm⟩
  have no : ∀ a, Mt α2 hp2 a → a ≠ p := fun a h z => (b.ok.ban p hb).2 (z ▸ h)
  refine ⟨α3.push (p, []), ⟨⟨?_, rfl⟩, stW, fun n q h z => ?_⟩, ⟨by show (α2.own ++ [(p, [])]).length = _; simp; exact hl, fun n u q h3 h4 => ?_, fun n u q h3 h4 hg => ?_, fun m n u u' q q' h3 h4 h5 h6 h7 h8 hne a ha hb' => ?_, fun a ha => ?_⟩, (p, []), ?_, rfl⟩
  · exact b.pre.appR
  · have z : (α2.own ++ [(p, [])])[n]? = some q := z
    by_cases hx : n < α2.own.length
    · rw [List.getElem?_append_left hx] at z
      exact b.nw n q h z
    · rw [List.getElem?_append_right (by omega)] at z
      cases y : n - α2.own.length with
      | zero => rw [y] at z; cases z; exact hn
      | succ k => rw [y] at z; cases z
  · rcases cut n u q h3 h4 with ⟨h3, h4⟩ | ⟨_, rfl, rfl⟩
    · exact (b.ok.obj n u q h3 h4).mono st2 fun _ _ _ => rfl
    · exact ⟨rfl, us, h1, RepL.mono st2 _ _ h2⟩
  · rcases cut n u q h3 h4 with ⟨h3, h4⟩ | ⟨_, rfl, rfl⟩
    · exact b.ok.one n u q h3 h4 hg
    · exact ⟨by simp, by simp⟩
  · rcases cut m u q h3 h4 with ⟨h3, h4⟩ | ⟨e1, z1, z2⟩
    · rcases cut n u' q' h6 h7 with ⟨h6, h7⟩ | ⟨e2, z3, z4⟩
      · exact b.ok.inj m n u u' q q' h3 h4 h5 h6 h7 h8 hne a ha hb'
      · rw [z4] at hb'
        rcases hb' with hb' | hb'
        · exact no a ⟨m, q, u, h4, h3, h5, ha⟩ hb'
        · cases hb'
    · rcases cut n u' q' h6 h7 with ⟨h6, h7⟩ | ⟨e2, z3, z4⟩
      · rw [z2] at ha
        rcases ha with ha | ha
        · exact no a ⟨n, q', u', h7, h6, h8, hb'⟩ ha
        · cases ha
      · exact hne (e1.trans e2.symm)
  · have ha : α1.ban a := ha
    obtain ⟨⟨o, ho⟩, hm⟩ := w1.ban a ha
    refine ⟨⟨o, b.step.keep a o ho hm⟩, fun z => ?_⟩
    rcases mt a z with z | z
    · exact (b.ok.ban a (by rw [b.ban]; exact .inl ha)).2 z
    · subst z
      rw [hn] at ho
      cases ho
  · show (α2.own ++ [(p, [])])[hp2.length]? = _
    rw [← (show α2.own.length = hp2.length from hl), List.getElem?_append_right (Nat.le_refl _)]
    simp
theorem Here.of {K : Frag} {α : Mp_} {hp : List O} {H : Hp} {env : List (Option S)} {σ : L2.St} (w : WOk K α hp H) (e : EnvR K α hp H env σ) : Here K ⟨α.own, H⟩ α ⟨hp, env, hp.length⟩ H σ :=
  ⟨Pre0.refl, trivial, w, e⟩
theorem SRep.monoA {K : Frag} {α β : Mp_} {hp hp1 : List O} {H H1 : Hp} (st : StepA α hp H β hp1 H1) (pre : OwnLe α.own β.own) : ∀ {s : S} {v : V}, SRep K α hp H s v → SRep K β hp1 H1 s v
  | .d x, v, h => Rep.mono st x v h
  | .mu n, v, ⟨p, h, q⟩ => by
    obtain ⟨p', h', e'⟩ := Pre.get (α := α) (β := { β with ban := α.ban }) ⟨pre, rfl⟩ h
    exact ⟨p', h', by rw [q, e']⟩
  | .ob n k, v, ⟨p, a, h, g, q⟩ => by
    obtain ⟨p', h', e1, e2⟩ := pre n p h
    exact ⟨p', a, h', adr_le e1 e2 g, q⟩
  | .exn a c d x, v, ⟨q, h⟩ => ⟨q, h.mono st⟩
theorem EnvR.monoA {K : Frag} {α β : Mp_} {hp hp1 : List O} {H H1 : Hp} (st : StepA α hp H β hp1 H1) (pre : OwnLe α.own β.own) {env : List (Option S)} {σ : L2.St} (h : EnvR K α hp H env σ) : EnvR K β hp1 H1 env σ :=
  ⟨h.1, fun i s hi => by obtain ⟨v, h1, h2⟩ := h.2 i s hi; exact ⟨v, h1, h2.monoA st pre⟩⟩
theorem Walks.at {K : Frag} {J : It} {α β : Mp_} {hp hp1 : List O} {H H1 : Hp} {v : Option Wk} {ds : List D} (wk : Walks K J α hp H v ds) (st : StepA α hp H β hp1 H1) (pre : OwnLe α.own β.own) (w : WOk K α hp H) (hv : sameAt v α α) : Walks K J β hp1 H1 v ds := by
  intro α' hp' H' st' sa w' stl
  exact wk α' hp' H' (st.trans st') ((own_same pre hv).trans sa) w' stl
theorem lc_loop {K : Frag} {W0 : WX} {g : TG} {tt : TT} {te : TE} {us vs : List Nat} {G : MG} {Mt : MT} {Me : ME} (hg : SimG K g us G) (hu : ∀ u ∈ us, u ∈ vs) (ht : SimT K W0 tt Mt) (he : SimE K W0 te Me)
    {α1 α0 : Mp_} {hp1 hp0 : List O} {H1 H0 : Hp} {env : List (Option S)} {σ : L2.St} {v : Option Wk} {ds acc0 : List D} {J : It} {p : Addr} {R : List D → List O → Prop} {Fin : Hp → Prop}
    (hn : H1 p = none) (b0 : Built K α1 hp1 H1 p α0 hp0 H0 acc0) (e0 : EnvR K α0 hp0 H0 env σ) (wk : Walks K J α0 hp0 H0 v ds) (stl : still v ds hp0) (hv : sameAt v α0 α0)
    (m : compL v ds G Mt Me (wipeE env vs) ds acc0 hp0 R) (fin : ∀ α2 hp2 H2 acc, R acc hp2 → Built K α1 hp1 H1 p α2 hp2 H2 acc → StepA α0 hp0 H0 α2 hp2 H2 → OwnLe α0.own α2.own → Fin H2) :
    ∃ W : Nat → Nat → Hp → Prop, (∃ m, W 0 m H0) ∧ ∀ i m H, W i m H → (J.stop i H ∧ Fin H) ∨ (J.go i H ∧ ∃ Nx : Hp → Prop, (∀ H', Nx H' → ∃ m', m' < m ∧ W (i + 1) m' H') ∧ ∀ x H', J.yld i H x H' → g x (wipe σ vs) H' fun σ2 H2 => wipe σ2 vs = wipe σ vs ∧ tt σ2 H2 fun b H3 =>
      if b = true then te σ2 H3 fun y H4 => ∃ acc, H4 p = some (.lst acc) ∧ acc.length < sizeLine ∧ Nx (upd H4 p (.lst (acc ++ [y]))) else Nx H3) := by
  let P : Nat → Hp → Prop := fun i H' => ∃ α' hp' acc, Built K α1 hp1 H1 p α' hp' H' acc ∧ StepA α0 hp0 H0 α' hp' H' ∧ OwnLe α0.own α'.own ∧ still v ds hp' ∧ compL v ds G Mt Me (wipeE env vs) (ds.drop i) acc hp' R
  refine ⟨fun i m H' => m = ds.length - i ∧ i ≤ ds.length ∧ P i H', ⟨ds.length, by simp, Nat.zero_le _, α0, hp0, acc0, b0, Step.refl fun _ h => h, OwnLe.refl _, stl, by rw [List.drop_zero]; exact m⟩, ?_⟩
  rintro i m H' ⟨rfl, hil, α', hp', acc, b, st, pre, stl', mm⟩
  obtain ⟨w2, w3⟩ := wk α' hp' H' st (own_same pre hv) b.ok stl'
  by_cases hlt : i < ds.length
  · obtain ⟨go, yl⟩ := w2 i ds[i] (List.getElem?_eq_getElem hlt)
    refine .inr ⟨go, P (i + 1), fun H2 q => ⟨ds.length - (i + 1), by omega, rfl, hlt, q⟩, fun x H2 y => ?_⟩
    obtain ⟨gr, rx⟩ := yl x H2 y
    obtain ⟨e2, wk2⟩ := b.ok.grown gr
    have b2 := b.go e2 wk2
    have st2 := st.trans e2.step.toA
    rw [List.drop_eq_getElem_cons hlt] at mm
    have env2 : EnvR K α' hp' H2 (wipeE env vs) (wipe σ vs) := EnvR.wipe (e0.monoA st2 pre) vs
    refine hg _ α' ⟨hp', wipeE env vs, hp'.length⟩ H2 _ (.d ds[i]) x (Here.of wk2 env2) rx _ mm _ fun s3 α3 H3 σ3 n3 i3 e3 fr => ?_
    have b3 := b2.go e3 i3.ok
    refine ⟨wipe_back (by rw [fr.1, wipe_length]) hu fr.2, ?_⟩
    refine ht α3 s3 H3 σ3 i3.ok i3.env _ _ n3 _ (fun c hp4 α4 H4 m4 e4 w4 => ?_) postX_no
    have b4 := b3.go e4 w4
    cases c with
    | false => exact ⟨α4, hp4, acc, b4, (st2.trans e3.step.toA).trans e4.step.toA, (pre.trans e3.pre.own).trans e4.pre.own, m4.1, m4.2⟩
    | true =>
      refine he α4 { s3 with hp := hp4 } H4 σ3 w4 (i3.env.mono e4) _ _ m4 _ (fun y5 hp5 α5 H5 u5 m5 e5 w5 r5 => ?_) postX_no
      have b5 := b4.go e5 w5
      obtain ⟨dy, hd, hz, stl5, m5⟩ := on.ex m5
      obtain ⟨ws, h1, h2, b6⟩ := b5.app hn (r5.isD hd)
      have hb : α5.ban p := by rw [b5.ban]; exact .inr rfl
      exact ⟨ws, h1, by rw [h2]; exact hz, α5, hp5, _, b6, (((st2.trans e3.step.toA).trans e4.step.toA).trans e5.step.toA).trans (stepBan hb), ((pre.trans e3.pre.own).trans e4.pre.own).trans e5.pre.own, stl5, m5⟩
  · have e : i = ds.length := by omega
    subst e
    rw [List.drop_length] at mm
    exact .inl ⟨w3, fin α' hp' H' acc mm b st pre⟩
theorem built0 {K : Frag} {α1 : Mp_} {hp1 : List O} {H1 : Hp} {p : Addr} (w1 : WOk K α1 hp1 H1) (hn : H1 p = none) : Built K α1 hp1 H1 p { α1 with ban := fun a => α1.ban a ∨ a = p } hp1 (upd H1 p (.lst [])) [] := by
  obtain ⟨w2, st⟩ := w1.banned (o := .lst []) hn
  exact ⟨OwnLe.refl _, rfl, w2, st, fun n q h z => (at_none h z).elim, [], upd_same, .nil⟩
theorem lc_run {K : Frag} {W0 : WX} {g : TG} {tt : TT} {te : TE} {us vs : List Nat} {G : MG} {Mt : MT} {Me : ME} (hg : SimG K g us G) (hu : ∀ u ∈ us, u ∈ vs) (ht : SimT K W0 tt Mt) (he : SimE K W0 te Me)
    {α1 : Mp_} {hp1 : List O} {H1 : Hp} {env : List (Option S)} {σ : L2.St} {v : Option Wk} {ds : List D} {J : It} {p : Addr} {R : List D → List O → Prop} {Fin : Hp → Prop}
    (w1 : WOk K α1 hp1 H1) (e1 : EnvR K α1 hp1 H1 env σ) (wk : Walks K J α1 hp1 H1 v ds) (stl : still v ds hp1) (hv : sameAt v α1 α1) (hn : H1 p = none)
    (m : compL v ds G Mt Me (wipeE env vs) ds [] hp1 R) (fin : ∀ α2 hp2 H2 acc, R acc hp2 → Built K α1 hp1 H1 p α2 hp2 H2 acc → Fin H2) :
    ∃ W : Nat → Nat → Hp → Prop, (∃ m, W 0 m (upd H1 p (.lst []))) ∧ ∀ i m H, W i m H → (J.stop i H ∧ Fin H) ∨ (J.go i H ∧ ∃ Nx : Hp → Prop, (∀ H', Nx H' → ∃ m', m' < m ∧ W (i + 1) m' H') ∧ ∀ x H', J.yld i H x H' → g x (wipe σ vs) H' fun σ2 H2 => wipe σ2 vs = wipe σ vs ∧ tt σ2 H2 fun b H3 =>
      if b = true then te σ2 H3 fun y H4 => ∃ acc, H4 p = some (.lst acc) ∧ acc.length < sizeLine ∧ Nx (upd H4 p (.lst (acc ++ [y]))) else Nx H3) :=
  lc_loop hg hu ht he hn (built0 w1 hn) (e1.monoA (built0 w1 hn).step.toA (built0 w1 hn).pre) (wk.at (built0 w1 hn).step.toA (built0 w1 hn).pre w1 hv) stl (own_same (built0 w1 hn).pre hv).right m fun α2 hp2 H2 acc r b _ _ => fin α2 hp2 H2 acc r b
theorem sim_lc {K : Frag} {W W0 : WX} {wi : TI} {g : TG} {tt : TT} {te : TE} {us vs : List Nat} {I : MI} {G : MG} {Mt : MT} {Me : ME} (hi : SimI K W wi I) (hg : SimG K g us G) (hu : ∀ u ∈ us, u ∈ vs) (ht : SimT K W0 tt Mt) (he : SimE K W0 te Me) :
    SimE K W (tLc wi g tt te vs) (mLc I G Mt Me vs) := by
  intro α s H σ w e R Xp m Q q qx
  refine hi α s H σ w e _ _ m _ (fun v ds hp1 α1 H1 J m1 e1 w1 wk stl hv => fun p hn => ?_) qx
  refine lc_run hg hu ht he w1 (e.mono e1) wk stl hv hn m1 fun α2 hp2 H2 acc r b => ?_
  obtain ⟨α3, e3, w3, r3⟩ := b.fin w1 hn
  exact q _ _ _ _ _ r (e1.trans e3) w3 r3
theorem sim_lcM {K : Frag} {W W0 : WX} {wi : TI} {g : TG} {tt : TT} {te : TE} {us vs : List Nat} {I : MI} {G : MG} {Mt : MT} {Me : ME} (hi : SimI K W wi I) (hg : SimG K g us G) (hu : ∀ u ∈ us, u ∈ vs) (ht : SimT K W0 tt Mt) (he : SimE K W0 te Me) :
    SimE K W (tLc wi g tt te vs) (mLcM I G Mt Me vs) := by
  intro α s H σ w e R Xp m Q q qx
  refine hi α s H σ w e _ _ m _ (fun v ds hp1 α1 H1 J m1 e1 w1 wk stl hv => fun p hn => ?_) qx
  refine lc_run hg hu ht he w1 (e.mono e1) wk stl hv hn m1 fun α2 hp2 H2 acc r b => ?_
  obtain ⟨α3, e3, w3, r3⟩ := b.finM w1 hn
  exact q _ _ _ _ _ r (e1.trans e3) w3 r3
end Mp
set_option Elab.async false
set_option linter.all false
set_option maxRecDepth 100000
set_option maxHeartbeats 4000000
namespace Mp
open PySem PySem.Spec PyProof.Rows L2
theorem set_get {τ : Type} {l : List τ} {n m : Nat} {x y : τ} (h : (l.set n x)[m]? = some y) : (n = m ∧ x = y) ∨ (n ≠ m ∧ l[m]? = some y) := by
  by_cases e : n = m
  · subst e
    have hn : n < l.length := by have := (List.getElem?_eq_some_iff.mp h).1; rwa [List.length_set] at this
    rw [List.getElem?_set_self hn] at h
    exact .inl ⟨rfl, Option.some.inj h⟩
  · rw [List.getElem?_set_ne e] at h
    exact .inr ⟨e, h⟩
theorem WOk.put {K : Frag} {α : Mp_} {hp : List O} {H : Hp} {n : Nat} {o o' : O} {p : Addr × List Addr} {x : HO} (w : WOk K α hp H) (h : hp[n]? = some o) (hg : o ≠ .gone) (ha : α.own[n]? = some p) (hg' : o' ≠ .gone)
    (ho : StepW α hp H α (hp.set n o') (upd H p.1 x) → OR K (Al α (hp.set n o')) (upd H p.1 x) p o') : WOk K α (hp.set n o') (upd H p.1 x) ∧ Ext α hp H α (hp.set n o') (upd H p.1 x) := by
  have hn : n < hp.length := (List.getElem?_eq_some_iff.mp h).1
  have mt : ∀ a, Mt α (hp.set n o') a → Mt α hp a := fun a ⟨m, q, u, h1, h2, h3, h4⟩ => by
    rcases set_get h2 with ⟨e, _⟩ | ⟨_, h2⟩
    · subst e
      exact ⟨n, q, o, h1, h, hg, h4⟩
    · exact ⟨m, q, u, h1, h2, h3, h4⟩
  have al : ∀ a, Al α (hp.set n o') a → Al α hp a := fun a z => z.imp (mt a) id
  have hp1 : Mt α hp p.1 := ⟨n, p, o, ha, h, hg, .inl rfl⟩
  have st : StepW α hp H α (hp.set n o') (upd H p.1 x) := ⟨fun a u e z => by
    have : a ≠ p.1 := fun y => by subst y; exact z hp1
    rw [upd_ne this]; exact e, fun a z => .inl (al a z), fun a z => .inl (mt a z), al_sub, stay_upd⟩
  refine ⟨⟨by rw [List.length_set]; exact w.len, fun m u q h1 h2 => ?_, fun m u q h1 h2 hz => ?_, fun m k u u' q q' h1 h2 h3 h4 h5 h6 hne a hx hy => ?_, fun a hb => ?_⟩, ⟨Pre.refl _, st, fun _ _ h e => (at_none h e).elim⟩⟩
  · rcases set_get h1 with ⟨e, e'⟩ | ⟨e, h1⟩
    · subst e e'
      rw [ha] at h2
      cases h2
      exact ho st
    · refine (w.obj m u q h1 h2).mono st fun hz b hb => ?_
      rw [upd_ne fun y => ?_]
      subst y
      exact w.inj n m o u p q h ha hg h1 h2 hz e _ (.inl rfl) hb
  · rcases set_get h1 with ⟨e, e'⟩ | ⟨e, h1⟩
    · subst e
      exact w.one n o q h h2 hg
    · exact w.one m u q h1 h2 hz
  · have f : ∀ {m : Nat} {u : O}, (hp.set n o')[m]? = some u → u ≠ .gone → ∃ u', hp[m]? = some u' ∧ u' ≠ .gone := fun {m u} h1 hz => by
      rcases set_get h1 with ⟨e, e'⟩ | ⟨e, h1⟩
      · subst e; exact ⟨o, h, hg⟩
      · exact ⟨u, h1, hz⟩
    obtain ⟨v, g1, g2⟩ := f h1 h3
    obtain ⟨v', g3, g4⟩ := f h4 h6
    exact w.inj m k v v' q q' g1 h2 g2 g3 h5 g4 hne a hx hy
  · obtain ⟨⟨y, hy⟩, hm⟩ := w.ban a hb
    obtain ⟨z, hz⟩ := st.stay a y hy
    exact ⟨⟨z, hz⟩, fun z => hm (mt a z)⟩
theorem WOk.putLst {K : Frag} {α : Mp_} {hp : List O} {H : Hp} {n : Nat} {ds ds' : List D} {p : Addr × List Addr} {us' : List V} (w : WOk K α hp H) (h : hp[n]? = some (.lst ds)) (ha : α.own[n]? = some p) (r : RepL K (Al α hp) H ds' us') :
    WOk K α (hp.set n (.lst ds')) (upd H p.1 (.lst us')) ∧ Ext α hp H α (hp.set n (.lst ds')) (upd H p.1 (.lst us')) :=
  w.put h (fun z => by cases z) ha (fun z => by cases z) fun st => ⟨(w.obj n _ p h ha).1, us', upd_same, RepL.mono st _ _ r⟩
def lstAt (hp : List O) (n : Nat) : Option (List D) := match hp[n]? with
  | some (.lst ds) => some ds
  | _ => none
theorem lstAt_some {hp : List O} {n : Nat} {ds : List D} (h : hp[n]? = some (.lst ds)) : lstAt hp n = some ds := by unfold lstAt; rw [h]
theorem lstAt_get {hp : List O} {n : Nat} {ds : List D} (h : lstAt hp n = some ds) : hp[n]? = some (.lst ds) := by
  unfold lstAt at h
  split at h
  · rename_i q; cases h; exact q
  · cases h
def dctAt (hp : List O) (n : Nat) : Option (List (Key × D)) := match hp[n]? with
  | some (.dct ds) => some ds
  | _ => none
theorem dctAt_get {hp : List O} {n : Nat} {ds : List (Key × D)} (h : dctAt hp n = some ds) : hp[n]? = some (.dct ds) := by
  unfold dctAt at h
  split at h
  · rename_i q; cases h; exact q
  · cases h
def asMu : S → Option Nat
  | .mu n => some n
  | _ => none
@[simp] theorem asMu_mu {n : Nat} : asMu (.mu n) = some n := rfl
theorem SRep.asMu {K : Frag} {α : Mp_} {hp : List O} {H : Hp} {s : S} {v : V} {n : Nat} (h : SRep K α hp H s v) (e : Mp.asMu s = some n) : ∃ p, α.own[n]? = some p ∧ v = .ref p.1 := by
  cases s with
  | d _ => cases e
  | mu m => cases e; exact h
  | ob _ _ => cases e
  | exn _ _ _ _ => cases e
theorem tyV_list {K : Frag} {H : Hp} {a : Addr} {us : List V} (h : H a = some (.lst us)) : tyV K "list" (.ref a) H := .inl ⟨rfl, _, .inl (.inl h)⟩
theorem WOk.lstOf {K : Frag} {α : Mp_} {hp : List O} {H : Hp} {n : Nat} {ds : List D} {p : Addr × List Addr} (w : WOk K α hp H) (h : lstAt hp n = some ds) (ha : α.own[n]? = some p) : ∃ us, H p.1 = some (.lst us) ∧ RepL K (Al α hp) H ds us := (w.obj n _ p (lstAt_get h) ha).2
abbrev FM := List D → List D → (D → List D → Prop) → Prop
def args (x : Bool) (hp : List O) (vs : List S) : Option (List D) := if x then vals hp vs else allD vs
def SimM (K : Frag) (x : Bool) (r : V → List V → Hp → VK → Prop) (f : FM) : Prop := ∀ (A : Av) (H : Hp) (a : Addr) (ds es : List D) (us vs : List V), H a = some (.lst us) → RepL K A H ds us → (if x then RepTL K A H es vs else RepL K A H es vs) → ∀ P, f ds es P → ∀ Q : VK,
  (∀ d ds' v us', P d ds' → (∀ A' H', (∀ e u, Rep K A H e u → Rep K A' H' e u) → Rep K A' H' d v) → RepL K A H ds' us' → Q v (upd H a (.lst us'))) → r (.ref a) vs H Q
def mMeth (x : Bool) (f : FM) (Mo : ME) (Ma : MA) : ME := fun s R Xp => Mo s (fun o hp1 => on (asMu o) fun n => on (lstAt hp1 n) fun _ => Ma { s with hp := hp1 } (fun vs hp2 => on (lstAt hp2 n) fun ds => on (args x hp2 vs) fun es => f ds es fun d ds' => R (.d d) (hp2.set n (.lst ds'))) Xp) Xp
theorem SRepL.args {K : Frag} {α : Mp_} {hp : List O} {H : Hp} (w : WOk K α hp H) {x : Bool} {vs : List S} {us : List V} {es : List D} (r : SRepL K α hp H vs us) (h : args x hp vs = some es) : if x then RepTL K (Al α hp) H es us else RepL K (Al α hp) H es us := by
  cases x with
  | true => exact r.vals w h
  | false => exact r.allD h
theorem sim_meth {K : Frag} {W : WX} {x : Bool} {r : V → List V → Hp → VK → Prop} {f : FM} {to : TE} {t : TA} {Mo : ME} {Ma : MA} (hr : SimM K x r f) (ho : SimE K W to Mo) (ha : SimA K W t Ma) : SimE K W (tBM K "list" r to t) (mMeth x f Mo Ma) := by
  intro α s H σ w e R Xp m Q q qx
  refine ho α s H σ w e _ _ m _ (fun o hp1 α1 H1 u m1 e1 w1 r1 => ?_) qx
  obtain ⟨n, g1, m1⟩ := on.ex m1
  obtain ⟨ds0, g2, m1⟩ := on.ex m1
  obtain ⟨p, h1, h2⟩ := r1.asMu g1
  obtain ⟨us0, h3, _⟩ := w1.lstOf g2 h1
  subst h2
  refine ⟨tyV_list h3, ha α1 { s with hp := hp1 } H1 σ w1 (e.mono e1) _ _ m1 _ (fun vs hp2 α2 H2 ws m2 e2 w2 r2 => ?_) (qx.at e1)⟩
  obtain ⟨ds, g3, m2⟩ := on.ex m2
  obtain ⟨es, g4, m2⟩ := on.ex m2
  obtain ⟨p2, h4, h5⟩ := e2.pre.get h1
  obtain ⟨us, h6, h7⟩ := w2.lstOf g3 h4
  rw [← h5]
  refine hr _ H2 p2.1 ds es us ws h6 h7 (r2.args w2 g4) _ m2 Q fun d ds' v us' pp rd rl => ?_
  obtain ⟨w3, e3⟩ := w2.putLst (lstAt_get g3) h4 rl
  exact q _ _ α2 _ v pp ((e1.trans e2).trans e3) w3 (rd _ _ fun _ _ h => Rep.mono e3.step _ _ h)
def fAppend : FM := fun ds es P => one es fun e => ds.length < sizeLine ∧ P .non (ds ++ [e])
theorem sim_append {K : Frag} : SimM K false rAppend fAppend := by
  intro A H a ds es us vs h r re P p Q q
  match es, vs, re, p with
  | [e], _, ⟨v, t, ev, h1, h2⟩, p =>
    cases h2
    subst ev
    exact ⟨a, us, v, rfl, rfl, h, by rw [← r.length]; exact p.1, q .non _ .non _ p.2 (fun _ _ _ => rfl) (r.append (.cons h1 .nil))⟩
def fPopAt : FM := fun ds es P => one es fun e => on (asI e) fun i => -(2 ^ 63) ≤ i ∧ i < 2 ^ 63 ∧ on (seqIndex? i ds.length) fun k => on (ds[k]?) fun y => P y (ds.eraseIdx k)
theorem sim_popAt {K : Frag} : SimM K false rPopAt fPopAt := by
  intro A H a ds es us vs h r re P p Q q
  match es, vs, re, p with
  | [e], _, ⟨v, t, ev, h1, h2⟩, p =>
    cases h2
    subst ev
    obtain ⟨i, g1, b1, b2, p⟩ := on.ex (show on (asI e) _ from p)
    obtain ⟨k, g2, p⟩ := on.ex p
    obtain ⟨y, g3, p⟩ := on.ex p
    obtain ⟨u, h3, h4⟩ := r.get g3
    cases h1.t.asI g1
    exact ⟨a, us, i, k, u, rfl, rfl, h, b1, b2, by rw [← r.length]; exact g2, h3, q y _ u _ p (fun _ _ k => k _ _ h4) (r.eraseIdx k)⟩
def mgSub (Mo Mi : ME) : MG := fun v s N => Mo s (fun o hp1 => Mi { s with hp := hp1 } (fun i hp2 => on (asMu o) fun n => on (lstAt hp2 n) fun ds => on (isD i) fun di => on (asI di) fun k => on (ixN ds.length k) fun j => on (isD v) fun d => N { s with hp := hp2.set n (.lst (ds.set j d)) }) noX) noX
theorem simg_sub {K : Frag} {W : WX} {to ti : TE} {Mo Mi : ME} (ho : SimE K W to Mo) (hi : SimE K W ti Mi) : SimG K (gSub to ti rSetL) [] (mgSub Mo Mi) := by
  intro ρ α s H σ v u h rv N m Q q
  refine ho α s H σ h.ok h.env _ _ m _ (fun o hp1 α1 H1 uo m1 e1 w1 r1 => ?_) postX_no
  refine hi α1 { s with hp := hp1 } H1 σ w1 (h.env.mono e1) _ _ m1 _ (fun i hp2 α2 H2 ui m2 e2 w2 r2 => ?_) postX_no
  obtain ⟨n, g1, m2⟩ := on.ex m2
  obtain ⟨ds, g2, m2⟩ := on.ex m2
  obtain ⟨di, g3, m2⟩ := on.ex m2
  obtain ⟨k, g4, m2⟩ := on.ex m2
  obtain ⟨j, g5, m2⟩ := on.ex m2
  obtain ⟨d, g6, m2⟩ := on.ex m2
  obtain ⟨p, h1, h2⟩ := (r1.mono e2).asMu g1
  obtain ⟨us, h3, h4⟩ := w2.lstOf g2 h1
  subst h2
  have rd := (rv.mono (e1.trans e2)).isD g6
  obtain ⟨w3, e3⟩ := w2.putLst (lstAt_get g2) h1 (h4.set j rd)
  refine ⟨p.1, us, k, j, rfl, (r2.isD g3).t.asI g4, h3, by rw [← h4.length]; exact g5, ?_⟩
  exact q _ α2 _ σ m2 (h.ext ((e1.trans e2).trans e3) w3) ((e1.trans e2).trans e3) ⟨rfl, fun _ _ => rfl⟩
def mgsNil : List D → PS → (PS → Prop) → Prop := fun ds s N => match ds with
  | [] => N s
  | _ => False
def mgsCons (G : MG) (Gs : List D → PS → (PS → Prop) → Prop) : List D → PS → (PS → Prop) → Prop := fun ds s N => match ds with
  | d :: r => G (.d d) s fun s1 => Gs r s1 N
  | _ => False
def SimGs (K : Frag) (g : TGs) (us : List Nat) (M : List D → PS → (PS → Prop) → Prop) : Prop := ∀ (ρ : En) (α : Mp_) (s : PS) (H : Hp) (σ : L2.St) (ds : List D) (vs : List V), Here K ρ α s H σ → RepL K (Al α s.hp) H ds vs → ∀ N, M ds s N → ∀ Q : L2.St → Hp → Prop,
  (∀ s' α' H' σ', N s' → Here K ρ α' s' H' σ' → Ext α s.hp H α' s'.hp H' → (σ'.length = σ.length ∧ ∀ i, i ∉ us → σ'[i]? = σ[i]?) → Q σ' H') → g vs σ H Q
theorem simgs_nil {K : Frag} : SimGs K gNil [] mgsNil := by
  intro ρ α s H σ ds vs h r N m Q q
  match ds, vs, r, m with
  | [], _, r, m => cases r; exact ⟨rfl, q s α H σ m h Ext.refl ⟨rfl, fun _ _ => rfl⟩⟩
theorem simgs_cons {K : Frag} {g : TG} {gs : TGs} {us ws : List Nat} {G : MG} {Gs : List D → PS → (PS → Prop) → Prop} (h1 : SimG K g us G) (h2 : SimGs K gs ws Gs) : SimGs K (gCons g gs) (us ++ ws) (mgsCons G Gs) := by
  intro ρ α s H σ ds vs h r N m Q q
  match ds, vs, r, m with
  | d :: ds, _, ⟨v, t, e, r1, r2⟩, m =>
    subst e
    refine ⟨v, t, rfl, h1 ρ α s H σ (.d d) v h r1 _ m _ fun s1 α1 H1 σ1 n1 i1 e1 f1 => ?_⟩
    refine h2 ρ α1 s1 H1 σ1 ds t i1 (RepL.mono e1.step _ _ r2) _ n1 _ fun s2 α2 H2 σ2 n2 i2 e2 f2 => ?_
    refine q s2 α2 H2 σ2 n2 i2 (e1.trans e2) ⟨f2.1.trans f1.1, fun i hi => ?_⟩
    rw [List.mem_append, not_or] at hi
    exact (f2.2 i hi.2).trans (f1.2 i hi.1)
def mgTup (n : Nat) (Gs : List D → PS → (PS → Prop) → Prop) : MG := fun v s N => on (isD v) fun d => on (asTup d) fun ds => ds.length = n ∧ Gs ds s N
theorem simg_tup {K : Frag} {n : Nat} {gs : TGs} {us : List Nat} {Gs : List D → PS → (PS → Prop) → Prop} (h : SimGs K gs us Gs) : SimG K (gTup K n gs) us (mgTup n Gs) := by
  intro ρ α s H σ v u hh r N m Q q
  obtain ⟨d, g1, m⟩ := on.ex m
  obtain ⟨ds, g2, m1, m2⟩ := on.ex m
  have rd := r.isD g1
  cases d with
  | tup ds' =>
    cases g2
    obtain ⟨a, vs, e, h1, h2⟩ := tup_sq rd
    exact ⟨a, vs, e, h1, by rw [← h2.length]; exact m1, h ρ α s H σ ds vs hh h2 N m2 Q q⟩
  | _ => cases g2
end Mp
set_option Elab.async false
set_option linter.all false
set_option maxRecDepth 100000
set_option maxHeartbeats 4000000
namespace Mp
open PySem PySem.Spec PyProof.Rows L2
def keyD : D → Option Key
  | .int i => some (.inl i)
  | .str x => some (.inr x)
  | _ => none
@[simp] theorem keyD_int {i : Int} : keyD (.int i) = some (.inl i) := rfl
@[simp] theorem keyD_str {i : Str} : keyD (.str i) = some (.inr i) := rfl
theorem Rep.key {K : Frag} {A : Av} {H : Hp} {d : D} {v : V} {k : Key} (h : Rep K A H d v) (e : keyD d = some k) : v = kV k := by
  cases d with
  | int i => cases e; exact h
  | str i => cases e; exact h
  | _ => cases e
def getK (l : List (Key × D)) (k : Key) : Option D := (l.find? fun kv => decide (kv.1 = k)).map (·.2)
def setK (l : List (Key × D)) (k : Key) (d : D) : List (Key × D) :=
  if (l.any fun kv => decide (kv.1 = k)) = true then l.map (fun kv => if kv.1 = k then (kv.1, d) else kv) else l ++ [(k, d)]
section
variable {K : Frag} {A : Av} {H : Hp}
theorem RepK.get : ∀ {l : List (Key × D)} {ws : List (Key × V)} {k : Key} {d : D}, RepK K A H l ws → getK l k = some d → ∃ v, valV ws k = some v ∧ Rep K A H d v
  | [], _, k, d, _, e => by cases e
  | (j, x) :: r, _, k, d, ⟨v, t, e, h, q⟩, g => by
    subst e
    unfold getK valV at *
    rw [List.find?_cons] at g ⊢
    by_cases hj : j = k
    · simp only [hj, decide_true, Option.map_some] at g ⊢
      cases g
      exact ⟨v, rfl, h⟩
    · simp only [hj, decide_false] at g ⊢
      exact RepK.get q g
theorem RepK.none : ∀ {l : List (Key × D)} {ws : List (Key × V)} {k : Key}, RepK K A H l ws → getK l k = none → valV ws k = none
  | [], _, k, h, _ => by cases h; rfl
  | (j, x) :: r, _, k, ⟨v, t, e, h, q⟩, g => by
    subst e
    unfold getK valV at *
    rw [List.find?_cons] at g ⊢
    by_cases hj : j = k
    · simp only [hj, decide_true, Option.map_some] at g
      cases g
    · simp only [hj, decide_false] at g ⊢
      exact RepK.none q g
theorem RepK.any (k : Key) : ∀ {l : List (Key × D)} {ws : List (Key × V)}, RepK K A H l ws → (ws.any fun kv => decide (kv.1 = k)) = l.any fun kv => decide (kv.1 = k)
  | [], _, h => by cases h; rfl
  | (j, x) :: r, _, ⟨v, t, e, h, q⟩ => by subst e; rw [List.any_cons, List.any_cons, RepK.any k q]
theorem RepK.len : ∀ {l : List (Key × D)} {ws : List (Key × V)}, RepK K A H l ws → l.length = ws.length
  | [], _, h => by cases h; rfl
  | (j, x) :: r, _, ⟨v, t, e, h, q⟩ => by subst e; exact congrArg Nat.succ (RepK.len q)
theorem RepK.app : ∀ {l m : List (Key × D)} {ws us : List (Key × V)}, RepK K A H l ws → RepK K A H m us → RepK K A H (l ++ m) (ws ++ us)
  | [], _, _, _, h, g => by cases h; exact g
  | (j, x) :: r, _, _, _, ⟨v, t, e, h, q⟩, g => by subst e; exact ⟨v, t ++ _, rfl, h, RepK.app q g⟩
theorem RepK.repl (k : Key) {d : D} {u : V} (hd : Rep K A H d u) : ∀ {l : List (Key × D)} {ws : List (Key × V)}, RepK K A H l ws → RepK K A H (l.map fun kv => if kv.1 = k then (kv.1, d) else kv) (ws.map fun kv => if kv.1 = k then (kv.1, u) else kv)
  | [], _, h => by cases h; rfl
  | (j, x) :: r, _, ⟨v, t, e, h, q⟩ => by
    subst e
    rw [List.map_cons, List.map_cons]
    by_cases hj : j = k
    · simp only [hj, if_true]; exact ⟨u, _, rfl, hd, RepK.repl k hd q⟩
    · simp only [hj, if_false]; exact ⟨v, _, rfl, h, RepK.repl k hd q⟩
theorem RepK.set {l : List (Key × D)} {ws : List (Key × V)} (k : Key) {d : D} {u : V} (hd : Rep K A H d u) (h : RepK K A H l ws) : RepK K A H (setK l k d) (putK ws k u) := by
  unfold setK putK
  rw [h.any k]
  split
  · exact h.repl k hd
  · exact h.app ⟨u, [], rfl, hd, rfl⟩
end
theorem WOk.dctOf {K : Frag} {α : Mp_} {hp : List O} {H : Hp} {n : Nat} {ds : List (Key × D)} {p : Addr × List Addr} (w : WOk K α hp H) (h : dctAt hp n = some ds) (ha : α.own[n]? = some p) : ∃ us, H p.1 = some (.dK us) ∧ RepK K (Al α hp) H ds us := (w.obj n _ p (dctAt_get h) ha).2
def mDGet (Md Mk : ME) : ME := fun s R Xp => Md s (fun o hp1 => Mk { s with hp := hp1 } (fun y hp2 => on (asMu o) fun n => on (dctAt hp2 n) fun l => on (isD y) fun dy => on (keyD dy) fun k => on (getK l k) fun d => R (.d d) hp2) Xp) Xp
theorem sim_dget {K : Frag} {W : WX} {td ty : TE} {Md Mk : ME} (hd : SimE K W td Md) (hk : SimE K W ty Mk) : SimE K W (tDGet td ty) (mDGet Md Mk) := by
  intro α s H σ w e R Xp m Q q qx
  refine hd α s H σ w e _ _ m _ (fun o hp1 α1 H1 u m1 e1 w1 r1 => ?_) qx
  refine hk α1 { s with hp := hp1 } H1 σ w1 (e.mono e1) _ _ m1 _ (fun y hp2 α2 H2 uy m2 e2 w2 r2 => ?_) (qx.at e1)
  obtain ⟨n, g1, m2⟩ := on.ex m2
  obtain ⟨l, g2, m2⟩ := on.ex m2
  obtain ⟨dy, g3, m2⟩ := on.ex m2
  obtain ⟨k, g4, m2⟩ := on.ex m2
  obtain ⟨d, g5, m2⟩ := on.ex m2
  obtain ⟨p, h1, h2⟩ := (r1.mono e2).asMu g1
  obtain ⟨us, h3, h4⟩ := w2.dctOf g2 h1
  obtain ⟨v, h5, h6⟩ := h4.get g5
  subst h2
  refine ⟨p.1, v, rfl, ?_, q _ _ α2 H2 v m2 (e1.trans e2) w2 h6⟩
  rw [(r2.isD g3).key g4, ← h5]
  exact DGet.k h3
theorem RepK.isSome {K : Frag} {A : Av} {H : Hp} {l : List (Key × D)} {ws : List (Key × V)} {k : Key} (h : RepK K A H l ws) : (valV ws k).isSome = (getK l k).isSome := by
  cases e : getK l k with
  | none => rw [h.none e]; rfl
  | some d => obtain ⟨v, h1, _⟩ := h.get e; rw [h1]; rfl
def mDPut (Md Mk Me : ME) : MS := fun s k => Me s (fun v hp1 => Md { s with hp := hp1 } (fun o hp2 => Mk { s with hp := hp2 } (fun y hp3 => on (asMu o) fun n => on (dctAt hp3 n) fun l => on (isD y) fun dy => on (keyD dy) fun key => on (isD v) fun d => l.length < sizeLine ∧
  k.nx { s with hp := hp3.set n (.dct (setK l key d)) }) k.ex) k.ex) k.ex
theorem sim_dput {K : Frag} {W : WX} {td ty tv : TE} {Md Mk Me : ME} (hd : SimE K W td Md) (hk : SimE K W ty Mk) (he : SimE K W tv Me) : SimS K W (sDPut td ty tv) (mDPut Md Mk Me) := by
  intro ρ α s H σ h k m D p
  have px := p.postX (σ := σ) h.pre
  refine he α s H σ h.ok h.env _ _ m _ (fun v hp1 α1 H1 u m1 e1 w1 r1 => ?_) px
  refine hd α1 { s with hp := hp1 } H1 σ w1 (h.env.mono e1) _ _ m1 _ (fun o hp2 α2 H2 uo m2 e2 w2 r2 => ?_) (px.at e1)
  refine hk α2 { s with hp := hp2 } H2 σ w2 ((h.env.mono e1).mono e2) _ _ m2 _ (fun y hp3 α3 H3 uy m3 e3 w3 r3 => ?_) ((px.at e1).at e2)
  obtain ⟨n, g1, m3⟩ := on.ex m3
  obtain ⟨l, g2, m3⟩ := on.ex m3
  obtain ⟨dy, g3, m3⟩ := on.ex m3
  obtain ⟨key, g4, m3⟩ := on.ex m3
  obtain ⟨d, g5, hz, m3⟩ := on.ex m3
  obtain ⟨q, h1, h2⟩ := (r2.mono e3).asMu g1
  obtain ⟨us, h3, h4⟩ := w3.dctOf g2 h1
  subst h2
  have rd := ((r1.mono e2).mono e3).isD g5
  obtain ⟨w4, e4⟩ := w3.put (x := .dK (putK us key u)) (o' := .dct (setK l key d)) (dctAt_get g2) (fun z => by cases z) h1 (fun z => by cases z) fun st => ⟨(w3.obj n _ q (dctAt_get g2) h1).1, _, upd_same, (h4.set key rd).mono st⟩
  have eT := ((e1.trans e2).trans e3).trans e4
  refine ⟨q.1, upd H3 q.1 (.dK (putK us key u)), rfl, ?_, p.nx _ α3 _ σ m3 (h.ext eT w4) eT.step eT.pre.ban⟩
  rw [(r3.isD g3).key g4]
  exact DPut.k h3 (by rw [← h4.len]; exact hz)
def mPairs : List (ME × ME) → PS → (List (S × S) → List O → Prop) → MX → Prop
  | [], s, R, _ => R [] s.hp
  | (Mk, Mv) :: r, s, R, Xp => Mk s (fun k hp1 => Mv { s with hp := hp1 } (fun v hp2 => mPairs r { s with hp := hp2 } (fun ps hp3 => R ((k, v) :: ps) hp3) Xp) Xp) Xp
def keysD : List (S × S) → Option (List (Key × D))
  | [] => some []
  | (k, v) :: r => (isD k).bind fun dk => (keyD dk).bind fun key => (isD v).bind fun d => (keysD r).bind fun l => some ((key, d) :: l)
inductive SimPs (K : Frag) (W : WX) : List (TE × TE) → List (ME × ME) → Prop where
  | nil : SimPs K W [] []
  | cons {tk tv : TE} {Mk Mv : ME} {r : List (TE × TE)} {m : List (ME × ME)} (h1 : SimE K W tk Mk) (h2 : SimE K W tv Mv) (h3 : SimPs K W r m) : SimPs K W ((tk, tv) :: r) ((Mk, Mv) :: m)
theorem sim_pairs {K : Frag} {W : WX} : ∀ {tr : List (TE × TE)} {mr : List (ME × ME)}, SimPs K W tr mr → ∀ (α : Mp_) (s : PS) (H : Hp) (σ : L2.St), WOk K α s.hp H → EnvR K α s.hp H s.env σ → ∀ R Xp, mPairs mr s R Xp → ∀ Q : List (V × V) → Hp → Prop,
    (∀ ps hp' α' H' vs, R ps hp' → Ext α s.hp H α' hp' H' → WOk K α' hp' H' → Paired (fun (x : S × S) (y : V × V) => SRep K α' hp' H' x.1 y.1 ∧ SRep K α' hp' H' x.2 y.2) ps vs → Q vs H') → PostX K W σ α s.hp H Xp → tPairs tr σ H Q
  | _, _, .nil, α, s, H, σ, w, e, R, Xp, m, Q, q, _ => q [] s.hp α H [] m Ext.refl w .nil
  | _, _, .cons h1 h2 h3, α, s, H, σ, w, e, R, Xp, m, Q, q, qx => by
    refine h1 α s H σ w e _ _ m _ (fun k hp1 α1 H1 u m1 e1 w1 r1 => ?_) qx
    refine h2 α1 { s with hp := hp1 } H1 σ w1 (e.mono e1) _ _ m1 _ (fun v hp2 α2 H2 u2 m2 e2 w2 r2 => ?_) (qx.at e1)
    refine sim_pairs h3 α2 { s with hp := hp2 } H2 σ w2 ((e.mono e1).mono e2) _ _ m2 _ (fun ps hp3 α3 H3 vs m3 e3 w3 r3 => ?_) ((qx.at e1).at e2)
    exact q _ _ α3 H3 _ m3 ((e1.trans e2).trans e3) w3 (.cons ⟨(r1.mono e2).mono e3, r2.mono e3⟩ r3)
theorem keysD_ok {K : Frag} {α : Mp_} {hp : List O} {H : Hp} : ∀ {ps : List (S × S)} {vs : List (V × V)} {l : List (Key × D)}, Paired (fun (x : S × S) (y : V × V) => SRep K α hp H x.1 y.1 ∧ SRep K α hp H x.2 y.2) ps vs → keysD ps = some l →
    ∃ kvs : List (Key × V), vs = kvs.map (fun kv => (kV kv.1, kv.2)) ∧ RepK K (Al α hp) H l kvs
  | [], _, l, r, e => by cases r; cases e; exact ⟨[], rfl, rfl⟩
  | (k, v) :: r, _, l, rr, e => by
    cases rr with
    | @cons a b as bs h t =>
      obtain ⟨u1, u2⟩ := b
      unfold keysD at e
      cases g1 : isD k with
      | none => rw [g1] at e; cases e
      | some dk =>
        cases g2 : keyD dk with
        | none => rw [g1] at e; simp [g2] at e
        | some key =>
          cases g3 : isD v with
          | none => rw [g1] at e; simp [g2, g3] at e
          | some d =>
            cases g4 : keysD r with
            | none => rw [g1] at e; simp [g2, g3, g4] at e
            | some l' =>
              rw [g1] at e
              simp [g2, g3, g4] at e
              subst e
              obtain ⟨kvs, e1, r1⟩ := keysD_ok t g4
              refine ⟨(key, u2) :: kvs, ?_, u2, kvs, rfl, h.2.isD g3, r1⟩
              rw [e1, List.map_cons]
              have : u1 = kV key := (h.1.isD g1).key g2
              rw [this]
def mergeD (l more : List (Key × D)) : List (Key × D) := more.foldl (fun acc kv => setK acc kv.1 kv.2) l
theorem RepK.merge {K : Frag} {A : Av} {H : Hp} : ∀ {more : List (Key × D)} {ms : List (Key × V)} {l : List (Key × D)} {ws : List (Key × V)}, RepK K A H more ms → RepK K A H l ws → RepK K A H (mergeD l more) (mergeK ws ms)
  | [], _, l, ws, h, g => by cases h; exact g
  | (k, d) :: r, _, l, ws, ⟨v, t, e, h, q⟩, g => by subst e; exact RepK.merge (more := r) (ms := t) q (g.set k h)
theorem ban_push {K : Frag} {α1 α2 : Mp_} {hp1 hp2 : List O} {H1 H2 : Hp} {p : Addr} {o : O} (w1 : WOk K α1 hp1 H1) (hn : H1 p = none) (bpre : OwnLe α1.own α2.own) (bban : α2.ban = fun a => α1.ban a ∨ a = p) (bok : WOk K α2 hp2 H2)
    (bst : StepW α1 hp1 H1 α2 hp2 H2) (bnw : ∀ (n : Nat) (q : Addr × List Addr), α1.own.length ≤ n → α2.own[n]? = some q → H1 q.1 = none)
    (ho : ∀ A' : Av, Step (Al α2 hp2) (Al α2 hp2) H2 A' A' H2 → OR K A' H2 (p, []) o) :
    ∃ α3, Ext α1 hp1 H1 α3 (hp2 ++ [o]) H2 ∧ WOk K α3 (hp2 ++ [o]) H2 ∧ SRep K α3 (hp2 ++ [o]) H2 (.mu hp2.length) (.ref p) := by
  have hb : α2.ban p := by rw [bban]; exact .inr rfl
  obtain ⟨w3, st⟩ := bok.unban (b := α1.ban) (fun a h => by rw [bban]; exact .inl h)
  let α3 : Mp_ := { α2 with ban := α1.ban }
  have mt : ∀ a, Mt (α3.push (p, [])) (hp2 ++ [o]) a → Mt α2 hp2 a ∨ a = p := fun a h => by
    rcases (mt_push w3.len).mp h with h | ⟨_, h⟩
    · exact .inl h
    · rcases h with h | h
      · exact .inr h
      · cases h
  have st2 : Step (Al α2 hp2) (Al α2 hp2) H2 (Al (α3.push (p, [])) (hp2 ++ [o])) (Al (α3.push (p, [])) (hp2 ++ [o])) H2 := by
    have q : ∀ a, Al (α3.push (p, [])) (hp2 ++ [o]) a → Al α2 hp2 a := fun a h => by
      rcases h with h | h
      · rcases mt a h with h | h
        · exact .inl h
        · subst h; exact .inr hb
      · exact .inr (by rw [bban]; exact .inl h)
    exact ⟨fun _ _ h _ => h, fun a h => .inl (q a h), fun a h => .inl (q a h), fun _ h => h, fun _ o h => ⟨o, h⟩⟩
  have stW : StepW α1 hp1 H1 (α3.push (p, [])) (hp2 ++ [o]) H2 := ⟨bst.keep, fun a h => by
    rcases h with h | h
    · rcases mt a h with h | h
      · exact bst.newA a (.inl h)
      · subst h; exact .inr hn
    · exact .inl (.inr h), fun a h => by
    rcases mt a h with h | h
    · exact bst.newM a h
    · subst h; exact .inr hn, al_sub, bst.stay⟩
  have hl := w3.len
  have cut : ∀ (n : Nat) (u : O) (q : Addr × List Addr), (hp2 ++ [o])[n]? = some u → (α2.own ++ [(p, [])])[n]? = some q → (hp2[n]? = some u ∧ α2.own[n]? = some q) ∨ (n = hp2.length ∧ u = o ∧ q = (p, [])) := fun n u q h1 h2 => by
    by_cases hx : n < hp2.length
    · rw [List.getElem?_append_left hx] at h1
      rw [List.getElem?_append_left (by have : α2.own.length = hp2.length := hl; omega)] at h2
      exact .inl ⟨h1, h2⟩
    · have hy : n < (hp2 ++ [o]).length := (List.getElem?_eq_some_iff.mp h1).1
      have en : n = hp2.length := by simp at hy; omega
      subst en
      rw [List.getElem?_append_right (Nat.le_refl _)] at h1
      rw [← (show α2.own.length = hp2.length from hl), List.getElem?_append_right (Nat.le_refl _)] at h2
      simp at h1 h2
      exact .inr ⟨rfl, h1.symm, h2.symm⟩
  have no : ∀ a, Mt α2 hp2 a → a ≠ p := fun a h z => (bok.ban p hb).2 (z ▸ h)
  refine ⟨α3.push (p, []), ⟨⟨?_, rfl⟩, stW, fun n q h z => ?_⟩, ⟨by show (α2.own ++ [(p, [])]).length = _; simp; exact hl, fun n u q h3 h4 => ?_, fun n u q h3 h4 hg => ?_, fun m n u u' q q' h3 h4 h5 h6 h7 h8 hne a ha hb' => ?_, fun a ha => ?_⟩, (p, []), ?_, rfl⟩
  · exact bpre.appR
  · have z : (α2.own ++ [(p, [])])[n]? = some q := z
    by_cases hx : n < α2.own.length
    · rw [List.getElem?_append_left hx] at z
      exact bnw n q h z
    · rw [List.getElem?_append_right (by omega)] at z
      cases y : n - α2.own.length with
      | zero => rw [y] at z; cases z; exact hn
      | succ k => rw [y] at z; cases z
  · rcases cut n u q h3 h4 with ⟨h3, h4⟩ | ⟨_, rfl, rfl⟩
    · exact (bok.obj n u q h3 h4).mono st2 fun _ _ _ => rfl
    · exact ho _ st2
  · rcases cut n u q h3 h4 with ⟨h3, h4⟩ | ⟨_, rfl, rfl⟩
    · exact bok.one n u q h3 h4 hg
    · exact ⟨by simp, by simp⟩
  · rcases cut m u q h3 h4 with ⟨h3, h4⟩ | ⟨e1, z1, z2⟩
    · rcases cut n u' q' h6 h7 with ⟨h6, h7⟩ | ⟨e2, z3, z4⟩
      · exact bok.inj m n u u' q q' h3 h4 h5 h6 h7 h8 hne a ha hb'
      · rw [z4] at hb'
        rcases hb' with hb' | hb'
        · exact no a ⟨m, q, u, h4, h3, h5, ha⟩ hb'
        · cases hb'
    · rcases cut n u' q' h6 h7 with ⟨h6, h7⟩ | ⟨e2, z3, z4⟩
      · rw [z2] at ha
        rcases ha with ha | ha
        · exact no a ⟨n, q', u', h7, h6, h8, hb'⟩ ha
        · cases ha
      · exact hne (e1.trans e2.symm)
  · have ha : α1.ban a := ha
    obtain ⟨⟨y, hy⟩, hm⟩ := w1.ban a ha
    refine ⟨⟨y, bst.keep a y hy hm⟩, fun z => ?_⟩
    rcases mt a z with z | z
    · exact (bok.ban a (by rw [bban]; exact .inl ha)).2 z
    · subst z
      rw [hn] at hy
      cases hy
  · show (α2.own ++ [(p, [])])[hp2.length]? = _
    rw [← (show α2.own.length = hp2.length from hl), List.getElem?_append_right (Nat.le_refl _)]
    simp
def mDisp (mr : List (ME × ME)) : ME := fun s R Xp => mPairs mr s (fun ps hp1 => on (keysD ps) fun l => l.length ≤ 15 ∧ R (.mu hp1.length) (hp1 ++ [.dct (mergeD [] l)])) Xp
theorem sim_disp {K : Frag} {W : WX} {tr : List (TE × TE)} {mr : List (ME × ME)} (h : SimPs K W tr mr) : SimE K W (tDisp tr) (mDisp mr) := by
  intro α s H σ w e R Xp m Q q qx
  intro p hn
  obtain ⟨wb, stb⟩ := w.banned (o := .dK []) hn
  have eb : EnvR K { α with ban := fun a => α.ban a ∨ a = p } s.hp (upd H p (.dK [])) s.env σ := ⟨e.1, fun i x hx => by
    obtain ⟨v, h1, h2⟩ := e.2 i x hx
    refine ⟨v, h1, ?_⟩
    cases x with
    | d d => exact Rep.mono stb d v h2
    | mu n => exact h2
    | ob _ _ => exact h2
    | exn a c d x => exact ⟨h2.1, h2.2.mono stb⟩⟩
  refine sim_pairs h { α with ban := fun a => α.ban a ∨ a = p } s _ σ wb eb _ _ m _ (fun ps hp1 α1 H1 vs m1 e1 w1 r1 => ?_) ?_
  · obtain ⟨l, g1, hz, m1⟩ := on.ex m1
    obtain ⟨kvs, ev, rk⟩ := keysD_ok r1 g1
    have hb1 : α1.ban p := by rw [e1.pre.ban]; exact .inr rfl
    have hp1' : H1 p = some (.dK []) := e1.step.keep p _ upd_same (wb.ban p (.inr rfl)).2
    refine ⟨hp1', kvs, ev, by rw [← rk.len]; exact hz, ?_⟩
    have bst : StepW α s.hp H α1 hp1 (upd H1 p (.dK (mergeK [] kvs))) := by
      have st0 := stb.trans e1.step
      refine ⟨fun a u ea na => ?_, st0.newA, st0.newM, st0.sub, fun a u ea => ?_⟩
      · have z : a ≠ p := fun z => by subst z; rw [hn] at ea; cases ea
        rw [upd_ne z]; exact st0.keep a u ea na
      · obtain ⟨u', hu⟩ := st0.stay a u ea
        exact stay_upd a u' hu
    obtain ⟨α3, e3, w3, r3⟩ := ban_push (o := .dct (mergeD [] l)) w hn e1.pre.own e1.pre.ban (w1.setBan hb1) bst (fun n q h z => none_back stb.stay (e1.nw n q h z))
      fun A' st => ⟨rfl, _, upd_same, (RepK.merge (RepK.mono (stepBan hb1) rk) (show RepK K (Al α1 hp1) _ [] [] from rfl)).mono st⟩
    exact q _ _ α3 _ _ m1 e3 w3 r3
  · intro x hp' α' H' c dd z e1 w1 r1
    obtain ⟨w2, st2⟩ := w1.unban (b := α.ban) (fun a h => by rw [e1.pre.ban]; exact .inl h)
    refine qx x hp' { α' with ban := α.ban } H' c dd z ⟨⟨e1.pre.own, rfl⟩, (stb.trans e1.step).trans st2, fun n q h z => none_back stb.stay (e1.nw n q h z)⟩ w2 ?_
    exact r1.mono st2
def cutD (xs : List D) (lo hi : Option Int) : List D := (xs.drop (HT.sIx xs.length 0 lo)).take (HT.sIx xs.length xs.length hi - HT.sIx xs.length 0 lo)
theorem RepL.cut {K : Frag} {A : Av} {H : Hp} {ds : List D} {vs : List V} (r : RepL K A H ds vs) (lo hi : Option Int) : RepL K A H (cutD ds lo hi) (cutV vs lo hi) := by
  unfold cutD cutV
  rw [r.length]
  exact (r.drop _).take _
abbrev MO := PS → (Option Int → List O → Prop) → MX → Prop
def SimO (K : Frag) (W : WX) (t : TO) (M : MO) : Prop := ∀ (α : Mp_) (s : PS) (H : Hp) (σ : L2.St), WOk K α s.hp H → EnvR K α s.hp H s.env σ → ∀ R Xp, M s R Xp → ∀ Q : Option Int → Hp → Prop,
  (∀ o hp' α' H', R o hp' → Ext α s.hp H α' hp' H' → WOk K α' hp' H' → Q o H') → PostX K W σ α s.hp H Xp → t σ H Q
def moNone : MO := fun s R _ => R none s.hp
def moSome (Ma : ME) : MO := fun s R Xp => Ma s (fun v hp1 => on (isD v) fun d => on (asI d) fun i => R (some i) hp1) Xp
theorem simo_none {K : Frag} {W : WX} : SimO K W tNoPart moNone := fun α s H σ w e R Xp m Q q _ => q _ _ α H m Ext.refl w
theorem simo_some {K : Frag} {W : WX} {t : TE} {Ma : ME} (ha : SimE K W t Ma) : SimO K W (tPart t) (moSome Ma) := by
  intro α s H σ w e R Xp m Q q qx
  refine ha α s H σ w e _ _ m _ (fun x hp1 α1 H1 v1 m1 e1 w1 r1 => ?_) qx
  obtain ⟨d, g1, m1⟩ := on.ex m1
  obtain ⟨i, g2, m1⟩ := on.ex m1
  exact ⟨i, (r1.isD g1).t.asI g2, q _ _ α1 H1 m1 e1 w1⟩
def fSl (d : D) (lo hi : Option Int) (P : D → Prop) : Prop := match d with
  | .lst ds => P (.lst (cutD ds lo hi))
  | .fl ds => P (.lst (cutD ds lo hi))
  | .tup ds => P (.tup (cutD ds lo hi))
  | .str z => z.length ≤ sizeLine ∧ P (.str (cutS z lo hi))
  | _ => False
@[simp] theorem fSl_str {z : Str} {lo hi : Option Int} {P : D → Prop} : fSl (.str z) lo hi P = (z.length ≤ sizeLine ∧ P (.str (cutS z lo hi))) := rfl
@[simp] theorem fSl_lst {ds : List D} {lo hi : Option Int} {P : D → Prop} : fSl (.lst ds) lo hi P = P (.lst (cutD ds lo hi)) := rfl
@[simp] theorem fSl_tup {ds : List D} {lo hi : Option Int} {P : D → Prop} : fSl (.tup ds) lo hi P = P (.tup (cutD ds lo hi)) := rfl
def rSlX (K : Frag) : V → Option Int → Option Int → Hp → VK → Prop := fun x lo hi H Q => rSlL K x lo hi H Q ∨ rSlA K x lo hi H Q ∨ rSlS x lo hi H Q
theorem sl_x {X : Cx} : SlR X (rSlX X.K) := SlR.or sl_list (SlR.or sl_tupA sl_str)
theorem cutD_whole {ds : List D} {lo hi : Option Int} (h : HT.sIx ds.length 0 lo = 0 ∧ HT.sIx ds.length ds.length hi = ds.length) : cutD ds lo hi = ds := by
  unfold cutD
  rw [h.1, h.2]
  simp
theorem sim_fSl {K : Frag} (A : Av) (H : Hp) (d : D) (v : V) (hA : ∀ a, H a = none → ¬ A a) (r : RepT K A H d v) (lo hi : Option Int) (P : D → Prop) (p : fSl d lo hi P) (Q : VK)
    (q : ∀ d v H', P d → Rep K A H' d v → (H' = H ∨ ∃ p o, H p = none ∧ H' = upd H p o) → Q v H') : rSlX K v lo hi H Q := by
  cases d with
  | lst ds =>
    obtain ⟨a, vs, rfl, h, k⟩ := r
    exact .inl ⟨a, vs, rfl, .inl (.inl h), fun l hl => q _ _ _ p (new_lst hA hl (k.cut lo hi)) (.inr ⟨l, _, hl, rfl⟩)⟩
  | fl ds =>
    obtain ⟨a, vs, e, h, k⟩ := fl_sq (r : Rep K A H (.fl ds) v)
    exact .inl ⟨a, vs, e, h, fun l hl => q _ _ _ p (new_lst hA hl (k.cut lo hi)) (.inr ⟨l, _, hl, rfl⟩)⟩
  | tup ds =>
    obtain ⟨a, vs, e, h, k⟩ := tup_sq (r : Rep K A H (.tup ds) v)
    refine .inr (.inl ⟨a, vs, e, h, fun hw => ?_, fun _ l hl => q _ _ _ p (new_tup hA hl (k.cut lo hi)) (.inr ⟨l, _, hl, rfl⟩)⟩)
    rw [← k.length] at hw
    refine q _ _ _ p ?_ (.inl rfl)
    rw [cutD_whole hw, ← e]
    exact r
  | str z =>
    cases r
    exact .inr (.inr ⟨z, rfl, p.1, q _ _ _ p.2 rfl (.inl rfl)⟩)
  | _ => exact p.elim
def mSl (Ma : ME) (Ml Mh : MO) : ME := fun s R Xp => Ma s (fun x hp1 => Ml { s with hp := hp1 } (fun lo hp2 => Mh { s with hp := hp2 } (fun hi hp3 => on (val hp3 x) fun d => fSl d lo hi fun d' => R (.d d') hp3) Xp) Xp) Xp
theorem sim_sl {K : Frag} {W : WX} {t : TE} {tl th : TO} {Ma : ME} {Ml Mh : MO} (ha : SimE K W t Ma) (hl : SimO K W tl Ml) (hh : SimO K W th Mh) : SimE K W (tSl (rSlX K) t tl th) (mSl Ma Ml Mh) := by
  intro α s H σ w e R Xp m Q q qx
  refine ha α s H σ w e _ _ m _ (fun x hp1 α1 H1 v1 m1 e1 w1 r1 => ?_) qx
  refine hl α1 { s with hp := hp1 } H1 σ w1 (e.mono e1) _ _ m1 _ (fun lo hp2 α2 H2 m2 e2 w2 => ?_) (qx.at e1)
  refine hh α2 { s with hp := hp2 } H2 σ w2 ((e.mono e1).mono e2) _ _ m2 _ (fun hi hp3 α3 H3 m3 e3 w3 => ?_) ((qx.at e1).at e2)
  obtain ⟨d, g1, m3⟩ := on.ex m3
  refine sim_fSl _ H3 d v1 w3.non (((r1.mono e2).mono e3).val w3 g1) lo hi _ m3 Q fun d' v' H' p rp st => ?_
  obtain ⟨e4, w4⟩ := w3.grown st
  exact q _ _ α3 _ _ p (((e1.trans e2).trans e3).trans e4) w4 rp
end Mp
set_option Elab.async false
set_option linter.all false
set_option maxRecDepth 100000
set_option maxHeartbeats 4000000
namespace Mp
open PySem PySem.Spec PyProof.Rows L2
abbrev MF := List O → List S → (S → List O → Prop) → MX → Prop
def Frs (K : Frag) (H : Hp) (α' : Mp_) (hp' : List O) (H' : Hp) (s : S) (v : V) : Prop := ∀ ds, s = .d (.lst ds) → ∃ a us, v = .ref a ∧ H a = none ∧ H' a = some (.lst us) ∧ WOk K { α' with ban := fun b => α'.ban b ∨ b = a } hp' H' ∧ RepL K (Al { α' with ban := fun b => α'.ban b ∨ b = a } hp') H' ds us
def spM (K : Frag) (n : Nat) (fr : Bool) (M : MF) : Sp := fun vs H Q E => vs.length = n ∧ ∃ α hp ss R Xp, WOk K α hp H ∧ SRepL K α hp H ss vs ∧ M hp ss R Xp ∧
  (∀ s hp' α' H' v, R s hp' → Ext α hp H α' hp' H' → WOk K α' hp' H' → SRep K α' hp' H' s v → (fr = true → Frs K H α' hp' H' s v) → Q v H') ∧
  (∀ x hp' α' H' c dd, Xp x hp' → Ext α hp H α' hp' H' → WOk K α' hp' H' → XRep K (Al α' hp') H' x c dd → E c dd H')
theorem spM_len {K : Frag} {n : Nat} {fr : Bool} {M : MF} : ∀ vs H Q E, spM K n fr M vs H Q E → vs.length = n := fun _ _ _ _ h => h.1
def mCall (n : Nat) (M : MF) (dd : List D) (Ma : MA) : ME := fun s R Xp => Ma s (fun ss hp1 => ss.length + dd.length = n ∧ M hp1 (ss ++ dd.map S.d) R Xp) Xp
def mCallM (n : Nat) (M : MF) (dd : List D) (Ma : MA) : ME := fun s R Xp => Ma s (fun ss hp1 => ss.length + dd.length = n ∧ M hp1 (ss ++ dd.map S.d) (fun v hp2 => match v with
  | .d (.lst ds) => R (.mu hp2.length) (hp2 ++ [.lst ds])
  | _ => False) Xp) Xp
theorem srepL_app {K : Frag} {α : Mp_} {hp : List O} {H : Hp} {dd : List D} {dvs : List V} (hd : RepL K (Al α hp) H dd dvs) : ∀ {ss : List S} {vs : List V}, SRepL K α hp H ss vs → SRepL K α hp H (ss ++ dd.map S.d) (vs ++ dvs)
  | _, _, .nil => by
    induction dd generalizing dvs with
    | nil => cases hd; exact .nil
    | cons d dd ih => obtain ⟨v, r, e, h, t⟩ := hd; subst e; exact .cons h (ih t)
  | _, _, .cons h t => .cons h (srepL_app hd t)
theorem sim_call {K : Frag} {W : WX} {n : Nat} {fr : Bool} {M : MF} {dvs : List V} {dd : List D} {t : TA} {Ma : MA} (hd : ∀ A H, RepL K A H dd dvs) (ha : SimA K W t Ma) : SimE K W (tCallSD (spM K n fr M) dvs (WE W) t) (mCall n M dd Ma) := by
  intro α s H σ w e R Xp m Q q qx
  refine ha α s H σ w e _ _ m _ (fun ss hp1 α1 H1 vs m1 e1 w1 r1 => ?_) qx
  have hl : vs.length = ss.length := r1.length.symm
  refine ⟨by rw [List.length_append, hl, ← (hd noA H).length]; exact m1.1, α1, hp1, _, R, Xp, w1, srepL_app (hd _ _) r1, m1.2, fun s' hp' α' H' v r e' w' sr _ => q s' hp' α' H' v r (e1.trans e') w' sr, fun x hp' α' H' c d' r e' w' xr => qx x hp' α' H' c d' r (e1.trans e') w' xr⟩
theorem sim_callM {K : Frag} {W : WX} {n : Nat} {M : MF} {dvs : List V} {dd : List D} {t : TA} {Ma : MA} (hd : ∀ A H, RepL K A H dd dvs) (ha : SimA K W t Ma) : SimE K W (tCallSD (spM K n true M) dvs (WE W) t) (mCallM n M dd Ma) := by
  intro α s H σ w e R Xp m Q q qx
  refine ha α s H σ w e _ _ m _ (fun ss hp1 α1 H1 vs m1 e1 w1 r1 => ?_) qx
  have hl : vs.length = ss.length := r1.length.symm
  refine ⟨by rw [List.length_append, hl, ← (hd noA H).length]; exact m1.1, α1, hp1, _, _, Xp, w1, srepL_app (hd _ _) r1, m1.2, fun s' hp' α' H' v r e' w' sr fs => ?_, fun x hp' α' H' c d' r e' w' xr => qx x hp' α' H' c d' r (e1.trans e') w' xr⟩
  cases s' with
  | mu _ => exact r.elim
  | ob _ _ => exact r.elim
  | exn _ _ _ _ => exact r.elim
  | d d =>
    cases d with
    | lst ds =>
      obtain ⟨a, us, ev, hn, ha', wb, rl⟩ := fs rfl ds rfl
      subst ev
      have bst : StepW α1 hp1 H1 { α' with ban := fun b => α'.ban b ∨ b = a } hp' H' := ⟨e'.step.keep, fun b z => by
        rcases z with z | z | z
        · exact e'.step.newA b (.inl z)
        · exact e'.step.newA b (.inr z)
        · subst z; exact .inr hn, e'.step.newM, al_sub, e'.step.stay⟩
      obtain ⟨α3, e3, w3, r3⟩ := ban_push (α2 := { α' with ban := fun b => α'.ban b ∨ b = a }) (o := .lst ds) w1 hn e'.pre.own (show (fun b => α'.ban b ∨ b = a) = _ by rw [e'.pre.ban]) wb bst e'.nw fun A' st => ⟨rfl, us, ha', RepL.mono st _ _ rl⟩
      exact q _ _ α3 H' _ r (e1.trans e3) w3 r3
    | _ => exact r.elim
def isLst : D → Bool
  | .lst _ => true
  | _ => false
def retP (n0 : Nat) (fr : Bool) (R : S → List O → Prop) (v : S) (hp' : List O) : Prop := match v with
  | .d d => (fr = true → isLst d = false) ∧ R (.d d) (hp'.take n0)
  | .mu n => if n < n0 then R (.mu n) (hp'.take n0) else match hp'[n]? with
    | some (.lst ds) => R (.d (.lst ds)) (hp'.take n0)
    | some (.dct l) => R (.mu n0) (hp'.take n0 ++ [.dct l])
    | some (.reg gs) => R (.ob n0 0) (hp'.take n0 ++ [.reg gs])
    | _ => False
  | .ob n k => if n < n0 then R (.ob n k) (hp'.take n0) else match hp'[n]? with
    | some (.reg gs) => R (.ob n0 k) (hp'.take n0 ++ [.reg gs])
    | _ => False
  | .exn _ _ _ _ => False
def mDef (N : Nat) (fr : Bool) (Mb : MS) : MF := fun hp ss R Xp => Mb ⟨hp, ss.map some ++ List.replicate (N - ss.length) none, hp.length⟩
  { nx := fun s' => retP hp.length fr R (.d .non) s'.hp, bk := fun _ => False, ct := fun _ => False, rt := retP hp.length fr R, ex := fun x hp' => Xp x (hp'.take hp.length) }
def Mp_.cut (α : Mp_) (n : Nat) : Mp_ := { α with own := α.own.take n }
theorem take_get {τ : Type} {l : List τ} {n k : Nat} {x : τ} (h : (l.take n)[k]? = some x) : k < n ∧ l[k]? = some x := by
  have hk : k < (l.take n).length := (List.getElem?_eq_some_iff.mp h).1
  rw [List.length_take] at hk
  have hk' : k < n := by omega
  rw [List.getElem?_take_of_lt hk'] at h
  exact ⟨hk', h⟩
theorem WOk.cut {K : Frag} {α : Mp_} {hp : List O} {H : Hp} (w : WOk K α hp H) (n : Nat) : WOk K (α.cut n) (hp.take n) H ∧ (∀ a, Mt (α.cut n) (hp.take n) a → Mt α hp a) ∧ Step (Al α hp) (Al α hp) H (Al (α.cut n) (hp.take n)) (Al (α.cut n) (hp.take n)) H := by
  have mt : ∀ a, Mt (α.cut n) (hp.take n) a → Mt α hp a := fun a ⟨k, p, o, h1, h2, h3, h4⟩ => ⟨k, p, o, (take_get h1).2, (take_get h2).2, h3, h4⟩
  have al : ∀ a, Al (α.cut n) (hp.take n) a → Al α hp a := fun a h => h.imp (mt a) id
  have st : Step (Al α hp) (Al α hp) H (Al (α.cut n) (hp.take n)) (Al (α.cut n) (hp.take n)) H := ⟨fun _ _ h _ => h, fun a h => .inl (al a h), fun a h => .inl (al a h), fun _ h => h, fun _ o h => ⟨o, h⟩⟩
  exact ⟨⟨by show (α.own.take n).length = _; rw [List.length_take, List.length_take, w.len], fun k o p h1 h2 => (w.obj k o p (take_get h1).2 (take_get h2).2).mono st fun _ _ _ => rfl, fun k o p h1 h2 => w.one k o p (take_get h1).2 (take_get h2).2,
    fun j k o u p q h1 h2 h3 h4 h5 h6 => w.inj j k o u p q (take_get h1).2 (take_get h2).2 h3 (take_get h4).2 (take_get h5).2 h6, fun a h => ⟨(w.ban a h).1, fun z => (w.ban a h).2 (mt a z)⟩⟩, mt, st⟩
def mvIx (n k i : Nat) : Nat := if i < n then i else k
theorem mv_get {τ : Type} {l : List τ} {n k i : Nat} {x z : τ} (hl : n ≤ l.length) (hk : l[k]? = some x) (h : (l.take n ++ [x])[i]? = some z) : l[mvIx n k i]? = some z ∧ i ≤ n := by
  have hl2 : (l.take n).length = n := by rw [List.length_take]; omega
  unfold mvIx
  by_cases hi : i < n
  · rw [if_pos hi]
    rw [List.getElem?_append_left (by omega)] at h
    exact ⟨(take_get h).2, by omega⟩
  · rw [if_neg hi]
    have : i < (l.take n ++ [x]).length := (List.getElem?_eq_some_iff.mp h).1
    rw [List.length_append, hl2] at this
    simp at this
    have e : i = n := by omega
    subst e
    rw [List.getElem?_append_right (by omega), hl2] at h
    simp at h
    subst h
    exact ⟨hk, Nat.le_refl _⟩
def Mp_.mv (α : Mp_) (n : Nat) (p : Addr × List Addr) : Mp_ := { α with own := α.own.take n ++ [p] }
theorem WOk.mv {K : Frag} {α : Mp_} {hp : List O} {H : Hp} {p : Addr × List Addr} {o : O} {k : Nat} (w : WOk K α hp H) (n : Nat) (hn : n ≤ k) (hk : hp[k]? = some o) (hp' : α.own[k]? = some p) :
    WOk K (α.mv n p) (hp.take n ++ [o]) H ∧ (∀ a, Mt (α.mv n p) (hp.take n ++ [o]) a → Mt α hp a) := by
  have l1 : n ≤ hp.length := Nat.le_trans hn (Nat.le_of_lt (List.getElem?_eq_some_iff.mp hk).1)
  have l2 : n ≤ α.own.length := by rw [w.len]; exact l1
  have mt : ∀ a, Mt (α.mv n p) (hp.take n ++ [o]) a → Mt α hp a := fun a ⟨i, q, u, h1, h2, h3, h4⟩ => ⟨mvIx n k i, q, u, (mv_get l2 hp' h1).1, (mv_get l1 hk h2).1, h3, h4⟩
  have al : ∀ a, Al (α.mv n p) (hp.take n ++ [o]) a → Al α hp a := fun a h => h.imp (mt a) id
  have st : Step (Al α hp) (Al α hp) H (Al (α.mv n p) (hp.take n ++ [o])) (Al (α.mv n p) (hp.take n ++ [o])) H := ⟨fun _ _ h _ => h, fun a h => .inl (al a h), fun a h => .inl (al a h), fun _ h => h, fun _ o h => ⟨o, h⟩⟩
  refine ⟨⟨?_, fun i u q h1 h2 => (w.obj _ u q (mv_get l1 hk h1).1 (mv_get l2 hp' h2).1).mono st fun _ _ _ => rfl, fun i u q h1 h2 => w.one _ u q (mv_get l1 hk h1).1 (mv_get l2 hp' h2).1,
    fun i j u u' q q' h1 h2 h3 h4 h5 h6 h7 => w.inj _ _ u u' q q' (mv_get l1 hk h1).1 (mv_get l2 hp' h2).1 h3 (mv_get l1 hk h4).1 (mv_get l2 hp' h5).1 h6 ?_, fun a h => ⟨(w.ban a h).1, fun z => (w.ban a h).2 (mt a z)⟩⟩, mt⟩
  · show (α.own.take n ++ [p]).length = _
    simp only [List.length_append, List.length_take, List.length_cons, List.length_nil]
    rw [w.len]
  · have a1 := (mv_get l1 hk h1).2
    have a2 := (mv_get l1 hk h4).2
    unfold mvIx
    split <;> split <;> omega
theorem XRep.cut {K : Frag} {A A' : Av} {H : Hp} {x : Exn} {c : Value} {dd : Option Addr} (s : Step A A H A' A' H) (r : XRep K A H x c dd) : XRep K A' H x c dd := r.mono s
theorem cut_ext {K : Frag} {α α' : Mp_} {hp hp' : List O} {H H' : Hp} (w : WOk K α hp H) (pre : Pre0 ⟨α.own, H⟩ α' H') (w' : WOk K α' hp' H') (st : StepW α hp H α' hp' H') (hb : α'.ban = α.ban) : Ext α hp H (α'.cut hp.length) (hp'.take hp.length) H' := by
  obtain ⟨_, mt, st2⟩ := w'.cut hp.length
  refine ⟨⟨?_, hb⟩, ⟨st.keep, fun a h => st.newA a (h.imp (mt a) id), fun a h => st.newM a (mt a h), al_sub, st.stay⟩, fun n p h e => ?_⟩
  · exact OwnLe.take pre.own (by rw [w.len]; exact Nat.le_refl _)
  · have := (take_get (show (α'.own.take hp.length)[n]? = some p from e)).1
    rw [w.len] at h
    omega
theorem sim_def {K : Frag} {N n : Nat} {fr : Bool} {t : TS} {Mb : MS} {Ns : List Str} {E : XK} (hN : Ns.length = N) (h : SimS K (fun c d _ H => E c d H) t Mb) {vs : List V} {H : Hp} {Q : VK} (p : spM K n fr (mDef N fr Mb) vs H Q E) :
    t { nx := fun _ H' => Q .non H', rt := Q } (L2.start Ns vs) H := by
  obtain ⟨hn, α, hp, ss, R, Xp, w, sr, m, q, qx⟩ := p
  have hl : ss.length = vs.length := sr.length
  have hs : EnvR K α hp H (ss.map some ++ List.replicate (N - ss.length) none) (L2.start Ns vs) := by
    refine ⟨by unfold L2.start; simp [hN, hl], fun i s hi => ?_⟩
    by_cases hi2 : i < (ss.map some).length
    · rw [List.getElem?_append_left hi2, List.getElem?_map] at hi
      cases g : ss[i]? with
      | none => rw [g] at hi; cases hi
      | some s' =>
        rw [g] at hi
        cases hi
        have : ∀ {ss : List S} {vs : List V} {i : Nat} {s : S}, SRepL K α hp H ss vs → ss[i]? = some s → ∃ v, vs[i]? = some v ∧ SRep K α hp H s v := by
          intro ss vs i s r
          induction r generalizing i with
          | nil => intro e; simp at e
          | @cons a b as bs h1 h2 ih =>
            intro e
            cases i with
            | zero => simp at e; subst e; exact ⟨b, rfl, h1⟩
            | succ i => exact ih (by simpa using e)
        obtain ⟨v, h1, h2⟩ := this sr g
        refine ⟨v, ?_, h2⟩
        unfold L2.start
        rw [List.getElem?_append_left (by rw [List.length_map]; exact (List.getElem?_eq_some_iff.mp h1).1), List.getElem?_map, h1]
        rfl
    · rw [List.getElem?_append_right (by omega)] at hi
      rw [List.getElem?_replicate] at hi
      split at hi <;> cases hi
  have hh : Here K ⟨α.own, H⟩ α ⟨hp, ss.map some ++ List.replicate (N - ss.length) none, hp.length⟩ H (L2.start Ns vs) :=
    ⟨Pre0.refl, trivial, w, hs⟩
  have ret : ∀ v hp' α' H' u, retP hp.length fr R v hp' → Pre0 ⟨α.own, H⟩ α' H' → WOk K α' hp' H' → StepW α hp H α' hp' H' → α'.ban = α.ban → SRep K α' hp' H' v u → Q u H' := by
    intro v hp' α' H' u r pre w' st hb rv
    obtain ⟨w2, mt, st2⟩ := w'.cut hp.length
    have ex := cut_ext w pre w' st hb
    have mvd : ∀ (k : Nat) (pk : Addr × List Addr) (o : O) (s0 : S), (fr = true → ∀ ds, s0 ≠ .d (.lst ds)) → hp.length ≤ k → α'.own[k]? = some pk → hp'[k]? = some o → (∀ β : Mp_, β.own[hp.length]? = some pk → SRep K β (hp'.take hp.length ++ [o]) H' s0 u) → R s0 (hp'.take hp.length ++ [o]) → Q u H' := by
      intro k pk o s0 nl hk h1 ho hs r
      obtain ⟨w3, mt3⟩ := w'.mv hp.length hk ho h1
      have hn : H pk.1 = none := pre.nw k pk (by show α.own.length ≤ k; rw [w.len]; omega) h1
      have hlt : hp.length ≤ α'.own.length := by
        have := (List.getElem?_eq_some_iff.mp h1).1
        omega
      refine q s0 _ (α'.mv hp.length pk) H' u r ⟨⟨?_, hb⟩, ⟨st.keep, fun a h => st.newA a (h.imp (mt3 a) id), fun a h => st.newM a (mt3 a h), al_sub, st.stay⟩, fun n p h e => ?_⟩ w3 (hs _ ?_) fun hf ds ed => absurd ed (nl hf ds)
      · exact (OwnLe.take pre.own (by show α.own.length ≤ _; rw [w.len]; exact Nat.le_refl _)).appR
      · have e' := (mv_get hlt h1 (show (α'.own.take hp.length ++ [pk])[n]? = some p from e))
        rw [w.len] at h
        have en : n = hp.length := by omega
        subst en
        have e2 := e'.1
        unfold mvIx at e2
        rw [if_neg (Nat.lt_irrefl _), h1] at e2
        cases e2
        exact hn
      · show (α'.own.take hp.length ++ [pk])[hp.length]? = _
        have hl3 : (α'.own.take hp.length).length = hp.length := by rw [List.length_take]; omega
        rw [List.getElem?_append_right (by omega), hl3]
        simp
    cases v with
    | exn _ _ _ _ => exact r.elim
    | d d =>
      refine q _ _ _ H' u r.2 ex w2 (Rep.mono st2 _ _ rv) fun hf ds ed => ?_
      cases ed
      exact absurd (r.1 hf) (by simp [isLst])
    | ob k j =>
      obtain ⟨pk, a, h1, h5, h2⟩ := rv
      simp only [retP] at r
      by_cases hk : k < hp.length
      · rw [if_pos hk] at r
        refine q _ _ _ H' u r ex w2 ⟨pk, a, ?_, h5, h2⟩ fun _ ds ed => by cases ed
        show (α'.own.take hp.length)[k]? = _
        rw [List.getElem?_take_of_lt hk]
        exact h1
      · rw [if_neg hk] at r
        cases hgo : hp'[k]? with
        | none => rw [hgo] at r; exact r.elim
        | some o =>
        rw [hgo] at r
        cases o with
        | reg gs => exact mvd k pk _ (.ob hp.length j) (fun _ ds ed => by cases ed) (by omega) h1 hgo (fun β hβ => ⟨pk, a, hβ, h5, h2⟩) r
        | _ => exact r.elim
    | mu k =>
      obtain ⟨pk, h1, h2⟩ := rv
      simp only [retP] at r
      by_cases hk : k < hp.length
      · rw [if_pos hk] at r
        refine q _ _ _ H' u r ex w2 ⟨pk, ?_, h2⟩ fun _ ds ed => by cases ed
        show (α'.own.take hp.length)[k]? = _
        rw [List.getElem?_take_of_lt hk]
        exact h1
      · rw [if_neg hk] at r
        cases hgo : hp'[k]? with
        | none => rw [hgo] at r; exact r.elim
        | some o =>
        rw [hgo] at r
        cases o with
        | gone => exact r.elim
        | dtp _ => exact r.elim
        | tbl _ => exact r.elim
        | dct l => exact mvd k pk _ (.mu hp.length) (fun _ ds ed => by cases ed) (by omega) h1 hgo (fun β hβ => ⟨pk, hβ, h2⟩) r
        | reg gs => exact mvd k pk _ (.ob hp.length 0) (fun _ ds ed => by cases ed) (by omega) h1 hgo (fun β hβ => ⟨pk, pk.1, hβ, rfl, h2⟩) r
        | lst ds =>
        have g := lstAt_some hgo
        obtain ⟨us, h3, h4⟩ := w'.lstOf g h1
        have hn : H pk.1 = none := pre.nw k pk (by show α.own.length ≤ k; rw [w.len]; omega) h1
        have na : ∀ b, (Mt (α'.cut hp.length) (hp'.take hp.length) b) → b ≠ pk.1 := by
          rintro b ⟨j, pj, o, g1, g2, g3, g4⟩ e
          obtain ⟨hj, g1⟩ := take_get g1
          obtain ⟨_, g2⟩ := take_get g2
          subst e
          exact w'.inj j k o _ pj pk g2 g1 g3 (lstAt_get g) h1 (fun z => by cases z) (by omega) _ g4 (.inl rfl)
        have nb : ¬ α'.ban pk.1 := fun z => (w'.ban _ z).2 ⟨k, pk, _, h1, lstAt_get g, (fun z => by cases z), .inl rfl⟩
        have nal : ¬ Al (α'.cut hp.length) (hp'.take hp.length) pk.1 := fun z => z.elim (fun z => na _ z rfl) nb
        have sub : ∀ a, Al { α'.cut hp.length with ban := fun b => α'.ban b ∨ b = pk.1 } (hp'.take hp.length) a → Al α' hp' a := fun a z => by
          rcases z with z | z | z
          · exact .inl (mt a z)
          · exact .inr z
          · subst z; exact .inl ⟨k, pk, _, h1, lstAt_get g, (fun z => by cases z), .inl rfl⟩
        have st3 : Step (Al α' hp') (Al α' hp') H' (Al { α'.cut hp.length with ban := fun b => α'.ban b ∨ b = pk.1 } (hp'.take hp.length)) (Al { α'.cut hp.length with ban := fun b => α'.ban b ∨ b = pk.1 } (hp'.take hp.length)) H' :=
          ⟨fun _ _ h _ => h, fun a h => .inl (sub a h), fun a h => .inl (sub a h), fun _ h => h, fun _ o h => ⟨o, h⟩⟩
        refine q _ _ _ H' u r ex w2 ⟨pk.1, us, h2, ⟨h3, nal⟩, RepL.mono st2 _ _ h4⟩ fun _ ds' ed => ?_
        cases ed
        refine ⟨pk.1, us, h2, hn, h3, ?_, RepL.mono st3 _ _ h4⟩
        refine ⟨w2.len, fun j o p g1 g2 => ?_, w2.one, w2.inj, fun a z => ?_⟩
        · exact (w'.obj j o p (take_get g1).2 (take_get (show (α'.own.take hp.length)[j]? = some p from g2)).2).mono st3 fun _ _ _ => rfl
        · rcases z with z | z
          · exact w2.ban a z
          · subst z; exact ⟨⟨_, h3⟩, fun z => na _ z rfl⟩
  refine h _ α _ H _ hh _ m _ ⟨fun s' α' H' σ' n i st hb => ?_, fun _ _ _ _ n _ _ _ => n.elim, fun _ _ _ _ n _ _ _ => n.elim, ret, fun x hp' α' H' c dd σ' r pre w' st hb xr => ?_⟩
  · exact ret (.d .non) s'.hp α' H' .non n i.pre i.ok st hb rfl
  · obtain ⟨w2, mt, st2⟩ := w'.cut hp.length
    exact qx x _ _ H' c dd r (cut_ext w pre w' st hb) w2 (xr.cut st2)
end Mp
set_option Elab.async false
set_option linter.all false
set_option maxRecDepth 100000
set_option maxHeartbeats 4000000
namespace Mp
open PySem PySem.Spec PyProof.Rows L2
structure DE (X : Cx) (W : WX) (e : Expr) (t : TE) (M : ME) : Prop where
  p : PE X e t
  s : SimE X.K W t M
structure DT (X : Cx) (W : WX) (e : Expr) (t : TT) (M : MT) : Prop where
  p : PT X e t
  s : SimT X.K W t M
structure DW (X : Cx) (W : WX) (e : Expr) (t : TT) (M : MT) : Prop where
  p : PW X e t
  s : SimT X.K W t M
structure DA (X : Cx) (W : WX) (es : List Expr) (t : TA) (M : MA) : Prop where
  p : PA X es t
  s : SimA X.K W t M
structure DS (X : Cx) (W : WX) (st : Stmt) (t : TS) (M : MS) : Prop where
  p : L2.PS X st t
  s : SimS X.K W t M
structure DSs (X : Cx) (W : WX) (st : List Stmt) (t : TS) (M : MS) : Prop where
  p : PSs X st t
  s : SimS X.K W t M
structure DG (X : Cx) (e : Expr) (t : TG) (us : List Nat) (M : MG) : Prop where
  p : PG X e t
  s : SimG X.K t us M
structure DGs (X : Cx) (es : List Expr) (t : TGs) (us : List Nat) (M : List D → PS → (PS → Prop) → Prop) : Prop where
  p : PGs X es t
  s : SimGs X.K t us M
structure DI (X : Cx) (W : WX) (tg e : Expr) (t : TI) (M : MI) : Prop where
  p : PI X tg e t
  s : SimI X.K W t M
structure DO (X : Cx) (W : WX) (e : Option Expr) (t : TO) (M : MO) : Prop where
  p : PO X e t
  s : SimO X.K W t M
section
variable {X : Cx} {W : WX} {a b c e : Expr} {es : List Expr} {pos : Pos} {ta tb tc te : TE} {Ma Mb Mc Me : ME} {t u : TT} {Mt Mu : MT} {tA : TA} {MA' : MA}
theorem de_var (i : Nat) {x : Str} (hN : X.N[i]? = some x := by rfl) (hv : Vis X.env.scope x := by first | exact Or.inl rfl | exact Or.inr (Or.inl rfl) | exact Or.inr (Or.inr rfl)) (hd : (x == ("__debug__" : Str)) = false := by decide) (hcd : (x == ("__classdict__" : Str)) = false := by decide) :
    DE X W (.Name x pos) (tVar i) (mVar i) := ⟨pe_var hN hv hd hcd, sim_var i⟩
theorem de_int {i : Int} {j : Nat} : DE X W (.Constant (.int i) j pos) (tC (.int i)) (mC (.int i)) := ⟨pe_int, sim_c fun _ _ => rfl⟩
theorem de_bl {i : Bool} {j : Nat} : DE X W (.Constant (.bool i) j pos) (tC (.bl i)) (mC (.bl i)) := ⟨pe_bl, sim_c fun _ _ => rfl⟩
theorem de_non {j : Nat} : DE X W (.Constant .none j pos) (tC .non) (mC .non) := ⟨pe_non, sim_c fun _ _ => rfl⟩
theorem de_str {i : Str} {j : Nat} : DE X W (.Constant (.str i) j pos) (tC (.str i)) (mC (.str i)) := ⟨pe_str, sim_c fun _ _ => rfl⟩
theorem de_ty {x : Str} {n : String} (hg : Gl X x) (hm : X.mg x = none) (hv : bootBuiltins x = some (.type n)) (hn : x ≠ "__name__" := by decide) (hd : (x == ("__debug__" : Str)) = false := by decide) : DE X W (.Name x pos) (tC (.ty n)) (mC (.ty n)) :=
  ⟨pe_bltn (v := .ty n) hg hm hv rfl hn hd, sim_c fun _ _ => rfl⟩
theorem de_op {op : Operator} {r : R2} {f : F2} (ho : OpR X (binaryOp op) r) (hr : Sim2 X.K r f) (ha : DE X W a ta Ma) (hb : DE X W b tb Mb) : DE X W (.BinOp a op b pos) (tOp r ta tb) (m2 f Ma Mb) := ⟨pe_op ho ha.p hb.p, sim_op hr ha.s hb.s⟩
theorem de_un {op : UnaryOp} {r : V → Hp → VK → Prop} {f : F1} (ho : UnR X (unaryOp op) r) (hr : Sim1 X.K r f) (ha : DE X W a ta Ma) : DE X W (.UnaryOp op a pos) (tUn r ta) (m1 f Ma) := ⟨pe_un ho ha.p, sim_un hr ha.s⟩
theorem de_cmp {op : CmpOp} {r : R2} {f : F2} (ho : OpR X (compareOp op) r) (hr : Sim2 X.K r f) (ha : DE X W a ta Ma) (hb : DE X W b tb Mb) (hm : behindInMarks op b = false) : DE X W (.Compare a [op] [b] pos) (tOp r ta tb) (m2 f Ma Mb) := ⟨pe_cmpR ho ha.p hb.p hm, sim_op hr ha.s hb.s⟩
theorem dt_cmp {op : CmpOp} {r : R2} {f : F2} (ho : OpR X (compareOp op) r) (hr : Sim2 X.K r f) (ha : DE X W a ta Ma) (hb : DE X W b tb Mb) (hm : behindInMarks op b = false) : DT X W (.Compare a [op] [b] pos) (tTest (tOp r ta tb)) (mTest (m2 f Ma Mb)) := ⟨pt_cmpR ho ha.p hb.p hm, sim_test (sim_op hr ha.s hb.s)⟩
theorem de_chain {op op' : CmpOp} {r r' : R2} {f g : F2} (ho : OpR X (compareOp op) r) (hr : Sim2 X.K r f) (ho' : OpR X (compareOp op') r') (hr' : Sim2 X.K r' g) (ha : DE X W a ta Ma) (hb : DE X W b tb Mb) (hc : DE X W c tc Mc) (hm : lastMarks [op, op'] [b, c] = false := by with_unfolding_all rfl) :
    DE X W (.Compare a [op, op'] [b, c] pos) (tChain r r' ta tb tc) (mChain f g Ma Mb Mc) := ⟨pe_chain ho ho' ha.p hb.p hc.p hm, sim_chain hr hr' ha.s hb.s hc.s⟩
theorem dt_val (ha : DE X W a ta Ma) (he : ∀ whole, isTrue a X.env whole = (do let v ← whole; standAt a.pos; holding [v] (truthy v)) := by intro _; rfl) : DT X W a (tB ta) (mTest Ma) := ⟨pt_val ha.p he, sim_tB ha.s⟩
theorem dw_and1 (ha : DT X W a t Mt) : DW X W (.BoolOp .And [a] pos) t Mt := ⟨pw_and1 ha.p, ha.s⟩
theorem dw_or1 (ha : DT X W a t Mt) : DW X W (.BoolOp .Or [a] pos) t Mt := ⟨pw_or1 ha.p, ha.s⟩
theorem dw_and (ha : DT X W a t Mt) (hb : DW X W (.BoolOp .And (b :: es) pos) u Mu) : DW X W (.BoolOp .And (a :: b :: es) pos) (tAnd t u) (mAnd Mt Mu) := ⟨pw_and ha.p hb.p, sim_and ha.s hb.s⟩
theorem dw_or (ha : DT X W a t Mt) (hb : DW X W (.BoolOp .Or (b :: es) pos) u Mu) : DW X W (.BoolOp .Or (a :: b :: es) pos) (tOr t u) (mOr Mt Mu) := ⟨pw_or ha.p hb.p, sim_or ha.s hb.s⟩
theorem dt_w (h : DW X W a t Mt) : DT X W a t Mt := ⟨PW.pt h.p, h.s⟩
theorem dt_not (ha : DT X W a t Mt) : DT X W (.UnaryOp .Not a pos) (tNot t) (mNot Mt) := ⟨pt_not ha.p, sim_not ha.s⟩
theorem de_one {op : BoolOp} (h : DE X W a ta Ma) : DE X W (.BoolOp op [a] pos) ta Ma := ⟨pe_one h.p, h.s⟩
theorem de_and (ha : DE X W a ta Ma) (hb : DE X W (.BoolOp .And (b :: es) pos) tb Mb) : DE X W (.BoolOp .And (a :: b :: es) pos) (tAndV ta tb) (mAndV Ma Mb) := ⟨pe_and ha.p hb.p, sim_andV ha.s hb.s⟩
theorem de_or (ha : DE X W a ta Ma) (hb : DE X W (.BoolOp .Or (b :: es) pos) tb Mb) : DE X W (.BoolOp .Or (a :: b :: es) pos) (tOrV ta tb) (mOrV Ma Mb) := ⟨pe_or ha.p hb.p, sim_orV ha.s hb.s⟩
theorem de_not (ha : DE X W a ta Ma) : DE X W (.UnaryOp .Not a pos) (tNotV ta) (mNotV Ma) := ⟨pe_not ha.p, sim_notV ha.s⟩
theorem da_nil : DA X W [] tNil mNil := ⟨pa_nil, sim_nil⟩
theorem da_cons (ha : DE X W e te Me) (hr : DA X W es tA MA') (hs : starEach (e :: es) X.env = (false, eval e X.env) :: starEach es X.env := by rfl) : DA X W (e :: es) (tCons te tA) (mCons Me MA') := ⟨pa_cons ha.p hr.p hs, sim_cons ha.s hr.s⟩
theorem de_tup {x1 : Nat} (h : DA X W es tA MA') : DE X W (.Tuple es x1 pos) (tTup tA) (mTup MA') := ⟨pe_tup h.p, sim_tup h.s⟩
theorem de_lst (h : DA X W es tA MA') : DE X W (.List es pos) (tLst tA) (mLst MA') := ⟨pe_lst h.p, sim_lst h.s⟩
theorem de_lstM (h : DA X W es tA MA') : DE X W (.List es pos) (tLst tA) (mLstM MA') := ⟨pe_lst h.p, sim_lstM h.s⟩
theorem de_callB {x : Str} {id : String} {r : List V → Hp → VK → Prop} {f : FN} {p : Pos} (hc : CallR X (.builtin id) r) (hr : SimN X.K r f) (hg : Gl X x) (hm : X.mg x = none) (hv : bootBuiltins x = some (.builtin id)) (ha : DA X W (e :: es) tA MA') (hn : x ≠ "__name__" := by decide) (hdb : (x == ("__debug__" : Str)) = false := by decide)
    (he : starEach (e :: es) X.env = (false, eval e X.env) :: starEach es X.env := by rfl) (hpl : (backTo pos (starEach es X.env)).any (·.1) = false := by rfl) : DE X W (.Call (.Name x p) (e :: es) [] pos) (tCB r tA) (mN f MA') :=
  ⟨pe_callB hc hg hm hv ha.p hn hdb he hpl, sim_cb hr ha.s⟩
theorem de_callTy {x : Str} {T : String} {r : List V → Hp → VK → Prop} {f : FN} {p : Pos} (hc : CallR X (.type T) r) (hr : SimN X.K r f) (hg : Gl X x) (hm : X.mg x = none) (hv : bootBuiltins x = some (.type T)) (ha : DA X W (e :: es) tA MA') (hn : x ≠ "__name__" := by decide) (hdb : (x == ("__debug__" : Str)) = false := by decide)
    (he : starEach (e :: es) X.env = (false, eval e X.env) :: starEach es X.env := by rfl) (hpl : (backTo pos (starEach es X.env)).any (·.1) = false := by rfl) : DE X W (.Call (.Name x p) (e :: es) [] pos) (tCB r tA) (mN f MA') :=
  ⟨pe_callTy hc hg hm hv ha.p hn hdb he hpl, sim_cb hr ha.s⟩
theorem de_ix (K : Frag) (ha : DE X W a ta Ma) (hb : DE X W b tb Mb) (hs : PlainIx b := by exact fun _ _ => rfl) (hK : X.K = K := by rfl) : DE X W (.Subscript a b pos) (tOp (rIx K) ta tb) (m2 fIx Ma Mb) := by subst hK; exact ⟨pe_ix ix_seq ha.p hb.p hs, sim_op sim_ix ha.s hb.s⟩
theorem de_dget (hu : X.A.units + 1 < cLine) (ha : DE X W a ta Ma) (hb : DE X W b tb Mb) (hs : NoSl b := by exact fun _ _ => rfl) : DE X W (.Subscript a b pos) (tDGet ta tb) (mDGet Ma Mb) := ⟨pe_dget hu ha.p hb.p hs, sim_dget ha.s hb.s⟩
theorem do_none : DO X W none tNoPart moNone := ⟨po_none, simo_none⟩
theorem do_some (ha : DE X W a ta Ma) : DO X W (some a) (tPart ta) (moSome Ma) := ⟨po_some ha.p, simo_some ha.s⟩
theorem de_sl (K : Frag) {lo hi : Option Expr} {tl th : TO} {Ml Mh : MO} {p2 : Pos} (ha : DE X W a ta Ma) (hl : DO X W lo tl Ml) (hh : DO X W hi th Mh) (hK : X.K = K := by rfl) : DE X W (.Subscript a (.Slice lo hi none p2) pos) (tSl (rSlX K) ta tl th) (mSl Ma Ml Mh) := by subst hK; exact ⟨pe_slice sl_x ha.p hl.p hh.p, sim_sl ha.s hl.s hh.s⟩
theorem de_call (K : Frag) {x : Str} {k n : Nat} {f : Addr} {fd : FuncData} {ps : List Str} {fr : Bool} {M : MF} {ds : List Value} {dvs : List V} {dd : List D} {p : Pos} (F : FnOk X.prog X.w K X.mg X.base (L2.CX X.prog X.w) k f fd ps (spM K n fr M)) (tk : Takes X W) (hr : Room k X.A) (hg : Gl X x) (hm : X.mg x = some (.ref f))
    (hk : PySem.W.keepIn K (.ref f) = true) (hb : Binds K fd ps ds) (hd : Vals dvs ds) (hdd : ∀ A H, RepL K A H dd dvs) (ha : DA X W (e :: es) tA MA') (hdb : (x == ("__debug__" : Str)) = false := by decide)
    (he : starEach (e :: es) X.env = (false, eval e X.env) :: starEach es X.env := by rfl) (hpl : (backTo pos (starEach es X.env)).any (·.1) = false := by rfl) (hK : X.K = K := by rfl) :
    DE X W (.Call (.Name x p) (e :: es) [] pos) (tCallSD (spM K n fr M) dvs (WE W) tA) (mCall n M dd MA') := by subst hK; exact ⟨pe_callSD F hr hg hm hk hb hd (fun σ => passAt tk σ) ha.p hdb he hpl, sim_call hdd ha.s⟩
theorem de_callM (K : Frag) {x : Str} {k n : Nat} {f : Addr} {fd : FuncData} {ps : List Str} {M : MF} {ds : List Value} {dvs : List V} {dd : List D} {p : Pos} (F : FnOk X.prog X.w K X.mg X.base (L2.CX X.prog X.w) k f fd ps (spM K n true M)) (tk : Takes X W) (hr : Room k X.A) (hg : Gl X x) (hm : X.mg x = some (.ref f))
    (hk : PySem.W.keepIn K (.ref f) = true) (hb : Binds K fd ps ds) (hd : Vals dvs ds) (hdd : ∀ A H, RepL K A H dd dvs) (ha : DA X W (e :: es) tA MA') (hdb : (x == ("__debug__" : Str)) = false := by decide)
    (he : starEach (e :: es) X.env = (false, eval e X.env) :: starEach es X.env := by rfl) (hpl : (backTo pos (starEach es X.env)).any (·.1) = false := by rfl) (hK : X.K = K := by rfl) :
    DE X W (.Call (.Name x p) (e :: es) [] pos) (tCallSD (spM K n true M) dvs (WE W) tA) (mCallM n M dd MA') := by subst hK; exact ⟨pe_callSD F hr hg hm hk hb hd (fun σ => passAt tk σ) ha.p hdb he hpl, sim_callM hdd ha.s⟩
variable {o : Expr} {to : TE} {Mo : ME} {m : Str} {id : String} {apos : Pos}
theorem de_bm (K : Frag) {x : Bool} {r : V → List V → Hp → VK → Prop} {f : FM} (pa : PlainAttrs "list") (slot : Slot "list" m id) (hty : typeOf (.builtin id) = pure (.type "method_descriptor")) (hm : MtR X id r) (hr : SimM K x r f) (ho : DE X W o to Mo) (ha : DA X W (e :: es) tA MA')
    (hbase : attributeBase o m X.env (eval o X.env) = eval o X.env := by rfl)
    (hfew : ((backTo pos (starEach (e :: es) X.env)).all (fun x => !x.1) && (backToKw pos (keywordEach [] X.env)).all (fun x => x.1.isSome) && decide ((e :: es).length + ([] : List Keyword).length + (if ([] : List Keyword).isEmpty then 0 else 1) < 30)) = true := by rfl)
    (hline : (apos.endLine == pos.line) = true := by rfl) (hs : starEach (e :: es) X.env = (false, eval e X.env) :: starEach es X.env := by rfl) (hp : (backTo pos (starEach es X.env)).any (·.1) = false := by rfl) (hK : X.K = K := by rfl) :
    DE X W (.Call (.Attribute o m apos) (e :: es) [] pos) (tBM K "list" r to tA) (mMeth x f Mo MA') := by subst hK; exact ⟨pe_bm pa slot hty hm ho.p ha.p hbase hfew hline hs hp, sim_meth hr ho.s ha.s⟩
inductive DPs (X : Cx) (W : WX) (pos : Pos) : List (Option Expr) → List Expr → List (TE × TE) → List (ME × ME) → Prop where
  | nil : DPs X W pos [] [] [] []
  | cons {k v : Expr} {ks : List (Option Expr)} {vs : List Expr} {tk tv : TE} {Mk Mv : ME} {tr : List (TE × TE)} {mr : List (ME × ME)} (h1 : DE X W k tk Mk) (h2 : DE X W v tv Mv) (h3 : DPs X W pos ks vs tr mr) : DPs X W pos (some k :: ks) (v :: vs) ((tk, tv) :: tr) ((Mk, Mv) :: mr)
theorem DPs.p {ks : List (Option Expr)} {vs : List Expr} {tr : List (TE × TE)} {mr : List (ME × ME)} (h : DPs X W pos ks vs tr mr) : PPs X pos ks vs tr := by
  induction h with
  | nil => exact pps_nil
  | cons h1 h2 h3 ih => exact pps_cons h1.p h2.p ih
theorem DPs.s {ks : List (Option Expr)} {vs : List Expr} {tr : List (TE × TE)} {mr : List (ME × ME)} (h : DPs X W pos ks vs tr mr) : SimPs X.K W tr mr := by
  induction h with
  | nil => exact .nil
  | cons h1 h2 h3 ih => exact .cons h1.s h2.s ih
theorem de_disp {ks : List (Option Expr)} {vs : List Expr} {tr : List (TE × TE)} {mr : List (ME × ME)} (h : DPs X W pos ks vs tr mr) (hall : ks.all (·.isSome) = true := by rfl) (hl : ks.length = vs.length := by rfl) (h0 : ks ≠ [] := by intro z; cases z) (h15 : ks.length ≤ 15 := by decide) :
    DE X W (.Dict ks vs pos) (tDisp tr) (mDisp mr) := ⟨pe_disp h.p hall hl h0 h15, sim_disp h.s⟩
theorem dg_name (i : Nat) {x : Str} (hN : X.N.Nodup) (hi : X.N[i]? = some x := by rfl) (hx : Loc X.env.scope x := by first | exact Or.inl rfl | exact Or.inr rfl) (hf : X.fn x = true ∨ X.env.scope.names.lookup x = some .local := by first | exact .inl rfl | exact .inr rfl) : DG X (.Name x pos) (gName i) [i] (mgName i) := ⟨pg_name hN hi hx hf, simg_name i⟩
theorem dgs_nil : DGs X [] gNil [] mgsNil := ⟨pgs_nil, simgs_nil⟩
theorem di_sq (K : Frag) {tg : Expr} (h : DE X W e te Me) (hK : X.K = K := by rfl) : DI X W tg e (iSq K te) (miSq Me) := by subst hK; exact ⟨pi_sq h.p, simi_sq h.s⟩
theorem di_r1 {tg : Expr} {p : Pos} (hg : Gl X "range") (hm : X.mg "range" = none) (ha : DA X W [a] tA MA') (hs : starEach [a] X.env = [(false, eval a X.env)] := by rfl) : DI X W tg (.Call (.Name "range" p) [a] [] pos) (iRng1 tA) (miRng f1R MA') := ⟨pi_range1 hg hm ha.p hs, simi_r1 ha.s⟩
abbrev W00 : WX := fun _ _ _ _ => False
theorem de_lc {elt tg iter : Expr} {ifs : List Expr} {scope : Scope} {wi : TI} {g : TG} {us : List Nat} {I : MI} {G : MG} {vs : List Nat} (own : List (Str × Nat)) (ev : own.map (·.2) = vs) (hc : X.calm = true) (hN : X.N.Nodup) (hi : DI X W tg iter wi I) (ok : BlkOk X.N X.env.scope scope own)
    (hg : ∀ (s : Shared) (H : Hp) (C : Addr) (cl : List (Str × Addr)) (fp : List Addr), DG (X.blk s H scope (compEnvC scope cl C X.env) fp) tg g us G) (ht : ∀ (s : Shared) (H : Hp) (C : Addr) (cl : List (Str × Addr)) (fp : List Addr), PTs (X.blk s H scope (compEnvC scope cl C X.env) fp) ifs t)
    (hts : SimT X.K W00 t Mt) (he : ∀ (s : Shared) (H : Hp) (C : Addr) (cl : List (Str × Addr)) (fp : List Addr), DE (X.blk s H scope (compEnvC scope cl C X.env) fp) W00 elt te Me) (hu : ∀ u ∈ us, u ∈ own.map (·.2)) (hs : ∀ x, foldedSetIterable iter X.env x = pure x := by intro _; rfl) :
    DE X W (.ListComp elt [⟨tg, iter, ifs, 0⟩] scope pos) (tLc wi g t te vs) (mLc I G Mt Me vs) :=
  by subst ev; exact ⟨pe_lc hc hN hi.p ok (fun s H C cl fp => (hg s H C cl fp).p) ht (fun s H C cl fp => (he s H C cl fp).p) hs, sim_lc hi.s (hg X.s_0 X.H_0 0 [] []).s hu hts (he X.s_0 X.H_0 0 [] []).s⟩
def mYes : MT := fun s R _ => R true s.hp
theorem sim_yes {K : Frag} : SimT K W tYes mYes := fun α s H σ w e R Xp m Q q _ => q _ _ α H m Ext.refl w
variable {st : Stmt} {rest : List Stmt} {ts us : TS} {Ms Ms' : MS}
theorem dss_nil : DSs X W [] tNext mNext := ⟨pss_nil, sim_next⟩
theorem dss_one (h : DS X W st ts Ms) : DSs X W [st] ts Ms := ⟨pss_one h.p, h.s⟩
theorem dss_cons (h : DS X W st ts Ms) (hr : DSs X W rest us Ms') : DSs X W (st :: rest) (tSeq ts us) (mSeq Ms Ms') := ⟨pss_cons h.p hr.p, sim_seq h.s hr.s⟩
theorem ds_ret (h : DE X W e te Me) : DS X W (.Return (some e) pos) (tRet te) (mRet Me) := ⟨ps_ret h.p, sim_ret h.s⟩
theorem ds_expr (h : DE X W e te Me) (hs : swapsWith e none pos.line X.env = pure false := by rfl) : DS X W (.Expr e pos) (tDrop te) (mDrop Me) := ⟨ps_expr h.p hs, sim_drop h.s⟩
theorem ds_asg {tg : Expr} {g : TG} {uu : List Nat} {G : MG} (h : DE X W e te Me) (hg : DG X tg g uu G) (hs : swapsWithSole [tg] e pos.line X.env = pure false := by rfl) (hw : swappedStores [tg] e X.env = pure none := by rfl) (h1 : (assignEach [tg] X.env).map (·.2) = [assign tg X.env] := by rfl) :
    DS X W (.Assign [tg] e pos) (tAsg te g) (mAsg Me G) := ⟨ps_asg h.p hg.p hs hw h1, sim_asg h.s hg.s⟩
theorem ds_set (i : Nat) {x : Str} {p' : Pos} (hN : X.N.Nodup) (h : DE X W e te Me) (hi : X.N[i]? = some x := by rfl) (hx : Loc X.env.scope x := by first | exact Or.inl rfl | exact Or.inr rfl) (hs : swapsWith e (some (.Name x p')) pos.line X.env = pure false := by rfl)
    (hf : X.fn x = true ∨ X.env.scope.names.lookup x = some .local := by first | exact .inl rfl | exact .inr rfl) : DS X W (.Assign [.Name x p'] e pos) (tAsg te (gName i)) (mAsg Me (mgName i)) := ⟨ps_set hN hi hx h.p hs hf, sim_asg h.s (simg_name i)⟩
theorem ds_aug (i : Nat) {x : Str} {p' : Pos} {op : Operator} {f : Int → Int → Int} (hN : X.N.Nodup) (h : DE X W e te Me) (ho : PIp X op (ipI f)) (hi : X.N[i]? = some x := by rfl) (hx : Loc X.env.scope x := by first | exact Or.inl rfl | exact Or.inr rfl)
    (hf : X.fn x = true ∨ X.env.scope.names.lookup x = some .local := by first | exact .inl rfl | exact .inr rfl) : DS X W (.AugAssign (.Name x p') op e pos) (tAug i te (ipI f)) (mAug i f Me) := ⟨ps_aug hN hi hx h.p ho hf, sim_aug i f h.s⟩
theorem ds_if {xs ys : List Stmt} {t1 t2 : TS} {M1 M2 : MS} (hc : DT X W c t Mt) (ha : DSs X W xs t1 M1) (hb : DSs X W ys t2 M2) : DS X W (.If c xs ys pos) (tIfS t t1 t2) (mIfS Mt M1 M2) := ⟨ps_if hc.p ha.p hb.p, sim_ifS hc.s ha.s hb.s⟩
theorem ds_while {xs : List Stmt} {t1 : TS} {M1 : MS} (hp : PassesOwn (model X.prog X.w) X.A X.env X.xe) (hc : DT X W c t Mt) (hb : DSs X W xs t1 M1) : DS X W (.While c xs [] pos) (tWhile t t1) (mWhile Mt M1) := ⟨ps_while hp hc.p hb.p, sim_while hc.s hb.s⟩
theorem ds_for {tg iter : Expr} {xs : List Stmt} {t1 : TS} {M1 : MS} {wi : TI} {g : TG} {uu : List Nat} {I : MI} {G : MG} (hp : PassesOwn (model X.prog X.w) X.A X.env X.xe) (hc : X.calm = true) (hi : DI X W tg iter wi I) (hg : DG X tg g uu G) (hb : DSs X W xs t1 M1)
    (hs : ∀ x, foldedSetIterable iter X.env x = pure x := by intro _; rfl) : DS X W (.For tg iter xs [] pos) (tFor wi g t1) (mFor I G M1) := ⟨ps_for hp hc hi.p hg.p hb.p hs, sim_for hi.s hg.s hb.s⟩
theorem ds_dput {p' : Pos} (hu : X.A.units + 1 < cLine) (ho : DE X W o to Mo) (hi : DE X W a ta Ma) (hv : DE X W e te Me) (hs : swapsWith e (some (.Subscript o a p')) pos.line X.env = pure false := by rfl) : DS X W (.Assign [.Subscript o a p'] e pos) (sDPut to ta te) (mDPut Mo Ma Me) := ⟨ps_dput hu ho.p hi.p hv.p hs, sim_dput ho.s hi.s hv.s⟩
theorem ds_setLc (i : Nat) {y : Str} {py spos : Pos} {elt tg iter : Expr} {ifs : List Expr} {scope : Scope} {wi : TI} {g : TG} {uu : List Nat} {I : MI} {G : MG} {vs : List Nat} (own : List (Str × Nat)) (ev : own.map (·.2) = vs) (hc : X.calm = true) (hN : X.N.Nodup) (hi : DI X W tg iter wi I) (ok : BlkOk X.N X.env.scope scope own)
    (hg : ∀ (s : Shared) (H : Hp) (C : Addr) (cl : List (Str × Addr)) (fp : List Addr), DG (X.blk s H scope (compEnvC scope cl C X.env) fp) tg g uu G) (ht : ∀ (s : Shared) (H : Hp) (C : Addr) (cl : List (Str × Addr)) (fp : List Addr), PTs (X.blk s H scope (compEnvC scope cl C X.env) fp) ifs t)
    (hts : SimT X.K W00 t Mt) (he : ∀ (s : Shared) (H : Hp) (C : Addr) (cl : List (Str × Addr)) (fp : List Addr), DE (X.blk s H scope (compEnvC scope cl C X.env) fp) W00 elt te Me) (hu : ∀ u ∈ uu, u ∈ own.map (·.2))
    (hyl : X.env.scope.names.lookup y = some .local) (hsw : swapsWith (.ListComp elt [⟨tg, iter, ifs, 0⟩] scope pos) (some (.Name y py)) spos.line X.env = pure true) (hs : ∀ x, foldedSetIterable iter X.env x = pure x := by intro _; rfl) (hy : X.N[i]? = some y := by rfl) :
    DS X W (.Assign [.Name y py] (.ListComp elt [⟨tg, iter, ifs, 0⟩] scope pos) spos) (tAsg (tLc wi g t te vs) (gName i)) (mAsg (mLc I G Mt Me vs) (mgName i)) :=
  by subst ev; exact ⟨ps_setLc hc hN hy hyl hsw hi.p ok (fun s H C cl fp => (hg s H C cl fp).p) ht (fun s H C cl fp => (he s H C cl fp).p) hs, sim_asg (sim_lc hi.s (hg X.s_0 X.H_0 0 [] []).s hu hts (he X.s_0 X.H_0 0 [] []).s) (simg_name i)⟩
theorem ds_setLcM (i : Nat) {y : Str} {py spos : Pos} {elt tg iter : Expr} {ifs : List Expr} {scope : Scope} {wi : TI} {g : TG} {uu : List Nat} {I : MI} {G : MG} {vs : List Nat} (own : List (Str × Nat)) (ev : own.map (·.2) = vs) (hc : X.calm = true) (hN : X.N.Nodup) (hi : DI X W tg iter wi I) (ok : BlkOk X.N X.env.scope scope own)
    (hg : ∀ (s : Shared) (H : Hp) (C : Addr) (cl : List (Str × Addr)) (fp : List Addr), DG (X.blk s H scope (compEnvC scope cl C X.env) fp) tg g uu G) (ht : ∀ (s : Shared) (H : Hp) (C : Addr) (cl : List (Str × Addr)) (fp : List Addr), PTs (X.blk s H scope (compEnvC scope cl C X.env) fp) ifs t)
    (hts : SimT X.K W00 t Mt) (he : ∀ (s : Shared) (H : Hp) (C : Addr) (cl : List (Str × Addr)) (fp : List Addr), DE (X.blk s H scope (compEnvC scope cl C X.env) fp) W00 elt te Me) (hu : ∀ u ∈ uu, u ∈ own.map (·.2))
    (hyl : X.env.scope.names.lookup y = some .local) (hsw : swapsWith (.ListComp elt [⟨tg, iter, ifs, 0⟩] scope pos) (some (.Name y py)) spos.line X.env = pure true) (hs : ∀ x, foldedSetIterable iter X.env x = pure x := by intro _; rfl) (hy : X.N[i]? = some y := by rfl) :
    DS X W (.Assign [.Name y py] (.ListComp elt [⟨tg, iter, ifs, 0⟩] scope pos) spos) (tAsg (tLc wi g t te vs) (gName i)) (mAsg (mLcM I G Mt Me vs) (mgName i)) :=
  by subst ev; exact ⟨ps_setLc hc hN hy hyl hsw hi.p ok (fun s H C cl fp => (hg s H C cl fp).p) ht (fun s H C cl fp => (he s H C cl fp).p) hs, sim_asg (sim_lcM hi.s (hg X.s_0 X.H_0 0 [] []).s hu hts (he X.s_0 X.H_0 0 [] []).s) (simg_name i)⟩
end
theorem fn_ok {P : Program} {w : World} {K : Frag} {mg : Str → Option Value} {base : Heap} {x qual : Str} {params : Arguments} {body : List Stmt} {scope : Scope} {dvs : List V} {kws : List (Str × V)} {f : Addr} {fd : FuncData} {Ns ps : List Str} {k n : Nat} {fr : Bool} {Mb : MS}
    (F : FunD K x qual params body scope dvs kws f fd) (S : FnScope Ns ps scope) (hn : ps.length = n) (N : Nat) (hN : Ns.length = N)
    (h : ∀ (cdv : Value) (A : Around) (outer : List Env) (s : Shared) (H : Hp) (E : XK), Room k (A.deeper (envOfC qual scope s.heap.objs.size f cdv)) → ∃ t, DSs (cxOf (L2.CX P w) P w K mg base Ns qual scope f cdv A outer s H E) (fun c d _ H => E c d H) body t Mb) :
    FnOk P w K mg base (L2.CX P w) (k + 1) f fd ps (spM K n fr (mDef N fr Mb)) := by
  refine F.ok S (fun vs H Q E z => by rw [spM_len vs H Q E z, hn]) fun cdv A outer s H vs Q E hr hs => ?_
  obtain ⟨t, d⟩ := h cdv A outer s H E hr
  exact ⟨t, d.p, sim_def hN d.s hs⟩
end Mp
set_option Elab.async false
set_option linter.all false
set_option maxRecDepth 100000
set_option maxHeartbeats 4000000
namespace Mp
open PySem PySem.Spec PyProof.Rows L2
theorem new_mu {K : Frag} {α1 : Mp_} {hp1 : List O} {H1 : Hp} {p : Addr} {ds : List D} {vs : List V} (w1 : WOk K α1 hp1 H1) (hn : H1 p = none) (r : RepL K (Al α1 hp1) H1 ds vs) :
    ∃ α2, WOk K α2 (hp1 ++ [.lst ds]) (upd H1 p (.lst vs)) ∧ Ext α1 hp1 H1 α2 (hp1 ++ [.lst ds]) (upd H1 p (.lst vs)) ∧ SRep K α2 (hp1 ++ [.lst ds]) (upd H1 p (.lst vs)) (.mu hp1.length) (.ref p) := by
  obtain ⟨w2, e2⟩ := w1.pushLst hn r
  exact ⟨_, w2, e2, (p, []), by show (α1.own ++ [(p, [])])[hp1.length]? = _; rw [← w1.len, List.getElem?_append_right (Nat.le_refl _)]; simp, rfl⟩
def mListM (Ma : MA) : ME := fun s R Xp => Ma s (fun xs hp1 => on (vals hp1 xs) fun ds => one ds fun d => on (items d) fun ys => R (.mu hp1.length) (hp1 ++ [.lst ys])) Xp
theorem sim_listM {K : Frag} {W : WX} {ta : TA} {Ma : MA} (ha : SimA K W ta Ma) : SimE K W (tCB (rListA K) ta) (mListM Ma) := by
  intro α s H σ w e R Xp m Q q qx
  refine ha α s H σ w e _ _ m _ (fun x hp1 α1 H1 v1 m1 e1 w1 r1 => ?_) qx
  obtain ⟨ds, g1, m1⟩ := on.ex m1
  obtain ⟨d, v, rfl, r, m1⟩ := m1.ex (r1.vals w1 g1)
  obtain ⟨ys, g2, m1⟩ := on.ex m1
  obtain ⟨a, vs, rfl, h, r2⟩ := r.items g2
  refine ⟨a, vs, rfl, h, fun l hl => ?_⟩
  obtain ⟨α2, w2, e2, r3⟩ := new_mu w1 hl r2
  exact q _ _ α2 _ _ m1 (e1.trans e2) w2 r3
def slOf : D → Option (List D)
  | .lst ds => some ds
  | .fl ds => some ds
  | _ => none
def fU (g : Int → D) : F1 := fun a P => match a with
  | .int i => P (g i)
  | _ => False
@[simp] theorem fU_int {g : Int → D} {i : Int} {P : D → Prop} : fU g (.int i) P = P (g i) := rfl
theorem sim_U {K : Frag} {g : Int → D} {g' : Int → V} (hg : ∀ A H i, Rep K A H (g i) (g' i)) : Sim1 K (rU g') (fU g) := by
  intro A H d1 v1 _ r1 P p Q q
  cases d1 with
  | int i => cases r1; exact ⟨_, rfl, q _ _ _ p (hg _ _ _) (.inl rfl)⟩
  | _ => exact p.elim
section
variable {X : Cx} {W : WX} {a b c e : Expr} {es : List Expr} {pos : Pos} {ta tb tc te : TE} {Ma Mb Mc Me : ME} {t u : TT} {Mt Mu : MT} {tA : TA} {MA' : MA}
theorem de_neg (ha : DE X W a ta Ma) : DE X W (.UnaryOp .USub a pos) (tUn (rU fun i => .int (-i)) ta) (m1 (fU fun i => .int (-i)) Ma) := de_un un_neg (sim_U fun _ _ _ => rfl) ha
theorem de_listM (K : Frag) {p : Pos} (hg : Gl X "list") (hm : X.mg "list" = none) (hv : bootBuiltins "list" = some (.type "list")) (ha : DA X W (e :: es) tA MA')
    (he : starEach (e :: es) X.env = (false, eval e X.env) :: starEach es X.env := by rfl) (hpl : (backTo pos (starEach es X.env)).any (·.1) = false := by rfl) (hK : X.K = K := by rfl) : DE X W (.Call (.Name "list" p) (e :: es) [] pos) (tCB (rListA K) tA) (mListM MA') := by subst hK; exact ⟨pe_callTy call_list_of hg hm hv ha.p (by decide) (by decide) he hpl, sim_listM ha.s⟩
theorem dgs_cons {g : TG} {gs : TGs} {us ws : List Nat} {G : MG} {Gs : List D → PS → (PS → Prop) → Prop} (h1 : DG X e g us G) (h2 : DGs X es gs ws Gs) (hs : (assignEach (e :: es) X.env).map (·.2) = assign e X.env :: (assignEach es X.env).map (·.2) := by rfl) : DGs X (e :: es) (gCons g gs) (us ++ ws) (mgsCons G Gs) := ⟨pgs_cons h1.p h2.p hs, simgs_cons h1.s h2.s⟩
theorem dg_tup (K : Frag) {k n : Nat} {gs : TGs} {us : List Nat} {Gs : List D → PS → (PS → Prop) → Prop} (hc : X.calm = true) (h : DGs X es gs us Gs) (hn : (assignEach es X.env).length = n := by rfl) (hst : (assignEach es X.env).findIdx? (·.1) = none := by rfl) (hK : X.K = K := by rfl) : DG X (.Tuple es k pos) (gTup K n gs) us (mgTup n Gs) := by subst hK; exact ⟨pg_tup hc h.p hn hst, simg_tup h.s⟩
theorem dg_sb {o : Expr} {to : TE} {Mo : ME} (ho : DE X W o to Mo) (hi : DE X W a ta Ma) (hs : ∀ v, assign (.Subscript o a pos) X.env v = (do
      let ov ← holding [v] (eval o X.env)
      let iv ← holding [v, ov] (eval a X.env)
      standAt pos
      holding [v, ov, iv] (setItem ov iv v)
      release [v, ov, iv] []) := by intro _; rfl) : DG X (.Subscript o a pos) (gSub to ta rSetL) [] (mgSub Mo Ma) := ⟨pg_sub ho.p hi.p set_list hs, simg_sub ho.s hi.s⟩
section
variable {elt tg iter tg1 iter1 cnd : Expr} {scope : Scope} {wi wi1 : TI} {g g1 : TG} {uu uu1 : List Nat} {I I1 : MI} {G G1 : MG}
theorem de_lci {vs : List Nat} (own : List (Str × Nat)) (ev : own.map (·.2) = vs) (hc : X.calm = true) (hN : X.N.Nodup) (hi : DI X W tg iter wi I) (ok : BlkOk X.N X.env.scope scope own)
    (hg : ∀ (s : Shared) (H : Hp) (C : Addr) (cl : List (Str × Addr)) (fp : List Addr), DG (X.blk s H scope (compEnvC scope cl C X.env) fp) tg g uu G) (ht : ∀ (s : Shared) (H : Hp) (C : Addr) (cl : List (Str × Addr)) (fp : List Addr), DT (X.blk s H scope (compEnvC scope cl C X.env) fp) W00 cnd t Mt) (he : ∀ (s : Shared) (H : Hp) (C : Addr) (cl : List (Str × Addr)) (fp : List Addr), DE (X.blk s H scope (compEnvC scope cl C X.env) fp) W00 elt te Me) (hu : ∀ u ∈ uu, u ∈ own.map (·.2)) (hs : ∀ x, foldedSetIterable iter X.env x = pure x := by intro _; rfl) :
    DE X W (.ListComp elt [⟨tg, iter, [cnd], 0⟩] scope pos) (tLc wi g t te vs) (mLc I G Mt Me vs) :=
  by subst ev; exact de_lc own rfl hc hN hi ok hg (fun s H C cl fp => pts_one (ht s H C cl fp).p) (ht X.s_0 X.H_0 0 [] []).s he hu hs
end
end
end Mp
namespace Mp
open PySem PySem.Spec PyProof.Rows L2
theorem u1 {k : Nat} {A : Around} (r : Room k A) : A.units + 1 < cLine := by have := r.units; omega
end Mp
namespace Mp
open PySem PySem.Spec PyProof.Rows L2
section
variable (K : Frag) {X : Cx}
theorem op_addK (hK : X.K = K := by rfl) : OpR X (binaryOp .Add) (rAddA K) := by subst hK; exact op_addA
theorem op_eqK {k : Nat} (hr : Room k X.A) (hK : X.K = K := by rfl) : OpR X (compareOp .Eq) (rEqD K) := by subst hK; exact op_eqD hr.units
theorem op_neK {k : Nat} (hr : Room k X.A) (hK : X.K = K := by rfl) : OpR X (compareOp .NotEq) (rNeD K) := by subst hK; exact op_neD hr.units
theorem call_lenK (hK : X.K = K := by rfl) : CallR X (.builtin "len") (fun xs H Q => ∃ x n, xs = [x] ∧ LenV K x H n ∧ Q (.int n) H) := by subst hK; exact call_len
theorem call_isiK' (hK : X.K = K := by rfl) : CallR X (.builtin "isinstance") (rIsiA K) := by subst hK; exact call_isiA
theorem call_listK (hK : X.K = K := by rfl) : CallR X (.type "list") (rListA K) := by subst hK; exact call_list_of
theorem call_tupleK (hK : X.K = K := by rfl) : CallR X (.type "tuple") (rTupleA K) := by subst hK; exact call_tuple_of
end
end Mp
set_option Elab.async false
set_option linter.all false
set_option maxRecDepth 100000
set_option maxHeartbeats 4000000
namespace Mp
open PySem PySem.Spec PyProof.Rows L2
abbrev EndAtS := LamX.LawAtS
theorem RepL_ints {K : Frag} {A : Av} {H : Hp} : ∀ ns : List Int, RepL K A H (ns.map D.int) (ns.map V.int)
  | [] => rfl
  | n :: ns => ⟨V.int n, ns.map V.int, rfl, rfl, RepL_ints ns⟩
theorem cx_end {P : Program} {w : World} {H : Hp} {s : Shared} {e : Value} {s' : Shared} (z : L2.CX P w [] H s (fun _ _ _ => False) e s') : False := by
  obtain ⟨a, B, H', cls, d, _, _, _, _, _, _, _, z⟩ := z
  exact z
theorem script_start {K : Frag} {H : Hp} {a : Addr} {ns : List Int} {M : MF} (hS : SqL K H a (ns.map V.int)) (m : M [] [.d (.fl (ns.map D.int))] (fun s _ => s = .d (.bl true)) (fun _ _ => False)) :
    spM K 1 false M [.ref a] H (fun v _ => v = .bl true) (fun _ _ _ => False) := by
  refine ⟨rfl, ⟨[], fun _ => False⟩, [], _, _, _, ?_, ?_, m, fun s hp' α' H' v r e w sr _ => ?_, fun x hp' α' H' c dd z _ _ _ => z⟩
  · exact ⟨rfl, fun _ _ _ h => by simp at h, fun _ _ _ h => by simp at h, fun _ _ _ _ _ _ h => by simp at h, fun _ h => h.elim⟩
  · refine .cons ⟨a, ns.map V.int, rfl, ?_, RepL_ints ns⟩ .nil
    rcases hS with h | h
    · exact .inl ⟨h, fun z => z.elim (fun ⟨_, _, _, h, _⟩ => by simp at h) id⟩
    · exact .inr (.inr h)
  · subst r
    exact sr
end Mp
set_option Elab.async false
set_option linter.all false
set_option maxRecDepth 100000
set_option maxHeartbeats 4000000
namespace Mp
open PySem PySem.Spec PyProof.Rows L2
theorem nr {α : Sort _} {a b : α} (h : a = b) : a = b := h
structure Tg {α : Type} (a : α) : Type where
def onH {τ : Type} (o : Option τ) (k : τ → Prop) (_ : Tg k) : Prop := on o k
def brH (b : Bool) (A B : Prop) (_ : Tg (A, B)) : Prop := if b = true then A else B
def mfH (M : MF) (hp : List O) (ss : List S) (R : S → List O → Prop) (Xp : MX) (_ : Tg (M, R, Xp)) : Prop := M hp ss R Xp
def forH (v : Option Wk) (ds : List D) (G : MG) (Mb : MS) (hp : List O) (env : List (Option S)) (n : Nat) (k : MK) (_ : Tg (G, Mb, k)) : Prop := forL v ds G Mb ds ⟨hp, env, n⟩ k
def whileH (Mc : MT) (Mb : MS) (hp : List O) (env : List (Option S)) (n : Nat) (k : MK) (_ : Tg (Mc, Mb, k)) : Prop := mWhile Mc Mb ⟨hp, env, n⟩ k
def compH (v : Option Wk) (ds : List D) (G : MG) (Mt : MT) (Me : ME) (env : List (Option S)) (hp : List O) (R : List D → List O → Prop) (_ : Tg (G, Mt, Me, R)) : Prop := compL v ds G Mt Me env ds [] hp R
@[simp ↓] theorem onH_some {τ : Type} {x : τ} {k : τ → Prop} {t : Tg k} : onH (some x) k t = k x := nr rfl
@[simp ↓] theorem onH_none {τ : Type} {k : τ → Prop} {t : Tg k} : onH none k t = False := nr rfl
@[simp ↓] theorem brH_true {A B : Prop} {t : Tg (A, B)} : brH true A B t = A := nr rfl
@[simp ↓] theorem brH_false {A B : Prop} {t : Tg (A, B)} : brH false A B t = B := nr rfl
theorem mfH_of {M : MF} {hp : List O} {ss : List S} {R : S → List O → Prop} {Xp : MX} {t : Tg (M, R, Xp)} (h : M hp ss R Xp) : mfH M hp ss R Xp t := h
theorem brH_of {b : Bool} {A B : Prop} {t : Tg (A, B)} (h1 : b = true → A) (h2 : b = false → B) : brH b A B t := by
  cases b
  · exact h2 rfl
  · exact h1 rfl
theorem onH_of {τ : Type} {o : Option τ} {k : τ → Prop} {t : Tg k} {x : τ} (e : o = some x) (h : k x) : onH o k t := by subst e; exact h
section
variable {hp : List O} {env : List (Option S)} {n : Nat} {R : S → List O → Prop} {Rb : Bool → List O → Prop} {Rl : List S → List O → Prop} {Xp : MX} {Ma Mb Mc : ME} {Ta Tb : MT} {La : MA} {Sa Sb : MS}
  {nx bk ct : PS → Prop} {rt : S → List O → Prop} {ex : MX}
@[simp ↓] theorem x_var {i : Nat} : mVar i ⟨hp, env, n⟩ R Xp = onH (env[i]?.join) (fun v => R v hp) .mk := by
  show (match env[i]? with | some (some v) => R v hp | _ => False) = on (env[i]?.join) fun v => R v hp
  cases env[i]? with
  | none => rfl
  | some o => cases o <;> rfl
@[simp ↓] theorem x_c {d : D} : mC d ⟨hp, env, n⟩ R Xp = R (.d d) hp := nr rfl
@[simp ↓] theorem x_2 {f : F2} : m2 f Ma Mb ⟨hp, env, n⟩ R Xp = Ma ⟨hp, env, n⟩ (fun x hp1 => Mb ⟨hp1, env, n⟩ (fun y hp2 => onH (val hp2 x) (fun d1 => onH (val hp2 y) (fun d2 => f d1 d2 fun d => R (.d d) hp2) .mk) .mk) Xp) Xp := nr rfl
@[simp ↓] theorem x_1 {f : F1} : m1 f Ma ⟨hp, env, n⟩ R Xp = Ma ⟨hp, env, n⟩ (fun x hp1 => onH (val hp1 x) (fun d1 => f d1 fun d => R (.d d) hp1) .mk) Xp := nr rfl
@[simp ↓] theorem x_nil : mNil ⟨hp, env, n⟩ Rl Xp = Rl [] hp := nr rfl
@[simp ↓] theorem x_cons : mCons Ma La ⟨hp, env, n⟩ Rl Xp = Ma ⟨hp, env, n⟩ (fun x hp1 => La ⟨hp1, env, n⟩ (fun xs hp2 => Rl (x :: xs) hp2) Xp) Xp := nr rfl
@[simp ↓] theorem x_N {f : FN} : mN f La ⟨hp, env, n⟩ R Xp = La ⟨hp, env, n⟩ (fun xs hp1 => onH (vals hp1 xs) (fun ds => f ds fun d => R (.d d) hp1) .mk) Xp := nr rfl
@[simp ↓] theorem x_tup : mTup La ⟨hp, env, n⟩ R Xp = La ⟨hp, env, n⟩ (fun xs hp1 => onH (allD xs) (fun ds => ds.length ≤ sizeLine ∧ R (.d (.tup ds)) hp1) .mk) Xp := nr rfl
@[simp ↓] theorem x_lst : mLst La ⟨hp, env, n⟩ R Xp = La ⟨hp, env, n⟩ (fun xs hp1 => onH (allD xs) (fun ds => ds.length ≤ sizeLine ∧ R (.d (.lst ds)) hp1) .mk) Xp := nr rfl
@[simp ↓] theorem x_lstM : mLstM La ⟨hp, env, n⟩ R Xp = La ⟨hp, env, n⟩ (fun xs hp1 => onH (allD xs) (fun ds => ds.length ≤ sizeLine ∧ R (.mu hp1.length) (hp1 ++ [.lst ds])) .mk) Xp := nr rfl
@[simp ↓] theorem x_listM : mListM La ⟨hp, env, n⟩ R Xp = La ⟨hp, env, n⟩ (fun xs hp1 => onH (vals hp1 xs) (fun ds => one ds fun d => onH (items d) (fun ys => R (.mu hp1.length) (hp1 ++ [.lst ys])) .mk) .mk) Xp := nr rfl
@[simp ↓] theorem x_test : mTest Ma ⟨hp, env, n⟩ Rb Xp = Ma ⟨hp, env, n⟩ (fun x hp1 => onH (asB x) (fun b => Rb b hp1) .mk) Xp := nr rfl
@[simp ↓] theorem x_and : mAnd Ta Tb ⟨hp, env, n⟩ Rb Xp = Ta ⟨hp, env, n⟩ (fun b hp1 => brH b (Tb ⟨hp1, env, n⟩ Rb Xp) (Rb false hp1) .mk) Xp := nr rfl
@[simp ↓] theorem x_or : mOr Ta Tb ⟨hp, env, n⟩ Rb Xp = Ta ⟨hp, env, n⟩ (fun b hp1 => brH b (Rb true hp1) (Tb ⟨hp1, env, n⟩ Rb Xp) .mk) Xp := nr rfl
@[simp ↓] theorem x_not : mNot Ta ⟨hp, env, n⟩ Rb Xp = Ta ⟨hp, env, n⟩ (fun b hp1 => Rb (!b) hp1) Xp := nr rfl
@[simp ↓] theorem x_andV : mAndV Ma Mb ⟨hp, env, n⟩ R Xp = Ma ⟨hp, env, n⟩ (fun x hp1 => onH (asB x) (fun b => brH b (Mb ⟨hp1, env, n⟩ R Xp) (R (.d (.bl false)) hp1) .mk) .mk) Xp := nr rfl
@[simp ↓] theorem x_orV : mOrV Ma Mb ⟨hp, env, n⟩ R Xp = Ma ⟨hp, env, n⟩ (fun x hp1 => onH (asB x) (fun b => brH b (R (.d (.bl true)) hp1) (Mb ⟨hp1, env, n⟩ R Xp) .mk) .mk) Xp := nr rfl
@[simp ↓] theorem x_notV : mNotV Ma ⟨hp, env, n⟩ R Xp = Ma ⟨hp, env, n⟩ (fun x hp1 => onH (asB x) (fun b => R (.d (.bl (!b))) hp1) .mk) Xp := nr rfl
@[simp ↓] theorem x_chain {f g : F2} : mChain f g Ma Mb Mc ⟨hp, env, n⟩ R Xp = Ma ⟨hp, env, n⟩ (fun x hp1 => Mb ⟨hp1, env, n⟩ (fun y hp2 => onH (val hp2 x) (fun d1 => onH (val hp2 y) (fun d2 => f d1 d2 fun d =>
  onH (asB (.d d)) (fun b => brH b (Mc ⟨hp2, env, n⟩ (fun z hp3 => onH (val hp3 y) (fun d2 => onH (val hp3 z) (fun d3 => g d2 d3 fun d => R (.d d) hp3) .mk) .mk) Xp) (R (.d (.bl false)) hp2) .mk) .mk) .mk) .mk) Xp) Xp := nr rfl
@[simp ↓] theorem x_asg {G : MG} : mAsg Ma G ⟨hp, env, n⟩ ⟨nx, bk, ct, rt, ex⟩ = Ma ⟨hp, env, n⟩ (fun v hp' => G v ⟨hp', env, n⟩ nx) ex := nr rfl
@[simp ↓] theorem x_gName {i : Nat} {v : S} : mgName i v ⟨hp, env, n⟩ nx = nx ⟨hp, env.set i (some v), n⟩ := nr rfl
@[simp ↓] theorem x_drop : mDrop Ma ⟨hp, env, n⟩ ⟨nx, bk, ct, rt, ex⟩ = Ma ⟨hp, env, n⟩ (fun _ hp' => nx ⟨hp', env, n⟩) ex := nr rfl
@[simp ↓] theorem x_ret : mRet Ma ⟨hp, env, n⟩ ⟨nx, bk, ct, rt, ex⟩ = Ma ⟨hp, env, n⟩ rt ex := nr rfl
@[simp ↓] theorem x_next : mNext ⟨hp, env, n⟩ ⟨nx, bk, ct, rt, ex⟩ = nx ⟨hp, env, n⟩ := nr rfl
@[simp ↓] theorem x_seq : mSeq Sa Sb ⟨hp, env, n⟩ ⟨nx, bk, ct, rt, ex⟩ = Sa ⟨hp, env, n⟩ ⟨fun s' => Sb s' ⟨nx, bk, ct, rt, ex⟩, bk, ct, rt, ex⟩ := nr rfl
@[simp ↓] theorem x_ifS : mIfS Ta Sa Sb ⟨hp, env, n⟩ ⟨nx, bk, ct, rt, ex⟩ = Ta ⟨hp, env, n⟩ (fun b hp' => brH b (Sa ⟨hp', env, n⟩ ⟨nx, bk, ct, rt, ex⟩) (Sb ⟨hp', env, n⟩ ⟨nx, bk, ct, rt, ex⟩) .mk) ex := nr rfl
def intO : Option (Option S) → Option Int
  | some (some (.d (.int a))) => some a
  | _ => none
@[simp] theorem intO_some {a : Int} : intO (some (some (.d (.int a)))) = some a := rfl
@[simp ↓] theorem x_aug {i : Nat} {f : Int → Int → Int} : mAug i f Ma ⟨hp, env, n⟩ ⟨nx, bk, ct, rt, ex⟩ = onH (intO env[i]?) (fun a => Ma ⟨hp, env, n⟩ (fun v hp' => onH (val hp' v) (fun d => onH (asI d) (fun b => nx ⟨hp', env.set i (some (.d (.int (f a b)))), n⟩) .mk) .mk) ex) .mk := nr rfl
@[simp ↓] theorem x_while {Mt : MT} {Mb : MS} {k : MK} : mWhile Mt Mb ⟨hp, env, n⟩ k = whileH Mt Mb hp env n k .mk := nr rfl
@[simp ↓] theorem x_for {I : MI} {G : MG} {Mb : MS} {k : MK} : mFor I G Mb ⟨hp, env, n⟩ k = I ⟨hp, env, n⟩ (fun v ds hp' => forH v ds G Mb hp' env n k .mk) k.ex := nr rfl
def walkO (hp : List O) : S → Option (Option Wk × List D)
  | .d d => (items d).map fun ds => (none, ds)
  | .mu m => match hp[m]? with
    | some (.lst ds) => some (some (.mu m), ds)
    | _ => none
  | .ob n k => (nodeDs hp n k).map fun ds => (some (.ob n k), ds)
  | .exn _ _ _ _ => none
theorem walked_O {v : S} {Rw : Option Wk → List D → List O → Prop} : walked hp v Rw = on (walkO hp v) fun p => Rw p.1 p.2 hp := by
  cases v with
  | d d =>
    show on (items d) _ = on ((items d).map _) _
    cases items d <;> rfl
  | mu m =>
    show (match hp[m]? with | some (.lst ds) => Rw (some (.mu m)) ds hp | _ => False) = on (match hp[m]? with | some (.lst ds) => some (some (Wk.mu m), ds) | _ => none) _
    cases hp[m]? with
    | none => rfl
    | some o => cases o <;> rfl
  | ob n k =>
    show on (nodeDs hp n k) _ = on ((nodeDs hp n k).map _) _
    cases nodeDs hp n k <;> rfl
  | exn _ _ _ _ => rfl
variable {Rw : Option Wk → List D → List O → Prop}
@[simp ↓] theorem x_iSq : miSq Ma ⟨hp, env, n⟩ Rw Xp = Ma ⟨hp, env, n⟩ (fun v hp' => onH (walkO hp' v) (fun p => Rw p.1 p.2 hp') .mk) Xp := by
  show Ma ⟨hp, env, n⟩ (fun v hp' => walked hp' v Rw) Xp = _
  congr 1
  funext v hp'
  exact walked_O
@[simp ↓] theorem x_iRng {f : List Int → (Int → Int → Nat → Prop) → Prop} : miRng f La ⟨hp, env, n⟩ Rw Xp = La ⟨hp, env, n⟩ (fun vs hp' => onH (vals hp' vs) (fun ds => onH (intsD ds) (fun l => f l fun lo c n => Rw none (rng lo c n) hp') .mk) .mk) Xp := nr rfl
@[simp] theorem walkO_d {d : D} : walkO hp (.d d) = (items d).map fun ds => (none, ds) := rfl
def lstO : Option O → Option (List D)
  | some (.lst ds) => some ds
  | _ => none
def dctO : Option O → Option (List (Key × D))
  | some (.dct ds) => some ds
  | _ => none
@[simp] theorem lstO_some {ds : List D} : lstO (some (.lst ds)) = some ds := rfl
@[simp] theorem dctO_some {ds : List (Key × D)} : dctO (some (.dct ds)) = some ds := rfl
@[simp] theorem lstAt_O {m : Nat} : lstAt hp m = lstO hp[m]? := rfl
@[simp] theorem dctAt_O {m : Nat} : dctAt hp m = dctO hp[m]? := rfl
@[simp] theorem walkO_ob {n k : Nat} : walkO hp (.ob n k) = (nodeDs hp n k).map fun ds => (some (.ob n k), ds) := rfl
theorem val_ob {n k : Nat} : val hp (.ob n k) = (nodeDs hp n k).map D.lst := by
  show (match nodeAt hp n k with | some (.lst xs) => (dsOf xs).map D.lst | _ => none) = _
  unfold nodeDs
  cases nodeAt hp n k with
  | none => rfl
  | some g => cases g <;> rfl
@[simp] theorem walkO_mu {m : Nat} : walkO hp (.mu m) = (lstO hp[m]?).map fun ds => (some (.mu m), ds) := by
  show (match hp[m]? with | some (.lst ds) => some (some (Wk.mu m), ds) | _ => none) = _
  cases hp[m]? with
  | none => rfl
  | some o => cases o <;> rfl
@[simp] theorem val_O {m : Nat} : val hp (.mu m) = (lstO hp[m]?).map D.lst := by
  show (match hp[m]? with | some (.lst ds) => some (D.lst ds) | _ => none) = _
  cases hp[m]? with
  | none => rfl
  | some o => cases o <;> rfl
@[simp] theorem vals_nil : vals hp [] = some [] := rfl
def c2 {τ : Type} : Option τ → Option (List τ) → Option (List τ)
  | some a, some b => some (a :: b)
  | _, _ => none
@[simp] theorem c2_some {τ : Type} {a : τ} {b : List τ} : c2 (some a) (some b) = some (a :: b) := rfl
@[simp] theorem vals_cons {x : S} {xs : List S} : vals hp (x :: xs) = c2 (val hp x) (vals hp xs) := by
  show (match val hp x, vals hp xs with | some d, some ds => some (d :: ds) | _, _ => none) = _
  cases val hp x <;> cases vals hp xs <;> rfl
@[simp] theorem allD_nil : allD [] = some [] := rfl
@[simp] theorem allD_d {x : D} {xs : List S} : allD (.d x :: xs) = c2 (some x) (allD xs) := by
  show (match allD xs with | some ds => some (x :: ds) | _ => none) = _
  cases allD xs <;> rfl
@[simp] theorem asB_bl {b : Bool} : asB (.d (.bl b)) = some b := rfl
@[simp] theorem intsD_nil : intsD [] = some [] := rfl
@[simp] theorem intsD_int {i : Int} {r : List D} : intsD (.int i :: r) = c2 (some i) (intsD r) := by
  show ((intsD r).bind fun l => some (i :: l)) = _
  cases intsD r <;> rfl
@[simp] theorem args_t {vs : List S} : args true hp vs = vals hp vs := rfl
@[simp] theorem args_f {vs : List S} : args false hp vs = allD vs := rfl
@[simp ↓] theorem x_meth {x : Bool} {f : FM} : mMeth x f Ma La ⟨hp, env, n⟩ R Xp = Ma ⟨hp, env, n⟩ (fun o hp1 => onH (asMu o) (fun m => onH (lstO hp1[m]?) (fun _ => La ⟨hp1, env, n⟩ (fun vs hp2 => onH (lstO hp2[m]?) (fun ds => onH (args x hp2 vs) (fun es => f ds es fun d ds' => R (.d d) (hp2.set m (.lst ds'))) .mk) .mk) Xp) .mk) .mk) Xp := nr rfl
@[simp ↓] theorem x_gSub {v : S} : mgSub Ma Mb v ⟨hp, env, n⟩ nx = Ma ⟨hp, env, n⟩ (fun o hp1 => Mb ⟨hp1, env, n⟩ (fun i hp2 => onH (asMu o) (fun m => onH (lstO hp2[m]?) (fun ds => onH (isD i) (fun di => onH (asI di) (fun k => onH (ixN ds.length k) (fun j => onH (isD v) (fun d => nx ⟨hp2.set m (.lst (ds.set j d)), env, n⟩) .mk) .mk) .mk) .mk) .mk) .mk) noX) noX := nr rfl
@[simp ↓] theorem x_dget : mDGet Ma Mb ⟨hp, env, n⟩ R Xp = Ma ⟨hp, env, n⟩ (fun o hp1 => Mb ⟨hp1, env, n⟩ (fun y hp2 => onH (asMu o) (fun m => onH (dctO hp2[m]?) (fun l => onH (isD y) (fun dy => onH (keyD dy) (fun k => onH (getK l k) (fun d => R (.d d) hp2) .mk) .mk) .mk) .mk) .mk) Xp) Xp := nr rfl
@[simp ↓] theorem x_dput : mDPut Ma Mb Mc ⟨hp, env, n⟩ ⟨nx, bk, ct, rt, ex⟩ = Mc ⟨hp, env, n⟩ (fun v hp1 => Ma ⟨hp1, env, n⟩ (fun o hp2 => Mb ⟨hp2, env, n⟩ (fun y hp3 => onH (asMu o) (fun m => onH (dctO hp3[m]?) (fun l => onH (isD y) (fun dy => onH (keyD dy) (fun key => onH (isD v) (fun d => l.length < sizeLine ∧
  nx ⟨hp3.set m (.dct (setK l key d)), env, n⟩) .mk) .mk) .mk) .mk) .mk) ex) ex) ex := nr rfl
variable {Ml Mh : MO} {Ro : Option Int → List O → Prop}
@[simp ↓] theorem x_oNone : moNone ⟨hp, env, n⟩ Ro Xp = Ro none hp := nr rfl
@[simp ↓] theorem x_oSome : moSome Ma ⟨hp, env, n⟩ Ro Xp = Ma ⟨hp, env, n⟩ (fun v hp1 => onH (isD v) (fun d => onH (asI d) (fun i => Ro (some i) hp1) .mk) .mk) Xp := nr rfl
@[simp ↓] theorem x_sl : mSl Ma Ml Mh ⟨hp, env, n⟩ R Xp = Ma ⟨hp, env, n⟩ (fun x hp1 => Ml ⟨hp1, env, n⟩ (fun lo hp2 => Mh ⟨hp2, env, n⟩ (fun hi hp3 => onH (val hp3 x) (fun d => fSl d lo hi fun d' => R (.d d') hp3) .mk) Xp) Xp) Xp := nr rfl
@[simp] theorem slOf_lst {ds : List D} : slOf (.lst ds) = some ds := rfl
@[simp ↓] theorem x_call {N : Nat} {M : MF} {dd : List D} : mCall N M dd La ⟨hp, env, n⟩ R Xp = La ⟨hp, env, n⟩ (fun ss hp1 => ss.length + dd.length = N ∧ mfH M hp1 (ss ++ dd.map S.d) R Xp .mk) Xp := nr rfl
def lstR (R : S → List O → Prop) (v : S) (hp2 : List O) : Prop := match v with
  | .d (.lst ds) => R (.mu hp2.length) (hp2 ++ [.lst ds])
  | _ => False
@[simp ↓] theorem lstR_lst {ds : List D} : lstR R (.d (.lst ds)) hp = R (.mu hp.length) (hp ++ [.lst ds]) := nr rfl
@[simp ↓] theorem x_callM {N : Nat} {M : MF} {dd : List D} : mCallM N M dd La ⟨hp, env, n⟩ R Xp = La ⟨hp, env, n⟩ (fun ss hp1 => ss.length + dd.length = N ∧ mfH M hp1 (ss ++ dd.map S.d) (lstR R) Xp .mk) Xp := nr rfl
@[simp ↓] theorem x_lc {I : MI} {G : MG} {Mt : MT} {vs : List Nat} : mLc I G Mt Ma vs ⟨hp, env, n⟩ R Xp = I ⟨hp, env, n⟩ (fun v ds hp' => compH v ds G Mt Ma (wipeE env vs) hp' (fun acc hp2 => R (.d (.lst acc)) hp2) .mk) Xp := nr rfl
@[simp ↓] theorem x_lcM {I : MI} {G : MG} {Mt : MT} {vs : List Nat} : mLcM I G Mt Ma vs ⟨hp, env, n⟩ R Xp = I ⟨hp, env, n⟩ (fun v ds hp' => compH v ds G Mt Ma (wipeE env vs) hp' (fun acc hp2 => R (.mu hp2.length) (hp2 ++ [.lst acc])) .mk) Xp := nr rfl
@[simp ↓] theorem x_yes : mYes ⟨hp, env, n⟩ Rb Xp = Rb true hp := nr rfl
variable {Rp : List (S × S) → List O → Prop}
@[simp ↓] theorem x_pnil : mPairs [] ⟨hp, env, n⟩ Rp Xp = Rp [] hp := nr rfl
@[simp ↓] theorem x_pcons {mr : List (ME × ME)} : mPairs ((Ma, Mb) :: mr) ⟨hp, env, n⟩ Rp Xp = Ma ⟨hp, env, n⟩ (fun k hp1 => Mb ⟨hp1, env, n⟩ (fun v hp2 => mPairs mr ⟨hp2, env, n⟩ (fun ps hp3 => Rp ((k, v) :: ps) hp3) Xp) Xp) Xp := nr rfl
@[simp ↓] theorem x_disp {mr : List (ME × ME)} : mDisp mr ⟨hp, env, n⟩ R Xp = mPairs mr ⟨hp, env, n⟩ (fun ps hp1 => onH (keysD ps) (fun l => l.length ≤ 15 ∧ R (.mu hp1.length) (hp1 ++ [.dct (mergeD [] l)])) .mk) Xp := nr rfl
@[simp ↓] theorem x_def {N : Nat} {fr : Bool} {Mb : MS} {ss : List S} : mDef N fr Mb hp ss R Xp = Mb ⟨hp, ss.map some ++ List.replicate (N - ss.length) none, hp.length⟩ ⟨fun s' => retP hp.length fr R (.d .non) s'.hp, fun _ => False, fun _ => False, retP hp.length fr R, fun x hp' => Xp x (hp'.take hp.length)⟩ := nr rfl
@[simp ↓] theorem x_retD {m : Nat} {d : D} : retP m false R (.d d) hp = R (.d d) (hp.take m) := by
  show ((false = true → isLst d = false) ∧ R (.d d) (hp.take m)) = _
  simp
@[simp ↓] theorem x_retDT {m : Nat} {d : D} : retP m true R (.d d) hp = (isLst d = false ∧ R (.d d) (hp.take m)) := by
  show ((true = true → isLst d = false) ∧ R (.d d) (hp.take m)) = _
  simp
def retO (n0 : Nat) (R : S → List O → Prop) (hp : List O) (o : Option O) (_ : Tg R) : Prop := match o with
  | some (.lst ds) => R (.d (.lst ds)) (hp.take n0)
  | some (.dct l) => R (.mu n0) (hp.take n0 ++ [.dct l])
  | some (.reg gs) => R (.ob n0 0) (hp.take n0 ++ [.reg gs])
  | _ => False
@[simp ↓] theorem x_retM {m k : Nat} {fr : Bool} : retP m fr R (.mu k) hp = brH (decide (k < m)) (R (.mu k) (hp.take m)) (retO m R hp hp[k]? .mk) .mk := by
  show (if k < m then _ else _) = (if decide (k < m) = true then _ else _)
  by_cases h : k < m
  · rw [if_pos h, if_pos (by simpa using h)]
  · rw [if_neg h, if_neg (by simpa using h)]
    rfl
@[simp ↓] theorem retO_lst {m : Nat} {ds : List D} {t : Tg R} : retO m R hp (some (.lst ds)) t = R (.d (.lst ds)) (hp.take m) := nr rfl
@[simp ↓] theorem retO_dct {m : Nat} {ds : List (Key × D)} {t : Tg R} : retO m R hp (some (.dct ds)) t = R (.mu m) (hp.take m ++ [.dct ds]) := nr rfl
@[simp ↓] theorem retO_reg {m : Nat} {gs : List Gn} {t : Tg R} : retO m R hp (some (.reg gs)) t = R (.ob m 0) (hp.take m ++ [.reg gs]) := nr rfl
def retG (n0 k : Nat) (R : S → List O → Prop) (hp : List O) (o : Option O) (_ : Tg R) : Prop := match o with
  | some (.reg gs) => R (.ob n0 k) (hp.take n0 ++ [.reg gs])
  | _ => False
@[simp ↓] theorem x_retOb {m j k : Nat} {fr : Bool} : retP m fr R (.ob j k) hp = brH (decide (j < m)) (R (.ob j k) (hp.take m)) (retG m k R hp hp[j]? .mk) .mk := by
  show (if j < m then _ else _) = (if decide (j < m) = true then _ else _)
  by_cases h : j < m
  · rw [if_pos h, if_pos (by simpa using h)]
  · rw [if_neg h, if_neg (by simpa using h)]
    rfl
@[simp ↓] theorem retG_reg {m k : Nat} {gs : List Gn} {t : Tg R} : retG m k R hp (some (.reg gs)) t = R (.ob m k) (hp.take m ++ [.reg gs]) := nr rfl
variable {τ : Type}
@[simp ↓] theorem x_one {d : D} {P : D → Prop} : one [d] P = P d := nr rfl
@[simp ↓] theorem x_two {d e : D} {P : D → D → Prop} : two [d, e] P = P d e := nr rfl
section
variable {P : D → Prop} {i j : Int} {x y : List D}
@[simp ↓] theorem xfI {C : Int → Int → Prop} {g : Int → Int → D} : fI C g (.int i) (.int j) P = (C i j ∧ P (g i j)) := nr rfl
@[simp ↓] theorem xfI0 {g : Int → Int → D} : fI0 g (.int i) (.int j) P = P (g i j) := nr rfl
@[simp ↓] theorem xfU {g : Int → D} : fU g (.int i) P = P (g i) := nr rfl
@[simp ↓] theorem xfMul : fMul (.int i) (.int j) P = ((CMul i j ∨ CMulW i j) ∧ P (.int (i * j))) := nr rfl
@[simp ↓] theorem xfMulS {z : Str} : fMul (.str z) (.int j) P = (MulOk z j ∧ P (.str (Txt.mul z j))) := nr rfl
@[simp ↓] theorem xfMulL : fMul (.lst x) (.int j) P = (-(2 ^ 63) ≤ j ∧ j < 2 ^ 63 ∧ x.length * j.toNat ≤ sizeLine ∧ P (.lst (List.flatten (List.replicate j.toNat x)))) := nr rfl
@[simp ↓] theorem xfAdd : fAdd (.int i) (.int j) P = P (.int (i + j)) := nr rfl
@[simp ↓] theorem xfAddL : fAdd (.lst x) (.lst y) P = (x.length + y.length ≤ sizeLine ∧ P (.lst (x ++ y))) := nr rfl
@[simp ↓] theorem xfAddT : fAdd (.tup x) (.tup y) P = (x.length + y.length ≤ sizeLine ∧ P (.tup (x ++ y))) := nr rfl
@[simp ↓] theorem xfAddS {i j : Str} : fAdd (.str i) (.str j) P = (i.length + j.length ≤ sizeLine ∧ P (.str (i ++ j))) := nr rfl
@[simp ↓] theorem xfEq {a b : D} : fEq a b P = (shD a = true ∧ shD b = true ∧ P (.bl (eqD a b))) := nr rfl
@[simp ↓] theorem xfNe {a b : D} : fNe a b P = (shD a = true ∧ shD b = true ∧ P (.bl (!eqD a b))) := nr rfl
@[simp ↓] theorem xfIsN {a : D} : fIsN a .non P = P (.bl (isNon a)) := nr rfl
@[simp ↓] theorem xfIxL : fIx (.lst x) (.int i) P = onH (atI x i) P .mk := nr rfl
@[simp ↓] theorem xfIxT : fIx (.tup x) (.int i) P = onH (atI x i) P .mk := nr rfl
@[simp ↓] theorem xfIxF : fIx (.fl x) (.int i) P = onH (atI x i) P .mk := nr rfl
@[simp ↓] theorem xfLenL : fLen [.lst x] P = P (.int x.length) := by simp [fLen, asS, one, on]
@[simp ↓] theorem xfLenT : fLen [.tup x] P = P (.int x.length) := by simp [fLen, asS, one, on]
@[simp ↓] theorem xfLenF : fLen [.fl x] P = P (.int x.length) := by simp [fLen, asS, one, on]
@[simp ↓] theorem xfLenS {x : Str} : fLen [.str x] P = (x.length ≤ sizeLine ∧ P (.int x.length)) := by simp [fLen, asS, one, on, items]
@[simp ↓] theorem xfInt : fInt [.int i] P = P (.int i) := by simp [fInt, one, on, asB']
@[simp ↓] theorem xfIntB {b : Bool} : fInt [.bl b] P = P (.int (if b then 1 else 0)) := by simp [fInt, one, on, asI]
@[simp ↓] theorem xfAbs : fAbs [.int i] P = P (.int (if i < 0 then -i else i)) := nr rfl
@[simp ↓] theorem xfMM {g : Int → Int → Int} : fMM g [.int i, .int j] P = P (.int (g i j)) := nr rfl
@[simp ↓] theorem xfListL : fList [.lst x] P = P (.lst x) := nr rfl
@[simp ↓] theorem xfListT : fList [.tup x] P = P (.lst x) := nr rfl
@[simp ↓] theorem xfListF : fList [.fl x] P = P (.lst x) := nr rfl
@[simp ↓] theorem xfTupleL : fTuple [.lst x] P = P (.tup x) := nr rfl
@[simp ↓] theorem xfTupleT : fTuple [.tup x] P = P (.tup x) := nr rfl
@[simp ↓] theorem xfTupleF : fTuple [.fl x] P = P (.tup x) := nr rfl
@[simp ↓] theorem xfSlL {lo hi : Option Int} : fSl (.lst x) lo hi P = P (.lst (cutD x lo hi)) := nr rfl
@[simp ↓] theorem xfSlF {lo hi : Option Int} : fSl (.fl x) lo hi P = P (.lst (cutD x lo hi)) := nr rfl
@[simp ↓] theorem xfSlS {z : Str} {lo hi : Option Int} : fSl (.str z) lo hi P = (z.length ≤ sizeLine ∧ P (.str (cutS z lo hi))) := nr rfl
@[simp ↓] theorem xfSlT {lo hi : Option Int} : fSl (.tup x) lo hi P = P (.tup (cutD x lo hi)) := nr rfl
variable {Q : D → List D → Prop} {e : D}
@[simp ↓] theorem xfAppend : fAppend x [e] Q = (x.length < sizeLine ∧ Q .non (x ++ [e])) := nr rfl
variable {k : Int → Int → Nat → Prop}
@[simp ↓] theorem xf1R : f1R [j] k = (-(2 ^ 62) ≤ j ∧ j < 2 ^ 62 ∧ k 0 1 j.toNat) := nr rfl
end
end
end Mp
set_option Elab.async false
set_option linter.all false
set_option maxRecDepth 100000
set_option maxHeartbeats 4000000
namespace Mp
open PySem PySem.Spec PyProof.Rows L2
@[simp] theorem cm_r {i j : Int} (h1 : -18446744073709551616 < j) (h2 : j < 18446744073709551616) : (CMul i j ∨ CMulW i j) = True := eq_true (.inl (.inr ⟨h1, h2⟩))
@[simp] theorem cm_l {i j : Int} (h1 : -18446744073709551616 < i) (h2 : i < 18446744073709551616) : (CMul i j ∨ CMulW i j) = True := eq_true (.inl (.inl ⟨h1, h2⟩))
theorem log2_lt {n k : Nat} (h : n < 2 ^ k) (hk : 0 < k) : n.log2 < k := by
  by_cases h0 : n = 0
  · subst h0; simpa using hk
  · exact (Nat.log2_lt h0).mpr h
@[simp] theorem cdiv_ok {i j : Int} (h1 : 0 < j) (h2 : j < 18446744073709551616) : CDivW i j = True := eq_true ⟨h1, Nat.lt_trans (log2_lt (k := 64) (by omega) (by decide)) (by decide)⟩
@[simp] theorem emod_lt_lit {a m : Int} (h : 0 < m) : (a % m < m) = True := eq_true (Int.emod_lt_of_pos a h)
def iL (xs : List Int) : List D := xs.map D.int
theorem py_ints : ∀ ns : List Int, D.pyL (ns.map D.int) = ns.map PyData.int
  | [] => by simp [D.pyL]
  | n :: ns => by simp [D.pyL, D.py, py_ints ns]
theorem eqv_ints : ∀ xs ys : List Int, PyData.eqvAll (xs.map PyData.int) (ys.map PyData.int) = decide (xs = ys)
  | [], [] => by simp [PyData.eqvAll]
  | [], _ :: _ => by simp [PyData.eqvAll]
  | _ :: _, [] => by simp [PyData.eqvAll]
  | x :: xs, y :: ys => by
    simp only [List.map_cons, PyData.eqvAll, PyData.eqv, eqv_ints xs ys, List.cons.injEq]
    by_cases h1 : x = y <;> by_cases h2 : xs = ys <;> simp [h1, h2]
theorem lay_ints : ∀ ns : List Int, PyData.canLayAll0 (ns.map PyData.int) = true
  | [] => by simp [PyData.canLayAll0]
  | n :: ns => by simp [PyData.canLayAll0, PyData.canLay0, lay_ints ns]
theorem depth_ints : ∀ ns : List Int, PyData.depthAll (ns.map PyData.int) ≤ 1
  | [] => by simp [PyData.depthAll]
  | n :: ns => by
    have := depth_ints ns
    simp [PyData.depthAll, PyData.depth] <;> omega
@[simp] theorem eqD_int {i j : Int} : eqD (.int i) (.int j) = decide (i = j) := by
  simp only [eqD, D.py, PyData.eqv]
  by_cases h : i = j <;> simp [h]
@[simp] theorem eqD_bl {i j : Bool} : eqD (.bl i) (.bl j) = (i == j) := by simp only [eqD, D.py, PyData.eqv]
@[simp] theorem eqD_str {i j : Str} : eqD (.str i) (.str j) = (i == j) := by simp only [eqD, D.py, PyData.eqv]
@[simp] theorem eqD_ints {xs ys : List Int} : eqD (.lst (iL xs)) (.lst (iL ys)) = decide (xs = ys) := by simp only [eqD, D.py, PyData.eqv, iL, py_ints, eqv_ints]
@[simp] theorem eqD_intsT {xs ys : List Int} : eqD (.tup (iL xs)) (.tup (iL ys)) = decide (xs = ys) := by simp only [eqD, D.py, PyData.eqv, iL, py_ints, eqv_ints]
@[simp] theorem shD_int {i : Int} : shD (.int i) = true := by simp [shD, SeqAt.shaped, D.py, PyData.canLay0, PyData.depth]
@[simp] theorem shD_bl {i : Bool} : shD (.bl i) = true := by simp [shD, SeqAt.shaped, D.py, PyData.canLay0, PyData.depth]
@[simp] theorem shD_non : shD .non = true := by simp [shD, SeqAt.shaped, D.py, PyData.canLay0, PyData.depth]
@[simp] theorem shD_ints {xs : List Int} : shD (.lst (iL xs)) = true := by
  have := depth_ints xs
  simp only [shD, SeqAt.shaped, D.py, PyData.canLay0, iL, py_ints, lay_ints, PyData.depth, Bool.true_and, decide_eq_true_eq]
  omega
@[simp] theorem shD_intsT {xs : List Int} : shD (.tup (iL xs)) = true := by
  have := depth_ints xs
  simp only [shD, SeqAt.shaped, D.py, PyData.canLay0, iL, py_ints, lay_ints, PyData.depth, Bool.true_and, decide_eq_true_eq]
  omega
theorem atI_map {τ ρ : Type} {f : τ → ρ} {xs : List τ} {i : Int} : atI (xs.map f) i = (atI xs i).map f := by
  unfold atI
  simp only [List.length_map, List.getElem?_map]
  cases ixN xs.length i <;> rfl
@[simp] theorem atI_ints {xs : List Int} {i : Int} : atI (iL xs) i = (atI xs i).map D.int := atI_map
@[simp] theorem iL_len {xs : List Int} : (iL xs).length = xs.length := List.length_map ..
@[simp] theorem iL_app {xs ys : List Int} : iL xs ++ iL ys = iL (xs ++ ys) := (List.map_append ..).symm
@[simp] theorem iL_app1 {xs : List Int} {i : Int} : iL xs ++ [D.int i] = iL (xs ++ [i]) := iL_app (ys := [i])
@[simp] theorem iL_set {xs : List Int} {i : Int} {j : Nat} : (iL xs).set j (D.int i) = iL (xs.set j i) := (List.map_set ..).symm
@[simp] theorem iL_get {xs : List Int} {j : Nat} : (iL xs)[j]? = xs[j]?.map D.int := List.getElem?_map ..
@[simp] theorem iL_rev {xs : List Int} : (iL xs).reverse = iL xs.reverse := (List.map_reverse ..).symm
@[simp] theorem iL_rep {k : Nat} {x : Int} : (List.replicate k [D.int x]).flatten = iL (List.replicate k x) := by
  induction k with
  | zero => rfl
  | succ k ih => rw [List.replicate_succ, List.flatten_cons, ih]; rfl
theorem atI_nat {τ : Type} {xs : List τ} {i : Int} (h0 : 0 ≤ i) (h1 : i < xs.length) : atI xs i = some (xs[i.toNat]'(by omega)) := by
  unfold atI ixN
  rw [if_pos h0, if_pos h1]
  show xs[i.toNat]? = _
  exact List.getElem?_eq_getElem _
theorem seq_cut {Sa Sb : MS} {hp : List O} {env : List (Option S)} {n : Nat} {nx bk ct : PS → Prop} {rt : S → List O → Prop} {ex : MX} (Mid : List O → List (Option S) → Prop)
    (h1 : ∀ N : PS → Prop, (∀ hp' env', Mid hp' env' → N ⟨hp', env', n⟩) → Sa ⟨hp, env, n⟩ ⟨N, bk, ct, rt, ex⟩) (h2 : ∀ hp' env', Mid hp' env' → Sb ⟨hp', env', n⟩ ⟨nx, bk, ct, rt, ex⟩) : mSeq Sa Sb ⟨hp, env, n⟩ ⟨nx, bk, ct, rt, ex⟩ := h1 _ h2
theorem set_same {τ : Type} {hp : List τ} {n : Nat} {o : τ} (h : hp[n]? = some o) : hp.set n o = hp := by
  apply List.ext_getElem?
  intro i
  by_cases e : n = i
  · subst e
    rw [List.getElem?_set_self (List.getElem?_eq_some_iff.mp h).1, h]
  · rw [List.getElem?_set_ne e]
@[simp] theorem cpow_lit {i j : Int} (h0 : 0 ≤ j) (h1 : j ≤ 1000000) (h2 : -1000 ≤ i) (h3 : i ≤ 1000) : CPow i j = True := eq_true ⟨h0, h1, by omega⟩
@[simp] theorem take_set {τ : Type} {hp : List τ} {n : Nat} {o : τ} : (hp.set n o).take hp.length = hp.set n o := List.take_of_length_le (by simp)
theorem set_at {τ : Type} {hp : List τ} {n : Nat} {o : τ} (h : hp[n]? = some o) (o' : τ) : (hp.set n o')[n]? = some o' := List.getElem?_set_self (List.getElem?_eq_some_iff.mp h).1
theorem cut_nx {Sa : MS} {hp : List O} {env : List (Option S)} {n : Nat} {nx bk ct : PS → Prop} {rt : S → List O → Prop} {ex : MX} (Mid : List O → List (Option S) → Prop)
    (h1 : ∀ N : PS → Prop, (∀ hp' env', Mid hp' env' → N ⟨hp', env', n⟩) → Sa ⟨hp, env, n⟩ ⟨N, bk, ct, rt, ex⟩) (h2 : ∀ hp' env', Mid hp' env' → nx ⟨hp', env', n⟩) : Sa ⟨hp, env, n⟩ ⟨nx, bk, ct, rt, ex⟩ := h1 _ h2
theorem forH_of {v : Option Wk} {ds : List D} {G : MG} {Mb : MS} {hp : List O} {env : List (Option S)} {n : Nat} {nx bk ct : PS → Prop} {rt : S → List O → Prop} {ex : MX} {t : Tg (G, Mb, (⟨nx, bk, ct, rt, ex⟩ : MK))} (Iv : List D → List O → List (Option S) → Prop)
    (h0 : Iv ds hp env) (hs : ∀ d r hp env N, Iv (d :: r) hp env → (∀ hp' env', still v ds hp' → Iv r hp' env' → N ⟨hp', env', n⟩) → G (.d d) ⟨hp, env, n⟩ fun s1 => Mb s1 ⟨N, nx, N, rt, ex⟩) (hn : ∀ hp env, Iv [] hp env → nx ⟨hp, env, n⟩) : forH v ds G Mb hp env n ⟨nx, bk, ct, rt, ex⟩ t := by
  show forL v ds G Mb ds ⟨hp, env, n⟩ ⟨nx, bk, ct, rt, ex⟩
  have gen : ∀ (r : List D) hp env, Iv r hp env → forL v ds G Mb r ⟨hp, env, n⟩ ⟨nx, bk, ct, rt, ex⟩ := by
    intro r
    induction r with
    | nil => exact fun hp env h => hn hp env h
    | cons d r ih =>
      intro hp env h
      exact hs d r hp env (fun s2 => still v ds s2.hp ∧ forL v ds G Mb r s2 ⟨nx, bk, ct, rt, ex⟩) h fun hp' env' st h' => ⟨st, ih hp' env' h'⟩
  exact gen ds hp env h0
theorem whileH_of {Mt : MT} {Mb : MS} {hp : List O} {env : List (Option S)} {n : Nat} {nx bk ct : PS → Prop} {rt : S → List O → Prop} {ex : MX} {t : Tg (Mt, Mb, (⟨nx, bk, ct, rt, ex⟩ : MK))} (Iv : Nat → List O → List (Option S) → Prop) (m : Nat)
    (h0 : Iv m hp env) (hs : ∀ m hp env (N : PS → Prop), Iv m hp env → (∀ m' hp' env', m' < m → Iv m' hp' env' → N ⟨hp', env', n⟩) → Mt ⟨hp, env, n⟩ (fun b hp1 => brH b (Mb ⟨hp1, env, n⟩ ⟨N, nx, N, rt, ex⟩) (nx ⟨hp1, env, n⟩) .mk) ex) : whileH Mt Mb hp env n ⟨nx, bk, ct, rt, ex⟩ t := by
  show ∃ n', whileN Mt Mb n' ⟨hp, env, n⟩ ⟨nx, bk, ct, rt, ex⟩
  have gen : ∀ (f m : Nat) hp env, m < f → Iv m hp env → whileN Mt Mb f ⟨hp, env, n⟩ ⟨nx, bk, ct, rt, ex⟩ := by
    intro f
    induction f with
    | zero => exact fun m hp env h => absurd h (Nat.not_lt_zero _)
    | succ f ih => exact fun m hp env hm h => hs m hp env (fun s' => whileN Mt Mb f s' ⟨nx, bk, ct, rt, ex⟩) h fun m' hp' env' h1 h2 => ih m' hp' env' (by omega) h2
  exact ⟨m + 1, gen (m + 1) m hp env (Nat.lt_succ_self m) h0⟩
theorem compH_of {v : Option Wk} {ds : List D} {G : MG} {Me : ME} {env : List (Option S)} {hp : List O} {R : List D → List O → Prop} {t : Tg (G, mYes, Me, R)} (Iv : List D → List D → List O → Prop) (hb : ds.length ≤ sizeLine) (h0 : Iv [] ds hp)
    (hs : ∀ acc d r hp (N : D → List O → Prop), Iv acc (d :: r) hp → (∀ y hp', still v ds hp' → Iv (acc ++ [y]) r hp' → N y hp') → G (.d d) ⟨hp, env, hp.length⟩ fun s1 => Me s1 (fun y hp3 => onH (isD y) (fun dy => N dy hp3) .mk) noX)
    (hn : ∀ acc hp, Iv acc [] hp → R acc hp) : compH v ds G mYes Me env hp R t := by
  show compL v ds G mYes Me env ds [] hp R
  have gen : ∀ (r acc : List D) hp, acc.length + r.length ≤ sizeLine → Iv acc r hp → compL v ds G mYes Me env r acc hp R := by
    intro r
    induction r with
    | nil => exact fun acc hp _ h => hn acc hp h
    | cons d r ih =>
      intro acc hp hl h
      show G (.d d) ⟨hp, env, hp.length⟩ fun s1 => mYes s1 (fun b hp2 => if b = true then Me { s1 with hp := hp2 } (fun y hp3 => on (isD y) fun dy => acc.length < sizeLine ∧ still v ds hp3 ∧ compL v ds G mYes Me env r (acc ++ [dy]) hp3 R) noX else still v ds hp2 ∧ compL v ds G mYes Me env r acc hp2 R) noX
      have q := hs acc d r hp (fun dy hp3 => acc.length < sizeLine ∧ still v ds hp3 ∧ compL v ds G mYes Me env r (acc ++ [dy]) hp3 R) h fun y hp' st h' => by
        simp only [List.length_cons] at hl
        exact ⟨by omega, st, ih (acc ++ [y]) hp' (by simp; omega) h'⟩
      exact q
  exact gen ds [] hp (by simpa using hb) h0
@[simp] theorem lt_size {n : Nat} : (n < sizeLine) = (n < 16777216) := rfl
@[simp] theorem le_size {n : Nat} : (n ≤ sizeLine) = (n ≤ 16777216) := rfl
theorem isi1 {d : D} {m n : String} {b : Bool} {P : D → Prop} (h1 : tyN d = some n) (h2 : kitB n m = some b) : fIsi [d, .ty m] P = P (.bl b) := by simp [fIsi, two, h1, h2, asTy, asTup, on]
theorem isi2 {d : D} {l : List D} {ms : List String} {n : String} {b : Bool} {P : D → Prop} (h1 : tyN d = some n) (h0 : tyNames l = some ms) (h2 : isAny n ms = some b) : fIsi [d, .tup l] P = P (.bl b) := by simp [fIsi, two, h1, h0, h2, asTy, asTup, on]
section
variable {P : D → Prop} {b : Bool} {i : Int} {z : Str} {x : List D}
@[simp ↓] theorem isi_non_bool : fIsi [.non, .ty "bool"] P = P (.bl false) := isi1 rfl rfl
@[simp ↓] theorem isi_non_int : fIsi [.non, .ty "int"] P = P (.bl false) := isi1 rfl rfl
@[simp ↓] theorem isi_non_str : fIsi [.non, .ty "str"] P = P (.bl false) := isi1 rfl rfl
@[simp ↓] theorem isi_non_tuple : fIsi [.non, .ty "tuple"] P = P (.bl false) := isi1 rfl rfl
@[simp ↓] theorem isi_non_list : fIsi [.non, .ty "list"] P = P (.bl false) := isi1 rfl rfl
@[simp ↓] theorem isi_non_dict : fIsi [.non, .ty "dict"] P = P (.bl false) := isi1 rfl rfl
@[simp ↓] theorem isi_non_list_tuple : fIsi [.non, .tup [.ty "list", .ty "tuple"]] P = P (.bl false) := isi2 rfl rfl rfl
@[simp ↓] theorem isi_non_int_str : fIsi [.non, .tup [.ty "int", .ty "str"]] P = P (.bl false) := isi2 rfl rfl rfl
@[simp ↓] theorem isi_non_str_int : fIsi [.non, .tup [.ty "str", .ty "int"]] P = P (.bl false) := isi2 rfl rfl rfl
@[simp ↓] theorem isi_bl_bool : fIsi [(.bl b), .ty "bool"] P = P (.bl true) := isi1 rfl rfl
@[simp ↓] theorem isi_bl_int : fIsi [(.bl b), .ty "int"] P = P (.bl true) := isi1 rfl rfl
@[simp ↓] theorem isi_bl_str : fIsi [(.bl b), .ty "str"] P = P (.bl false) := isi1 rfl rfl
@[simp ↓] theorem isi_bl_tuple : fIsi [(.bl b), .ty "tuple"] P = P (.bl false) := isi1 rfl rfl
@[simp ↓] theorem isi_bl_list : fIsi [(.bl b), .ty "list"] P = P (.bl false) := isi1 rfl rfl
@[simp ↓] theorem isi_bl_dict : fIsi [(.bl b), .ty "dict"] P = P (.bl false) := isi1 rfl rfl
@[simp ↓] theorem isi_bl_list_tuple : fIsi [(.bl b), .tup [.ty "list", .ty "tuple"]] P = P (.bl false) := isi2 rfl rfl rfl
@[simp ↓] theorem isi_bl_int_str : fIsi [(.bl b), .tup [.ty "int", .ty "str"]] P = P (.bl true) := isi2 rfl rfl rfl
@[simp ↓] theorem isi_bl_str_int : fIsi [(.bl b), .tup [.ty "str", .ty "int"]] P = P (.bl true) := isi2 rfl rfl rfl
@[simp ↓] theorem isi_int_bool : fIsi [(.int i), .ty "bool"] P = P (.bl false) := isi1 rfl rfl
@[simp ↓] theorem isi_int_int : fIsi [(.int i), .ty "int"] P = P (.bl true) := isi1 rfl rfl
@[simp ↓] theorem isi_int_str : fIsi [(.int i), .ty "str"] P = P (.bl false) := isi1 rfl rfl
@[simp ↓] theorem isi_int_tuple : fIsi [(.int i), .ty "tuple"] P = P (.bl false) := isi1 rfl rfl
@[simp ↓] theorem isi_int_list : fIsi [(.int i), .ty "list"] P = P (.bl false) := isi1 rfl rfl
@[simp ↓] theorem isi_int_dict : fIsi [(.int i), .ty "dict"] P = P (.bl false) := isi1 rfl rfl
@[simp ↓] theorem isi_int_list_tuple : fIsi [(.int i), .tup [.ty "list", .ty "tuple"]] P = P (.bl false) := isi2 rfl rfl rfl
@[simp ↓] theorem isi_int_int_str : fIsi [(.int i), .tup [.ty "int", .ty "str"]] P = P (.bl true) := isi2 rfl rfl rfl
@[simp ↓] theorem isi_int_str_int : fIsi [(.int i), .tup [.ty "str", .ty "int"]] P = P (.bl true) := isi2 rfl rfl rfl
@[simp ↓] theorem isi_str_bool : fIsi [(.str z), .ty "bool"] P = P (.bl false) := isi1 rfl rfl
@[simp ↓] theorem isi_str_int : fIsi [(.str z), .ty "int"] P = P (.bl false) := isi1 rfl rfl
@[simp ↓] theorem isi_str_str : fIsi [(.str z), .ty "str"] P = P (.bl true) := isi1 rfl rfl
@[simp ↓] theorem isi_str_tuple : fIsi [(.str z), .ty "tuple"] P = P (.bl false) := isi1 rfl rfl
@[simp ↓] theorem isi_str_list : fIsi [(.str z), .ty "list"] P = P (.bl false) := isi1 rfl rfl
@[simp ↓] theorem isi_str_dict : fIsi [(.str z), .ty "dict"] P = P (.bl false) := isi1 rfl rfl
@[simp ↓] theorem isi_str_list_tuple : fIsi [(.str z), .tup [.ty "list", .ty "tuple"]] P = P (.bl false) := isi2 rfl rfl rfl
@[simp ↓] theorem isi_str_int_str : fIsi [(.str z), .tup [.ty "int", .ty "str"]] P = P (.bl true) := isi2 rfl rfl rfl
@[simp ↓] theorem isi_str_str_int : fIsi [(.str z), .tup [.ty "str", .ty "int"]] P = P (.bl true) := isi2 rfl rfl rfl
@[simp ↓] theorem isi_tup_bool : fIsi [(.tup x), .ty "bool"] P = P (.bl false) := isi1 rfl rfl
@[simp ↓] theorem isi_tup_int : fIsi [(.tup x), .ty "int"] P = P (.bl false) := isi1 rfl rfl
@[simp ↓] theorem isi_tup_str : fIsi [(.tup x), .ty "str"] P = P (.bl false) := isi1 rfl rfl
@[simp ↓] theorem isi_tup_tuple : fIsi [(.tup x), .ty "tuple"] P = P (.bl true) := isi1 rfl rfl
@[simp ↓] theorem isi_tup_list : fIsi [(.tup x), .ty "list"] P = P (.bl false) := isi1 rfl rfl
@[simp ↓] theorem isi_tup_dict : fIsi [(.tup x), .ty "dict"] P = P (.bl false) := isi1 rfl rfl
@[simp ↓] theorem isi_tup_list_tuple : fIsi [(.tup x), .tup [.ty "list", .ty "tuple"]] P = P (.bl true) := isi2 rfl rfl rfl
@[simp ↓] theorem isi_tup_int_str : fIsi [(.tup x), .tup [.ty "int", .ty "str"]] P = P (.bl false) := isi2 rfl rfl rfl
@[simp ↓] theorem isi_tup_str_int : fIsi [(.tup x), .tup [.ty "str", .ty "int"]] P = P (.bl false) := isi2 rfl rfl rfl
@[simp ↓] theorem isi_lst_bool : fIsi [(.lst x), .ty "bool"] P = P (.bl false) := isi1 rfl rfl
@[simp ↓] theorem isi_lst_int : fIsi [(.lst x), .ty "int"] P = P (.bl false) := isi1 rfl rfl
@[simp ↓] theorem isi_lst_str : fIsi [(.lst x), .ty "str"] P = P (.bl false) := isi1 rfl rfl
@[simp ↓] theorem isi_lst_tuple : fIsi [(.lst x), .ty "tuple"] P = P (.bl false) := isi1 rfl rfl
@[simp ↓] theorem isi_lst_list : fIsi [(.lst x), .ty "list"] P = P (.bl true) := isi1 rfl rfl
@[simp ↓] theorem isi_lst_dict : fIsi [(.lst x), .ty "dict"] P = P (.bl false) := isi1 rfl rfl
@[simp ↓] theorem isi_lst_list_tuple : fIsi [(.lst x), .tup [.ty "list", .ty "tuple"]] P = P (.bl true) := isi2 rfl rfl rfl
@[simp ↓] theorem isi_lst_int_str : fIsi [(.lst x), .tup [.ty "int", .ty "str"]] P = P (.bl false) := isi2 rfl rfl rfl
@[simp ↓] theorem isi_lst_str_int : fIsi [(.lst x), .tup [.ty "str", .ty "int"]] P = P (.bl false) := isi2 rfl rfl rfl
@[simp ↓] theorem isi_fl_bool : fIsi [(.fl x), .ty "bool"] P = P (.bl false) := isi1 rfl rfl
@[simp ↓] theorem isi_fl_int : fIsi [(.fl x), .ty "int"] P = P (.bl false) := isi1 rfl rfl
@[simp ↓] theorem isi_fl_str : fIsi [(.fl x), .ty "str"] P = P (.bl false) := isi1 rfl rfl
@[simp ↓] theorem isi_fl_tuple : fIsi [(.fl x), .ty "tuple"] P = P (.bl false) := isi1 rfl rfl
@[simp ↓] theorem isi_fl_list : fIsi [(.fl x), .ty "list"] P = P (.bl true) := isi1 rfl rfl
@[simp ↓] theorem isi_fl_dict : fIsi [(.fl x), .ty "dict"] P = P (.bl false) := isi1 rfl rfl
@[simp ↓] theorem isi_fl_list_tuple : fIsi [(.fl x), .tup [.ty "list", .ty "tuple"]] P = P (.bl true) := isi2 rfl rfl rfl
@[simp ↓] theorem isi_fl_int_str : fIsi [(.fl x), .tup [.ty "int", .ty "str"]] P = P (.bl false) := isi2 rfl rfl rfl
@[simp ↓] theorem isi_fl_str_int : fIsi [(.fl x), .tup [.ty "str", .ty "int"]] P = P (.bl false) := isi2 rfl rfl rfl
end
theorem walkO_of {hp : List O} {s : S} {ds : List D} (h : val hp s = some (.lst ds)) : ∃ v, walkO hp s = some (v, ds) ∧ still v ds hp ∧ ∀ m, v = some m → m.ix < hp.length := by
  cases s with
  | d d => cases h; exact ⟨none, rfl, trivial, fun _ z => by cases z⟩
  | mu m =>
    rw [val_O] at h
    cases g : hp[m]? with
    | none => rw [g] at h; cases h
    | some o =>
      rw [g] at h
      cases o with
      | lst es =>
        cases h
        refine ⟨some (.mu m), ?_, g, fun _ z => by cases z; exact (List.getElem?_eq_some_iff.mp g).1⟩
        simp [g]
      | _ => cases h
  | ob n k =>
    rw [val_ob] at h
    cases g : nodeDs hp n k with
    | none => rw [g] at h; cases h
    | some es =>
      rw [g] at h
      cases h
      refine ⟨some (.ob n k), by simp [g], g, fun _ z => ?_⟩
      cases z
      unfold nodeDs at g
      split at g
      · rename_i xs e
        obtain ⟨gs, e1, _⟩ := nodeAt_some e
        exact (List.getElem?_eq_some_iff.mp e1).1
      · cases g
  | exn _ _ _ _ => cases h
end Mp
set_option Elab.async false
set_option linter.all false
set_option maxRecDepth 100000
set_option maxHeartbeats 400000
namespace Mp
open PySem PySem.Spec PyProof.Rows L2
section
variable {v : Option Wk} {all ds acc : List D} {d : D} {G : MG} {Mt : MT} {Me : ME} {env : List (Option S)} {hp : List O} {n : Nat} {R : List D → List O → Prop}
@[simp ↓] theorem x_compC : compL v all G Mt Me env (d :: ds) acc hp R = G (.d d) ⟨hp, env, hp.length⟩ fun s1 => Mt s1 (fun b hp2 => brH b (Me ⟨hp2, s1.env, s1.n0⟩ (fun y hp3 => onH (isD y) (fun dy => acc.length < sizeLine ∧ still v all hp3 ∧ compL v all G Mt Me env ds (acc ++ [dy]) hp3 R) .mk) noX)
      (still v all hp2 ∧ compL v all G Mt Me env ds acc hp2 R) .mk) noX := nr rfl
@[simp ↓] theorem x_compN : compL v all G Mt Me env [] acc hp R = R acc hp := nr rfl
end
section
variable {v : Option Wk} {all ds : List D} {d : D} {G : MG} {Mb : MS} {hp : List O} {env : List (Option S)} {n : Nat} {k : MK}
theorem forH_L {t : Tg (G, Mb, k)} (h : forL v ds G Mb ds ⟨hp, env, n⟩ k) : forH v ds G Mb hp env n k t := h
variable {nx bk ct : PS → Prop} {rt : S → List O → Prop} {ex : MX}
@[simp ↓] theorem x_forC : forL v all G Mb (d :: ds) ⟨hp, env, n⟩ ⟨nx, bk, ct, rt, ex⟩ = G (.d d) ⟨hp, env, n⟩ fun s1 => Mb s1 ⟨fun s2 => still v all s2.hp ∧ forL v all G Mb ds s2 ⟨nx, bk, ct, rt, ex⟩, nx, fun s2 => still v all s2.hp ∧ forL v all G Mb ds s2 ⟨nx, bk, ct, rt, ex⟩, rt, ex⟩ := nr rfl
@[simp ↓] theorem x_forN : forL v all G Mb [] ⟨hp, env, n⟩ ⟨nx, bk, ct, rt, ex⟩ = nx ⟨hp, env, n⟩ := nr rfl
end
theorem forH_rng {lo c : Int} {m : Nat} {G : MG} {Mb : MS} {hp : List O} {env : List (Option S)} {n : Nat} {nx bk ct : PS → Prop} {rt : S → List O → Prop} {ex : MX} {t : Tg (G, Mb, (⟨nx, bk, ct, rt, ex⟩ : MK))} (Iv : Nat → List O → List (Option S) → Prop)
    (h0 : Iv 0 hp env) (hs : ∀ (i : Nat) hp env (N : PS → Prop), i < m → Iv i hp env → (∀ hp' env', Iv (i + 1) hp' env' → N ⟨hp', env', n⟩) → G (.d (.int (lo + (i : Int) * c))) ⟨hp, env, n⟩ fun s1 => Mb s1 ⟨N, nx, N, rt, ex⟩) (hn : ∀ hp env, Iv m hp env → nx ⟨hp, env, n⟩) :
    forH none (rng lo c m) G Mb hp env n ⟨nx, bk, ct, rt, ex⟩ t := by
  refine forH_of (fun ds hp env => ∃ i, i ≤ m ∧ ds = (rng lo c m).drop i ∧ Iv i hp env) ⟨0, Nat.zero_le _, by simp, h0⟩ ?_ ?_
  · rintro d r hp env N ⟨i, hi, e, h⟩ hN
    have hlt : i < m := by
      by_cases z : i < m
      · exact z
      · rw [List.drop_eq_nil_of_le (by rw [rng_len]; omega)] at e
        cases e
    have e2 : (rng lo c m)[i]'(by rw [rng_len]; exact hlt) = D.int (lo + (i : Int) * c) := by simp [rng]
    rw [List.drop_eq_getElem_cons (by rw [rng_len]; exact hlt), e2] at e
    cases e
    exact hs i hp env N hlt h fun hp' env' h' => hN hp' env' trivial ⟨i + 1, by omega, rfl, h'⟩
  · rintro hp env ⟨i, hi, e, h⟩
    have hl := congrArg List.length e
    rw [List.length_drop, rng_len] at hl
    have hie : i = m := by simp at hl; omega
    subst hie
    exact hn hp env h
theorem forH_ints {v : Option Wk} {xs : List Int} {G : MG} {Mb : MS} {hp : List O} {env : List (Option S)} {n : Nat} {nx bk ct : PS → Prop} {rt : S → List O → Prop} {ex : MX} {t : Tg (G, Mb, (⟨nx, bk, ct, rt, ex⟩ : MK))} (Iv : List Int → List Int → List O → List (Option S) → Prop)
    (h0 : Iv [] xs hp env) (hs : ∀ (l : List Int) (x : Int) (r : List Int) hp env (N : PS → Prop), xs = l ++ x :: r → Iv l (x :: r) hp env → (∀ hp' env', still v (iL xs) hp' → Iv (l ++ [x]) r hp' env' → N ⟨hp', env', n⟩) → G (.d (.int x)) ⟨hp, env, n⟩ fun s1 => Mb s1 ⟨N, nx, N, rt, ex⟩)
    (hn : ∀ hp env, Iv xs [] hp env → nx ⟨hp, env, n⟩) : forH v (iL xs) G Mb hp env n ⟨nx, bk, ct, rt, ex⟩ t := by
  refine forH_of (fun ds hp env => ∃ l r, xs = l ++ r ∧ ds = iL r ∧ Iv l r hp env) ⟨[], xs, rfl, rfl, h0⟩ ?_ ?_
  · rintro d ds hp env N ⟨l, r, e1, e2, h⟩ hN
    cases r with
    | nil => cases e2
    | cons x r =>
      cases e2
      exact hs l x r hp env N e1 h fun hp' env' st h' => hN hp' env' st ⟨l ++ [x], r, by rw [e1]; simp, rfl, h'⟩
  · rintro hp env ⟨l, r, e1, e2, h⟩
    cases r with
    | nil => rw [List.append_nil] at e1; subst e1; exact hn hp env h
    | cons x r => cases e2
@[simp] theorem wipeE_nil {env : List (Option S)} : wipeE env [] = env := rfl
@[simp] theorem wipeE_cons {env : List (Option S)} {v : Nat} {vs : List Nat} : wipeE env (v :: vs) = (wipeE env vs).set v none := rfl
theorem val_app {hp l : List O} {s : S} {d : D} (h : val hp s = some d) : val (hp ++ l) s = some d := by
  cases s with
  | d x => exact h
  | mu m =>
    rw [val_O] at h ⊢
    cases g : hp[m]? with
    | none => rw [g] at h; cases h
    | some o =>
      rw [List.getElem?_append_left (List.getElem?_eq_some_iff.mp g).1, g]
      rw [g] at h
      exact h
  | ob n k =>
    rw [val_ob] at h ⊢
    have : ∀ ds, nodeDs hp n k = some ds → nodeDs (hp ++ l) n k = some ds := fun ds g => by
      unfold nodeDs nodeAt at g ⊢
      cases q : hp[n]? with
      | none => simp only [q] at g; cases g
      | some o =>
        rw [List.getElem?_append_left (List.getElem?_eq_some_iff.mp q).1, q]
        rw [q] at g
        exact g
    cases g : nodeDs hp n k with
    | none => rw [g] at h; cases h
    | some ds => rw [this ds g]; rw [g] at h; exact h
  | exn _ _ _ _ => cases h
@[simp] theorem sIx_none {n d : Nat} : HT.sIx n d none = d := rfl
@[simp ↓] theorem app_at1 {τ : Type} {hp : List τ} {x : τ} : (hp ++ [x])[hp.length]? = some x := by simp
@[simp ↓] theorem app_at2 {τ : Type} {hp : List τ} {n : Nat} {o x : τ} : (hp.set n o ++ [x])[hp.length]? = some x := by rw [List.getElem?_append_right (by simp)]; simp
@[simp ↓] theorem app_set1 {τ : Type} {hp : List τ} {x y : τ} : (hp ++ [x]).set hp.length y = hp ++ [y] := by rw [List.set_append_right _ _ (by simp)]; simp
@[simp ↓] theorem app_set2 {τ : Type} {hp : List τ} {n : Nat} {o x y : τ} : (hp.set n o ++ [x]).set hp.length y = hp.set n o ++ [y] := by rw [List.set_append_right _ _ (by simp)]; simp
def Bd (lo hi : Int) (xs : List Int) : Prop := ∀ x ∈ xs, lo ≤ x ∧ x ≤ hi
theorem Bd.nil {lo hi : Int} : Bd lo hi [] := fun _ h => by simp at h
theorem Bd.app {lo hi x : Int} {xs : List Int} (h : Bd lo hi xs) (h1 : lo ≤ x) (h2 : x ≤ hi) : Bd lo hi (xs ++ [x]) := fun y hy => by
  rcases List.mem_append.mp hy with hy | hy
  · exact h y hy
  · simp at hy; subst hy; exact ⟨h1, h2⟩
theorem Bd.set {lo hi x : Int} {xs : List Int} {j : Nat} (h : Bd lo hi xs) (h1 : lo ≤ x) (h2 : x ≤ hi) : Bd lo hi (xs.set j x) := fun y hy => by
  rcases List.mem_or_eq_of_mem_set hy with hy | hy
  · exact h y hy
  · subst hy; exact ⟨h1, h2⟩
theorem Bd.ix {lo hi i : Int} {xs : List Int} (h : Bd lo hi xs) (h0 : 0 ≤ i) (h1 : i < xs.length) : ∃ y, atI xs i = some y ∧ lo ≤ y ∧ y ≤ hi := ⟨_, atI_nat h0 h1, h _ (List.getElem_mem _)⟩
theorem ixN_nat {n : Nat} {i : Int} (h0 : 0 ≤ i) (h1 : i < n) : ixN n i = some i.toNat := by
  unfold ixN
  rw [if_pos h0, if_pos h1]
theorem ixN_last {n : Nat} (h : 0 < n) : ixN n (-1) = some (n - 1) := by
  unfold ixN
  rw [if_neg (by omega), if_pos (by omega)]
  congr 1
  omega
@[simp ↓] theorem app_at0 {τ : Type} {hp l : List τ} : (hp ++ l)[hp.length]? = l[0]? := by rw [List.getElem?_append_right (by simp)]; simp
@[simp ↓] theorem app_atk {τ : Type} {hp l : List τ} {k : Nat} : (hp ++ l)[hp.length + k]? = l[k]? := by rw [List.getElem?_append_right (by simp)]; simp
@[simp ↓] theorem app_set0 {τ : Type} {hp l : List τ} {y : τ} : (hp ++ l).set hp.length y = hp ++ l.set 0 y := by rw [List.set_append_right _ _ (by simp)]; simp
@[simp ↓] theorem app_setk {τ : Type} {hp l : List τ} {k : Nat} {y : τ} : (hp ++ l).set (hp.length + k) y = hp ++ l.set k y := by rw [List.set_append_right _ _ (by simp)]; simp
@[simp] theorem take_app {τ : Type} {hp l : List τ} : (hp ++ l).take hp.length = hp := List.take_left' rfl
@[simp] theorem take_app2 {τ : Type} {hp l : List τ} {n : Nat} {o : τ} : (hp.set n o ++ l).take hp.length = hp.set n o := List.take_left' (by simp)
theorem at_app {τ : Type} {hp : List τ} {a : Nat} {o : τ} (h : hp[a]? = some o) (l : List τ) : (hp ++ l)[a]? = some o := by rw [List.getElem?_append_left (List.getElem?_eq_some_iff.mp h).1, h]
@[simp] theorem iL_rep2 {k : Nat} {x : Int} : List.replicate k (D.int x) = iL (List.replicate k x) := (List.map_replicate ..).symm
theorem compH_map {v : Option Wk} {ds : List D} {G : MG} {Me : ME} {env : List (Option S)} {hp : List O} {R : List D → List O → Prop} {t : Tg (G, mYes, Me, R)} (F : D → D) (hst : still v ds hp) (hb : ds.length ≤ sizeLine)
    (hs : ∀ d ∈ ds, ∀ N : D → List O → Prop, N (F d) hp → G (.d d) ⟨hp, env, hp.length⟩ fun s1 => Me s1 (fun y hp3 => onH (isD y) (fun dy => N dy hp3) .mk) noX) (hn : R (ds.map F) hp) : compH v ds G mYes Me env hp R t := by
  refine compH_of (fun acc rest hp' => hp' = hp ∧ (∀ d ∈ rest, d ∈ ds) ∧ acc ++ rest.map F = ds.map F) hb ⟨rfl, fun _ h => h, rfl⟩ ?_ ?_
  · rintro acc d r _ N ⟨rfl, hm, e⟩ hN
    exact hs d (hm d List.mem_cons_self) N (hN _ _ hst ⟨rfl, fun x hx => hm x (List.mem_cons_of_mem _ hx), by rw [List.append_assoc]; exact e⟩)
  · rintro acc _ ⟨rfl, _, e⟩
    rw [List.map_nil, List.append_nil] at e
    rw [e]
    exact hn
end Mp
set_option Elab.async false
set_option linter.all false
set_option maxRecDepth 100000
set_option maxHeartbeats 4000000
namespace Mp
open PySem PySem.Spec PyProof.Rows L2
def blsD : List D → Option (List Bool)
  | [] => some []
  | .bl b :: r => (blsD r).bind fun l => some (b :: l)
  | _ => none
theorem bls_ok {K : Frag} {A : Av} {H : Hp} : ∀ {ds : List D} {vs : List V} {l : List Bool}, RepL K A H ds vs → blsD ds = some l → vs = l.map V.bl
  | [], _, l, h, e => by cases h; cases e; rfl
  | d :: ds, _, l, ⟨v, t, e0, h, ht⟩, e => by
    subst e0
    cases d with
    | bl b =>
      have e1 : ((blsD ds).bind fun l => some (b :: l)) = some l := e
      cases g : blsD ds with
      | none => rw [g] at e1; cases e1
      | some l' =>
        rw [g] at e1
        cases e1
        cases (show v = .bl b from h)
        rw [bls_ok ht g]
        rfl
    | _ => cases e
def lstD : D → Option (List D)
  | .lst ds => some ds
  | _ => none
theorem lstD_rep {K : Frag} {A : Av} {H : Hp} {d : D} {v : V} {ds : List D} (h : RepT K A H d v) (e : lstD d = some ds) : ∃ a vs, v = .ref a ∧ SqL K H a vs ∧ RepL K A H ds vs := by
  cases d with
  | lst ds => cases e; obtain ⟨a, vs, e1, h1, r⟩ := h; exact ⟨a, vs, e1, .inl (.inl h1), r⟩
  | _ => cases e
def fQ (q : List Bool → Bool) : FN := fun ds P => one ds fun d => on (lstD d) fun xs => on (blsD xs) fun l => P (.bl (q l))
def rQ (K : Frag) (q : List Bool → Bool) : List V → Hp → VK → Prop := fun vs H Q => ∃ (a : Addr) (bs : List Bool), vs = [V.ref a] ∧ SqL K H a (bs.map V.bl) ∧ Q (.bl (q bs)) H
theorem sim_q {K : Frag} {q : List Bool → Bool} : SimN K (rQ K q) (fQ q) := by
  intro A H ds vs hA r P p Q hq
  obtain ⟨d, v, rfl, r, p⟩ := p.ex r
  obtain ⟨xs, e, p⟩ := on.ex p
  obtain ⟨l, e2, p⟩ := on.ex p
  obtain ⟨a, vs, rfl, h, r2⟩ := lstD_rep r e
  cases bls_ok r2 e2
  exact ⟨a, l, rfl, h, hq _ _ _ p rfl (.inl rfl)⟩
section
variable {X : Cx} {W : WX} {a b c e : Expr} {es : List Expr} {pos : Pos} {ta tb tc te : TE} {Ma Mb Mc Me : ME} {tA : TA} {MA' : MA}
theorem call_any (K : Frag) (hc : X.calm = true) (hK : X.K = K := by rfl) : CallR X (.builtin "any") (rQ K fun l => l.any id) := by subst hK; exact cr_any hc
end
section
variable {hp : List O} {env : List (Option S)} {n : Nat} {Ma : ME} {nx bk ct : PS → Prop} {rt : S → List O → Prop} {ex : MX}
def bL (xs : List Bool) : List D := xs.map D.bl
@[simp] theorem blsD_bL : ∀ {xs : List Bool}, blsD (bL xs) = some xs
  | [] => rfl
  | b :: xs => by
    show ((blsD (bL xs)).bind fun l => some (b :: l)) = _
    rw [blsD_bL]
    rfl
@[simp ↓] theorem xfQ {q : List Bool → Bool} {x : List D} {P : D → Prop} : fQ q [.lst x] P = onH (blsD x) (fun l => P (.bl (q l))) .mk := nr rfl
end
def mRev (Ma : ME) : ME := fun s R Xp => Ma s (fun x hp1 => on (val hp1 x) fun d => on (slOf d) fun ds => R (.d (.lst ds.reverse)) hp1) Xp
theorem slOf_rep {K : Frag} {A : Av} {H : Hp} {d : D} {v : V} {ds : List D} (h : RepT K A H d v) (e : slOf d = some ds) : ∃ a vs, v = .ref a ∧ SqL K H a vs ∧ RepL K A H ds vs := by
  cases d with
  | lst ds => cases e; obtain ⟨a, vs, e1, h1, r⟩ := h; exact ⟨a, vs, e1, .inl (.inl h1), r⟩
  | fl ds => cases e; exact fl_sq (h : Rep K A H (.fl _) v)
  | _ => cases e
theorem RepL.rev {K : Frag} {A : Av} {H : Hp} : ∀ {ds : List D} {vs : List V}, RepL K A H ds vs → RepL K A H ds.reverse vs.reverse
  | [], _, h => by cases h; rfl
  | d :: ds, _, ⟨v, r, e, h1, h2⟩ => by
    subst e
    rw [List.reverse_cons, List.reverse_cons]
    exact (RepL.rev h2).append ⟨v, [], rfl, h1, rfl⟩
theorem sim_rev {K : Frag} {W : WX} {t : TE} {Ma : ME} (ha : SimE K W t Ma) : SimE K W (tRevL K t) (mRev Ma) := by
  intro α s H σ w e R Xp m Q q qx
  refine ha α s H σ w e _ _ m _ (fun x hp1 α1 H1 v1 m1 e1 w1 r1 => ?_) qx
  obtain ⟨d, g1, m1⟩ := on.ex m1
  obtain ⟨ds, g2, m1⟩ := on.ex m1
  obtain ⟨a, vs, rfl, h1, r⟩ := slOf_rep (r1.val w1 g1) g2
  refine ⟨a, vs, rfl, h1, fun l hl => ?_⟩
  obtain ⟨e4, w4⟩ := w1.grown (.inr ⟨l, .lst vs.reverse, hl, rfl⟩)
  exact q _ _ α1 _ _ m1 (e1.trans e4) w4 (new_lst w1.non hl r.rev)
def mAddM (Ma Mb : ME) : ME := fun s R Xp => Ma s (fun x hp1 => Mb { s with hp := hp1 } (fun y hp2 => on (val hp2 x) fun d1 => on (val hp2 y) fun d2 => on (lstD d1) fun xs => on (lstD d2) fun ys => xs.length + ys.length ≤ sizeLine ∧ R (.mu hp2.length) (hp2 ++ [.lst (xs ++ ys)])) Xp) Xp
theorem sim_addM {K : Frag} {W : WX} {ta tb : TE} {Ma Mb : ME} (ha : SimE K W ta Ma) (hb : SimE K W tb Mb) : SimE K W (tOp (rAddA K) ta tb) (mAddM Ma Mb) := by
  intro α s H σ w e R Xp m Q q qx
  refine ha α s H σ w e _ _ m _ (fun x hp1 α1 H1 v1 m1 e1 w1 r1 => ?_) qx
  refine hb α1 { s with hp := hp1 } H1 σ w1 (e.mono e1) _ _ m1 _ (fun y hp2 α2 H2 v2 m2 e2 w2 r2 => ?_) (qx.at e1)
  obtain ⟨d1, g1, m2⟩ := on.ex m2
  obtain ⟨d2, g2, m2⟩ := on.ex m2
  obtain ⟨xs, g3, m3⟩ := on.ex m2
  obtain ⟨ys, g4, hz, m4⟩ := on.ex m3
  have t1 := (r1.mono e2).val w2 g1
  have t2 := r2.val w2 g2
  cases d1 with
  | lst xs' =>
    cases g3
    cases d2 with
    | lst ys' =>
      cases g4
      obtain ⟨a, vs, rfl, h1, k1⟩ := t1
      obtain ⟨b, us, rfl, h2, k2⟩ := t2
      refine .inr (.inr (.inl ⟨a, b, vs, us, rfl, rfl, h1, h2, by rw [← k1.length, ← k2.length]; exact hz, fun l hl => ?_⟩))
      obtain ⟨α3, w3, e3, r3⟩ := new_mu w2 hl (k1.append k2)
      exact q _ _ α3 _ _ m4 ((e1.trans e2).trans e3) w3 r3
    | _ => cases g4
  | _ => cases g3
section
variable {X : Cx} {W : WX} {a b c e : Expr} {pos : Pos} {ta tb : TE} {Ma Mb : ME}
theorem de_rev (K : Frag) {k : Nat} {p1 p2 p3 : Pos} (ha : DE X W a ta Ma) (hK : X.K = K := by rfl) : DE X W (.Subscript a (.Slice none none (some (.UnaryOp .USub (.Constant (.int 1) k p1) p2)) p3) pos) (tRevL K ta) (mRev Ma) := by subst hK; exact ⟨pe_revL ha.p, sim_rev ha.s⟩
theorem de_addM (K : Frag) (ha : DE X W a ta Ma) (hb : DE X W b tb Mb) (hK : X.K = K := by rfl) : DE X W (.BinOp a .Add b pos) (tOp (rAddA K) ta tb) (mAddM Ma Mb) := by subst hK; exact ⟨pe_op op_addA ha.p hb.p, sim_addM ha.s hb.s⟩
end
section
variable {hp : List O} {env : List (Option S)} {n : Nat} {R : S → List O → Prop} {Xp : MX} {Ma Mb : ME} {P : D → Prop}
@[simp ↓] theorem x_rev : mRev Ma ⟨hp, env, n⟩ R Xp = Ma ⟨hp, env, n⟩ (fun x hp1 => onH (val hp1 x) (fun d => onH (slOf d) (fun ds => R (.d (.lst ds.reverse)) hp1) .mk) .mk) Xp := nr rfl
@[simp] theorem lstD_lst {ds : List D} : lstD (.lst ds) = some ds := rfl
@[simp ↓] theorem x_addM : mAddM Ma Mb ⟨hp, env, n⟩ R Xp = Ma ⟨hp, env, n⟩ (fun x hp1 => Mb ⟨hp1, env, n⟩ (fun y hp2 => onH (val hp2 x) (fun d1 => onH (val hp2 y) (fun d2 => onH (lstD d1) (fun xs => onH (lstD d2) (fun ys => xs.length + ys.length ≤ sizeLine ∧ R (.mu hp2.length) (hp2 ++ [.lst (xs ++ ys)])) .mk) .mk) .mk) .mk) Xp) Xp := nr rfl
end
end Mp
set_option Elab.async false
set_option linter.all false
set_option maxRecDepth 100000
set_option maxHeartbeats 4000000
namespace Mp
open PySem PySem.Spec PyProof.Rows L2
structure XcOk (P : Program) (K : Frag) (C f cc cda : Addr) (qual : Str) (params : Arguments) (body : List Stmt) (scope : Scope) (fd : FuncData) (ns : List Str) : Prop where
  ox : OexC K C
  fn : ∃ oc od kV doc pm an ct osl, fd = PySem.W.ksFn "__init__" qual params body scope .none kV doc pm an (.ref cda) ct cc ∧ K.lookup f = some ⟨oc, od, .func fd, osl⟩
  cd : PySem.W.codeIn K (.ref cda) qual = true
  code : ∃ ccl cdd vs ccs file tf, K.lookup cda = some ⟨ccl, cdd, .fields vs, ccs⟩ ∧ vs[2]? = some (.str file tf) ∧ ((P.main.file : Str) == file) = true
  cell : ∃ cl cld csl, K.lookup cc = some ⟨cl, cld, .cell (some (.ref C)), csl⟩
  pl : ∀ x ∈ ns, PySem.W.findIn K (.ref C) x = some none
  op : PySem.W.nsIn K cStatics "thirdparty.any" = some none
  su : PySem.W.ks_superIn K C C "__init__" = some (some (.builtin "ValueError.__init__"))
  ve : PySem.W.subIn K (.ref C) (.type "ValueError") = some true
  sup : PySem.W.mroIn K C (.ref C) = some true
structure XcSc (P : Program) (params : Arguments) (scope : Scope) (ns : List Str) : Prop where
  kind : scope.kind = .function
  co : scope.isCoroutine = false
  gen : scope.isGenerator = false
  nocell : ∀ y ∈ scope.names, y.2 ≠ .cell
  free : ∀ y ∈ scope.names, y.2 = .free → y.1 = ("__class__" : Str)
  self : scope.names.lookup ("self" : Str) = some .local
  fld : ∀ x ∈ ns, scope.names.lookup x = some .local
  nd : (("self" : Str) :: ns).Nodup
  sup : scope.names.lookup ("super" : Str) = some .globalImplicit
  cls : scope.names.lookup ("__class__" : Str) = some .free
  hd : ∃ ar, (params.posonlyargs ++ params.args).head? = some ar ∧ ar.arg = ("self" : Str)
  top : (P.main.scope.names.lookup ("super" : Str)).isSome = false
def spXN (C : Addr) (ns : List Str) (Wp : List V → Hp → Prop) : Sp := fun vs H Q _ => ∃ (a : Addr) (ws : List V), vs = .ref a :: ws ∧ ws.length = ns.length ∧ Wp ws H ∧ H a = some (exo a C none) ∧
  ∀ dx, H dx = none → dx ≠ a → Q .non (upd (upd H dx (exd dx (ns.zip ws).reverse)) a (exo a C (some dx)))
end Mp
set_option Elab.async false
set_option linter.all false
set_option maxRecDepth 100000
set_option maxHeartbeats 4000000
namespace Mp
open PySem PySem.Spec PyProof.Rows L2 HandSPX
structure Air (X : Cx) (pins : List (Addr × Obj)) (σ : L2.St) (H : Hp) (a : Addr) (cls : Value) (d : Option Addr) (B : Heap) (sI s : Shared) : Prop where
  inv : Inv X pins σ H sI
  ground : ∀ b o, sI.heap.get? b = some o → b ∉ frs X.stack → B.get? b = some o
  up : sI.heap.UpToSlots s.heap
  fly : FlyingZ B (X.env :: X.outer) a (Zc cls d) s.heap
  na : H a = none
  os : s.os = sI.os
  bare : AllBare s.gens
namespace Air
variable {X : Cx} {pins : List (Addr × Obj)} {σ : L2.St} {H : Hp} {a : Addr} {cls : Value} {d : Option Addr} {B : Heap} {sI s : Shared}
theorem here (z : Air X pins σ H a cls d B sI s) : Inv X pins σ H s := z.inv.landed z.ground z.fly.1 z.up z.os z.bare
theorem apart (hf : X.env.frame = some X.env.locals) (z : Air X pins σ H a cls d B sI s) : a ∉ frs (X.env :: X.outer) := fun hm => by
  obtain ⟨oe, vs, h1, _, h3⟩ := z.fly.there
  obtain ⟨_, ob, h4, h5⟩ := z.fly.2.2.1.mem hm
  have e := h1.symm.trans h4
  cases e
  exact h5 _ h3
theorem suite (hf : X.env.frame = some X.env.locals) (z : Air X pins σ H a cls d B sI s) : ∃ oe vs, s.heap.get? a = some oe ∧ Zc cls d oe ∧ oe.data = .fields vs ∧ Inv (X.suite a ((a, oe) :: (X.pn ++ pins))) [] σ H s := by
  obtain ⟨oe, vs, h1, h2, h3⟩ := z.fly.there
  have n := z.apart hf
  refine ⟨oe, vs, h1, h2, h3, z.here.suite h1 h3 z.na (fun e => n ?_) fun hm => n ?_⟩
  · exact List.mem_filterMap.mpr ⟨X.env, by simp, hf.trans (congrArg some e.symm)⟩
  · obtain ⟨e, h4, h5⟩ := List.mem_filterMap.mp hm
    exact List.mem_filterMap.mpr ⟨e, by simp [h4], h5⟩
end Air
def TstOk (X : Cx) (t : Expr) (mt : Value → Option Bool) : Prop := ∀ {a : Addr} {oe : Obj} {pn : List (Addr × Obj)} {σ : L2.St} {H : Hp} {s : Shared} {cls : Value} {b : Bool} {R : Bool → Shared → Prop} {E : Value → Shared → Prop},
  Inv (X.suite a ((a, oe) :: pn)) [] σ H s → PySem.W.Looks (model X.prog X.w) s.heap (typeOf (.ref a)) cls → X.K.In s.heap → mt cls = some b → (∀ h', (∀ q o, s.heap.get? q = some o → h'.get? q = some o) → R b { s with heap := h' }) →
  wpAny (model X.prog X.w) (X.A.mark (some (.ref a))) (eval t X.env) (fun c s1 => wpAny (model X.prog X.w) (X.A.mark (some (.ref a))) (excMatches (.ref a) c) R E s1) E s
structure HdT where
  mt : Value → Option Bool
  i : Option Nat
  ts : Addr → Value → Option Addr → TS
inductive HsOk (X : Cx) : List ExceptHandler → List HdT → Prop
  | nil : HsOk X [] []
  | cons {t : Expr} {n : Str} {mt : Value → Option Bool} {i : Nat} {ts : Addr → Value → Option Addr → TS} {b0 : Stmt} {suite : List Stmt} {pos : Pos} {hds : List ExceptHandler} {l : List HdT} (hi : X.N[i]? = some n) (hl : X.env.kindOf n = some .local) (ht : TstOk X t mt)
      (hsu : ∀ (a : Addr) (oe : Obj) (cls : Value) (d : Option Addr) (pn : List (Addr × Obj)), Zc cls d oe → (∃ vs, oe.data = .fields vs) → PSs (X.suite a ((a, oe) :: pn)) (b0 :: suite) (ts a cls d)) (r : HsOk X hds l) :
      HsOk X (.ExceptHandler (some t) (some n) (b0 :: suite) pos :: hds) (⟨mt, some i, ts⟩ :: l)
  | anon {t : Expr} {mt : Value → Option Bool} {ts : Addr → Value → Option Addr → TS} {b0 : Stmt} {suite : List Stmt} {pos : Pos} {hds : List ExceptHandler} {l : List HdT} (ht : TstOk X t mt)
      (hsu : ∀ (a : Addr) (oe : Obj) (cls : Value) (d : Option Addr) (pn : List (Addr × Obj)), Zc cls d oe → (∃ vs, oe.data = .fields vs) → PSs (X.suite a ((a, oe) :: pn)) (b0 :: suite) (ts a cls d)) (r : HsOk X hds l) :
      HsOk X (.ExceptHandler (some t) none (b0 :: suite) pos :: hds) (⟨mt, none, ts⟩ :: l)
section
variable {X : Cx} {pins : List (Addr × Obj)} {σ : L2.St} {H : Hp} {a : Addr} {cls : Value} {d : Option Addr} {B : Heap} {sI s : Shared}
theorem Air.at (z : Air X pins σ H a cls d B sI s) {h : Heap} (fl : FlyingZ B (X.env :: X.outer) a (Zc cls d) h) (up : s.heap.UpToSlots h) : Air X pins σ H a cls d B sI { s with heap := h } := ⟨z.inv, z.ground, z.up.trans up, fl, z.na, z.os, z.bare⟩
theorem Air.keeps (z : Air X pins σ H a cls d B sI s) {h : Heap} (k : ∀ b o, s.heap.get? b = some o → h.get? b = some o) : Air X pins σ H a cls d B sI { s with heap := h } := by
  obtain ⟨f1, f2, f3, oe, vs, T, oT, ts, g1, g2, g3, g4, g5, g6, g7, g8, g9⟩ := z.fly
  exact z.at ⟨fun b o e => k b o (f1 b o e), f2, f3.of_keeps fun b o e _ => ⟨o, k b o e, rfl⟩, oe, vs, T, oT, ts, k _ _ g1, g2, g3, g4, g5, g6, k _ _ g7, g8, g9⟩ (.of_keeps k)
end
end Mp
set_option Elab.async false
set_option linter.all false
set_option maxRecDepth 100000
set_option maxHeartbeats 4000000
namespace Mp
open PySem PySem.Spec PyProof.Rows L2 HandSPX
theorem RepXF.app {K : Frag} {A : Av} {H : Hp} : ∀ {l r : List (Str × D)} {xs ys : List (Str × V)}, RepXF K A H l xs → RepXF K A H r ys → RepXF K A H (l ++ r) (xs ++ ys)
  | [], _, _, _, h, g => by cases h; exact g
  | (k, d) :: l, _, _, _, ⟨v, t, e, h, q⟩, g => by subst e; exact ⟨v, _, rfl, h, RepXF.app q g⟩
structure XcFN (P : Program) (w : World) (K : Frag) (mg : Str → Option Value) (base : Heap) (x : Str) (ns : List Str) (Wp : List V → Hp → Prop) : Prop where
  ox : OexC K (He.ga K x)
  g : mg x = some (.ref (He.ga K x))
  fn : ∃ f fd, PySem.W.findIn K (.ref (He.ga K x)) "__init__" = some (some (.ref f)) ∧ PySem.W.typeIn K (.ref f) = some (.type "function") ∧ FnOk P w K mg base (L2.CX P w) 1 f fd (("self" : Str) :: ns) (spXN (He.ga K x) ns Wp) ∧ Binds K fd (("self" : Str) :: ns) []
section
variable {X : Cx} {W : WX} {e : Expr} {es : List Expr} {te : TE} {Me : ME} {tA : TA} {MA' : MA} {p p2 pos : Pos}
end
structure HdM where
  tbl : List (Str × Bool)
  i : Option Nat
  ms : Addr → Value → Option Addr → MS
abbrev WNo : WX := fun _ _ _ _ => False
inductive HsD (X : Cx) : List ExceptHandler → List HdT → List HdM → Prop
  | nil : HsD X [] [] []
  | cons {t : Expr} {n : Str} {mt : Value → Option Bool} {i : Nat} {ts : Addr → Value → Option Addr → TS} {tbl : List (Str × Bool)} {ms : Addr → Value → Option Addr → MS} {b0 : Stmt} {suite : List Stmt} {pos : Pos} {hds : List ExceptHandler} {l : List HdT} {lm : List HdM} (hi : X.N[i]? = some n) (hl : X.env.kindOf n = some .local) (ht : TstOk X t mt)
      (tb : ∀ z b, tbl.lookup z = some b → mt (.ref (He.ga X.K z)) = some b)
      (hsu : ∀ (a : Addr) (oe : Obj) (cls : Value) (d : Option Addr) (pn : List (Addr × Obj)), Zc cls d oe → (∃ vs, oe.data = .fields vs) → DSs (X.suite a ((a, oe) :: pn)) WNo (b0 :: suite) (ts a cls d) (ms a cls d)) (r : HsD X hds l lm) :
      HsD X (.ExceptHandler (some t) (some n) (b0 :: suite) pos :: hds) (⟨mt, some i, ts⟩ :: l) (⟨tbl, some i, ms⟩ :: lm)
  | anon {t : Expr} {mt : Value → Option Bool} {ts : Addr → Value → Option Addr → TS} {tbl : List (Str × Bool)} {ms : Addr → Value → Option Addr → MS} {b0 : Stmt} {suite : List Stmt} {pos : Pos} {hds : List ExceptHandler} {l : List HdT} {lm : List HdM} (ht : TstOk X t mt)
      (tb : ∀ z b, tbl.lookup z = some b → mt (.ref (He.ga X.K z)) = some b)
      (hsu : ∀ (a : Addr) (oe : Obj) (cls : Value) (d : Option Addr) (pn : List (Addr × Obj)), Zc cls d oe → (∃ vs, oe.data = .fields vs) → DSs (X.suite a ((a, oe) :: pn)) WNo (b0 :: suite) (ts a cls d) (ms a cls d)) (r : HsD X hds l lm) :
      HsD X (.ExceptHandler (some t) none (b0 :: suite) pos :: hds) (⟨mt, none, ts⟩ :: l) (⟨tbl, none, ms⟩ :: lm)
theorem HsD.ok {X : Cx} : ∀ {hds : List ExceptHandler} {l : List HdT} {lm : List HdM}, HsD X hds l lm → HsOk X hds l
  | _, _, _, .nil => .nil
  | _, _, _, .cons hi hl ht _ hsu r => .cons hi hl ht (fun a oe cls d pn z f => (hsu a oe cls d pn z f).p) r.ok
  | _, _, _, .anon ht _ hsu r => .anon ht (fun a oe cls d pn z f => (hsu a oe cls d pn z f).p) r.ok
theorem EnvR.setN {K : Frag} {α : Mp_} {hp : List O} {H : Hp} {env : List (Option S)} {σ : L2.St} {i : Nat} (e : EnvR K α hp H env σ) : EnvR K α hp H (env.set i none) (σ.set i none) := by
  refine ⟨by rw [List.length_set, List.length_set]; exact e.1, fun j s hj => ?_⟩
  by_cases hi : i = j
  · subst hi
    by_cases hl : i < env.length
    · rw [List.getElem?_set_self hl] at hj
      cases hj
    · rw [List.getElem?_eq_none (by simpa using hl)] at hj
      cases hj
  · rw [List.getElem?_set_ne hi] at hj ⊢
    exact e.2 j s hj
theorem EnvR.none {K : Frag} {α : Mp_} {hp : List O} {H : Hp} {σ : L2.St} {n : Nat} (h : σ.length = n) : EnvR K α hp H (List.replicate n none) σ :=
  ⟨by rw [List.length_replicate]; exact h.symm, fun j s hj => by
    rw [List.getElem?_replicate] at hj
    split at hj <;> cases hj⟩
section
variable {X : Cx} {pos : Pos} {W : WX}
end
theorem XRep.at_ {K : Frag} {A : Av} {H : Hp} {x : Exn} {c : Value} {d : Option Addr} (h : XRep K A H x c d) (n : x.fs ≠ []) : ∃ a ws, d = some a ∧ H a = some (.xd ws) ∧ RepXF K A H x.fs ws := by
  rcases h.2 with z | ⟨a, ws, h1, h2, h3⟩
  · exact absurd z n
  · exact ⟨a, ws, h1, h2.1, h3⟩
theorem RepXF.look {K : Frag} {A : Av} {H : Hp} {f : Str} {y : D} : ∀ {l : List (Str × D)} {ws : List (Str × V)}, RepXF K A H l ws → l.lookup f = some y → ∃ v, ws.lookup f = some v ∧ Rep K A H y v
  | [], _, _, h => by cases h
  | (k, d) :: r, _, ⟨v, t, e, h1, h2⟩, h => by
    subst e
    by_cases z : f = k
    · subst z
      have : d = y := by simpa [List.lookup] using h
      subst this
      exact ⟨v, by simp [List.lookup], h1⟩
    · have q : (f == k) = false := by simpa using z
      have h' : r.lookup f = some y := by simpa [List.lookup, q] using h
      obtain ⟨u, g1, g2⟩ := RepXF.look h2 h'
      exact ⟨u, by simpa [List.lookup, q] using g1, g2⟩
section
variable {X : Cx} {a : Addr} {oe : Obj} {c : Value} {d : Option Addr} {pn : List (Addr × Obj)} {x : Str} {i : Nat} {p p1 p2 pos : Pos} {W : WX}
end
end Mp
set_option Elab.async false
set_option linter.all false
set_option maxRecDepth 100000
set_option maxHeartbeats 4000000
namespace Mp
open PySem PySem.Spec PyProof.Rows L2 HandSPX
abbrev XV : Type := Option (Str × Str × Arguments × FuncBody × Scope × Addr × List Str × Addr)
def xObs (K : Frag) (x : Str) : XV := match K.lookup (He.ma K (He.ga K x) "__init__") with
  | some ⟨_, _, .func fd, _⟩ => some (fd.name, fd.qualname, fd.params, fd.body, fd.scope, fd.globals, fd.closure.map (·.1), fd.builtins)
  | _ => none
structure XcD where
  x : Str
  qual : Str
  st : Stmt
  ns : List Str := ["place"]
def XcD.val (d : XcD) : XV := some ("__init__", d.qual, defArgs d.st, .stmts (defBody d.st), defScope d.st, mainGlobals, ["__class__"], builtinsNs)
def oexB (K : Frag) (C : Addr) : Bool := match K.lookup C with
  | some ⟨.type t, _, .cls cd, sl⟩ => (match cd.mro, sl.toList with
    | .ref C' :: bm, [_, _, _, _, some (.builtin n), _] => decide (t = "type") && (decide (C' = C) && (decide (n = "ValueError.__new__") && (!cd.hasDel && (cd.hasDict && refsVE bm))))
    | _, _ => false)
  | _ => false
theorem oexB_ok {K : Frag} {C : Addr} (h : oexB K C = true) : ∃ nm q N bs bm sn sub ab col dd k0 k1 k2 k3 k5, K.lookup C = some (excClassObj nm q C N bs bm true sn sub ab col dd k0 k1 k2 k3 k5 "ValueError.__new__") ∧ refsVE bm = true := by
  unfold oexB at h
  split at h
  · rename_i t dd cd sl ho
    split at h
    · rename_i C' bm k0 k1 k2 k3 n k5 hm hs
      obtain ⟨h1, h⟩ := He.ba h
      obtain ⟨h2, h⟩ := He.ba h
      obtain ⟨h3, h⟩ := He.ba h
      obtain ⟨h4, h⟩ := He.ba h
      obtain ⟨h5, h6⟩ := He.ba h
      have e1 := of_decide_eq_true h1
      have e2 := of_decide_eq_true h2
      have e3 := of_decide_eq_true h3
      subst e1 e2 e3
      obtain ⟨nm, bs, mro, ns, qn, hd, sn, sub, ab, col, del⟩ := cd
      dsimp only at hm h4 h5
      subst hm h5
      have h4' : del = false := by simpa using h4
      subst h4'
      obtain ⟨l⟩ := sl
      dsimp only at hs
      subst hs
      exact ⟨nm, qn, ns, bs, bm, sn, sub, ab, col, dd, k0, k1, k2, k3, k5, ho, h6⟩
    · cases h
  · cases h
def XcD.tests (P : Program) (K : Frag) (d : XcD) : List Bool :=
  let C := He.ga K d.x
  let f := He.ma K C "__init__"
  [He.eqO (PySem.W.nsIn K mainGlobals d.x) (some (some (.ref C))), oexB K C, He.eqO (PySem.W.findIn K (.ref C) "__setattr__") (some (some (.builtin "object.__setattr__"))), decide (PySem.W.subIn K (.ref C) (.type "BaseException") = some true), decide (PySem.W.typeIn K (.ref C) = some (.type "type")), PySem.W.keepIn K (.ref C),
    xfB K C, He.eqO (PySem.W.findIn K (.ref C) "__class__") (some (some (.builtin "object.__class__"))), decide (PySem.W.specialIn K (.builtin "object.__class__") "__get__" = some (some (.builtin "getset_descriptor.__get__"))), decide (PySem.W.takesIn K (.builtin "object.__class__") = some true), decide (PySem.W.mroIn K C (.type "object") = some true),
    He.eqO (PySem.W.findIn K (.ref C) "__init__") (some (some (.ref f))), decide (PySem.W.typeIn K (.ref f) = some (.type "function")), (d.ns.all fun x => He.eqO (PySem.W.findIn K (.ref C) x) (some none)), He.eqO (PySem.W.nsIn K cStatics "thirdparty.any") (some none),
    He.eqO (PySem.W.ks_superIn K C C "__init__") (some (some (.builtin "ValueError.__init__"))), decide (PySem.W.subIn K (.ref C) (.type "ValueError") = some true), decide (PySem.W.mroIn K C (.ref C) = some true),
    match K.lookup f with
      | some ⟨_, _, .func fd, _⟩ => (PySem.W.codeIn K fd.code d.qual && (match fd.defaults with
        | .none => true
        | _ => false)) && (match fd.code, fd.closure with
        | .ref cda, [(_, cc)] => (match K.lookup cda with
          | some ⟨_, _, .fields vs, _⟩ => (match (vs[2]? : Option Value) with
            | some (Value.str file _) => (P.main.file : Str) == file
            | _ => false)
          | _ => false) && (match K.lookup cc with
            | some ⟨_, _, .cell (some (.ref D)), _⟩ => decide (D = C)
            | _ => false)
        | _, _ => false)
      | _ => false]
theorem XcD.good {P : Program} {K : Frag} {d : XcD} (e : xObs K d.x = d.val) (t : (d.tests P K).all id = true) :
    PySem.W.nsIn K mainGlobals d.x = some (some (.ref (He.ga K d.x))) ∧ XfC K (He.ga K d.x) ∧ L2.ExcC K (He.ga K d.x) ∧ PySem.W.findIn K (.ref (He.ga K d.x)) "__init__" = some (some (.ref (He.ma K (He.ga K d.x) "__init__"))) ∧ PySem.W.typeIn K (.ref (He.ma K (He.ga K d.x) "__init__")) = some (.type "function") ∧
      ∃ cc cda fd, XcOk P K (He.ga K d.x) (He.ma K (He.ga K d.x) "__init__") cc cda d.qual (defArgs d.st) (defBody d.st) (defScope d.st) fd d.ns := by
  unfold XcD.tests at t
  simp only [List.all_cons, List.all_nil, id, Bool.and_true, Bool.and_eq_true] at t
  obtain ⟨t1, t2, t3, t4, t5, t6, t7, t8, t9, t10, t11, t12, t13, t14, t15, t16, t17, t18, t19⟩ := t
  have XC := xfB_ok t7
  refine ⟨He.eqO_ok t1, XC, ⟨XC.ga, XC.gg, XC.exC, XC.hdC, He.eqO_ok t8, of_decide_eq_true t9, of_decide_eq_true t10, of_decide_eq_true t11⟩, He.eqO_ok t12, of_decide_eq_true t13, ?_⟩
  unfold xObs at e
  cases hf : K.lookup (He.ma K (He.ga K d.x) "__init__") with
  | none => rw [hf] at t19; cases t19
  | some o =>
    obtain ⟨oc, od, dt, osl⟩ := o
    rw [hf] at t19 e
    cases dt with
    | func fd =>
      obtain ⟨n1, n2, n3, n4, n5, n6, n7, n8, n9, n10, n11, n12, n13, n14, n15⟩ := fd
      have e2 : (some (n1, n2, n3, n4, n5, n6, n7.map (·.1), n15) : XV) = (some (("__init__" : Str), d.qual, defArgs d.st, FuncBody.stmts (defBody d.st), defScope d.st, mainGlobals, [("__class__" : Str)], builtinsNs) : XV) := e
      simp only [Option.some.injEq, Prod.mk.injEq] at e2
      obtain ⟨g1, g2, g3, g4, g5, g6, g7, g8⟩ := e2
      obtain ⟨d1, c2⟩ := He.ba t19
      obtain ⟨c1', c0⟩ := He.ba d1
      have c1 := c1'
      dsimp only at c0 c1 c2
      cases n8 with
      | none =>
       cases n13 with
       | ref cda =>
         match n7, g7, c2 with
         | [(nm, cc)], g7, c2 =>
           have g7' : nm = ("__class__" : Str) := by simpa using g7
           obtain ⟨c3, c4⟩ := He.ba c2
           refine ⟨cc, cda, _, ⟨⟨oexB_ok t2, He.eqO_ok t3, of_decide_eq_true t4, of_decide_eq_true t5, t6⟩, ⟨oc, od, n9, n10, n11, n12, n14, osl, ?_, hf⟩, c1, ?_, ?_, (fun x hx => He.eqO_ok (List.all_eq_true.mp t14 x hx)), He.eqO_ok t15, He.eqO_ok t16, of_decide_eq_true t17, of_decide_eq_true t18⟩⟩
           · subst g1 g2 g3 g4 g5 g6 g8 g7'
             rfl
           · cases hc : K.lookup cda with
             | none => rw [hc] at c3; cases c3
             | some o2 =>
               obtain ⟨ccl, cdd, dt2, ccs⟩ := o2
               rw [hc] at c3
               cases dt2 with
               | fields vs =>
                 dsimp only at c3
                 cases hv : vs[2]? with
                 | none => rw [hv] at c3; cases c3
                 | some v =>
                   rw [hv] at c3
                   cases v with
                   | str file tf => exact ⟨ccl, cdd, vs, ccs, file, tf, rfl, hv, c3⟩
                   | _ => cases c3
               | _ => cases c3
           · cases hc : K.lookup cc with
             | none => rw [hc] at c4; cases c4
             | some o2 =>
               obtain ⟨ecl, ecd, dt2, ecs⟩ := o2
               rw [hc] at c4
               cases dt2 with
               | cell v =>
                 cases v with
                 | none => cases c4
                 | some v =>
                   cases v with
                   | ref D =>
                     have ed : D = He.ga K d.x := of_decide_eq_true c4
                     subst ed
                     exact ⟨ecl, ecd, ecs, rfl⟩
                   | _ => cases c4
               | _ => cases c4
       | _ => cases c2
      | _ => cases c0
    | _ => cases t19
abbrev AlX : Type := Bool × (List He.FnW × List XV)
def obsX (P : Program) (fa : List He.Fa) (fn : List He.DefD) (xs : List XcD) (bs : List (Frag → Bool)) (K : Frag) : AlX :=
  ((fa.all fun f => f.ok K) && ((fn.all fun d => d.ok K) && ((xs.all fun d => (d.tests P K).all id) && bs.all fun b => b K)), (fn.map fun d => He.fnW K d.at_, xs.map fun d => xObs K d.x))
def valX (fn : List He.DefD) (xs : List XcD) : AlX := (true, (fn.map He.DefD.val, xs.map XcD.val))
def SaysX (P : Program) (fa : List He.Fa) (fn : List He.DefD) (xs : List XcD) (bs : List (Frag → Bool)) (K : Frag) : Prop := obsX P fa fn xs bs K = valX fn xs
section
variable {P : Program} {fa : List He.Fa} {fn : List He.DefD} {xs : List XcD} {bs : List (Frag → Bool)} {K : Frag}
theorem SaysX.all_ (c : SaysX P fa fn xs bs K) : ((fa.all fun f => f.ok K) && ((fn.all fun d => d.ok K) && ((xs.all fun d => (d.tests P K).all id) && bs.all fun b => b K))) = true := congrArg (fun z : AlX => z.1) c
theorem SaysX.fact (c : SaysX P fa fn xs bs K) (i : Nat) {f : He.Fa} (h : fa[i]? = some f := by rfl) : f.ok K = true := List.all_eq_true.mp (He.ba c.all_).1 f (List.mem_of_getElem? h)
theorem SaysX.test (c : SaysX P fa fn xs bs K) (i : Nat) {b : Frag → Bool} (h : bs[i]? = some b := by rfl) : b K = true := List.all_eq_true.mp (He.ba (He.ba (He.ba c.all_).2).2).2 b (List.mem_of_getElem? h)
theorem SaysX.def_ (c : SaysX P fa fn xs bs K) (i : Nat) {d : He.DefD} (h : fn[i]? = some d := by rfl) : ∃ fd, FunD K d.name d.qual d.params d.body d.scope (d.dvs K) (d.kws K) (He.fAd K d.at_) fd := by
  have e : fn.map (fun d => He.fnW K d.at_) = fn.map He.DefD.val := congrArg (fun z : AlX => z.2.1) c
  have q := congrArg (fun l => l[i]?) e
  simp only [List.getElem?_map, h, Option.map_some] at q
  exact He.DefD.funD (Option.some.inj q) (List.all_eq_true.mp (He.ba (He.ba c.all_).2).1 d (List.mem_of_getElem? h))
end
inductive Cn where
  | own (x : Str) | ty (n : String)
def Cn.u (K : Frag) : Cn → Value
  | .own x => .ref (He.ga K x)
  | .ty n => .type n
end Mp
set_option Elab.async false
set_option linter.all false
set_option maxRecDepth 100000
set_option maxHeartbeats 4000000
namespace Mp
open PySem PySem.Spec PyProof.Rows L2
section
variable {hp : List O} {env : List (Option S)} {n : Nat} {R : S → List O → Prop} {Xp : MX} {Ma : ME} {Sb : MS} {nx bk ct : PS → Prop} {rt : S → List O → Prop} {ex : MX}
@[simp] theorem look_first {f : Str} {y : D} {r : List (Str × D)} : List.lookup f ((f, y) :: r) = some y := by simp [List.lookup]
end
end Mp
set_option Elab.async false
set_option linter.all false
set_option maxRecDepth 100000
set_option maxHeartbeats 4000000
namespace Mp
open PySem PySem.Spec PyProof.Rows L2
section
variable {X : Cx} {W : WX} {a b : Expr} {pos : Pos} {ta tb : TE} {Ma Mb : ME}
end
end Mp
set_option Elab.async false
set_option linter.all false
set_option maxRecDepth 100000
set_option maxHeartbeats 4000000
namespace Mp
open PySem PySem.Spec PyProof.Rows L2
section
variable {X : Cx} {CX : CXT} {k n : Nat} {f : Addr} {fd : FuncData} {ps ks : List Str} {sp : Sp} {E : L2.St → XK} {x : Str} {p pos : Pos} {e : Expr} {es : List Expr} {kws : List Keyword} {t tk : TA} {g : List Value → List Value → List Value} {gV : List V → List V → List V}
end
structure DK (X : Cx) (W : WX) (kws : List Keyword) (t : TA) (M : MA) : Prop where
  p : PK X kws t
  s : SimA X.K W t M
section
variable {X : Cx} {W : WX} {e : Expr} {es : List Expr} {kws : List Keyword} {nm : Str} {pos kpos : Pos} {te : TE} {t tk : TA} {Me : ME} {Ma Mk : MA}
end
end Mp
set_option Elab.async false
set_option linter.all false
set_option maxRecDepth 100000
set_option maxHeartbeats 4000000
namespace Mp
open PySem PySem.Spec PyProof.Rows L2
section
variable {P : D → Prop}
@[simp] theorem flatD_int {i : Int} : flatD (.int i) = true := rfl
@[simp] theorem flatD_bl {i : Bool} : flatD (.bl i) = true := rfl
@[simp] theorem flatD_str {i : Str} : flatD (.str i) = true := rfl
@[simp] theorem flatD_non : flatD .non = true := rfl
end
section
variable {hp : List O} {env : List (Option S)} {c : Nat}
@[simp ↓] theorem x_gTup {n : Nat} {Gs : List D → PS → (PS → Prop) → Prop} {v : S} {N : PS → Prop} : mgTup n Gs v ⟨hp, env, c⟩ N = onH (isD v) (fun d => onH (asTup d) (fun ds => ds.length = n ∧ Gs ds ⟨hp, env, c⟩ N) .mk) .mk := nr rfl
@[simp ↓] theorem x_gsCons {G : MG} {Gs : List D → PS → (PS → Prop) → Prop} {d : D} {r : List D} {N : PS → Prop} : mgsCons G Gs (d :: r) ⟨hp, env, c⟩ N = G (.d d) ⟨hp, env, c⟩ (fun s1 => Gs r s1 N) := nr rfl
@[simp ↓] theorem x_gsNil {N : PS → Prop} : mgsNil [] ⟨hp, env, c⟩ N = N ⟨hp, env, c⟩ := nr rfl
@[simp] theorem x_isD {d : D} : isD (.d d) = some d := rfl
@[simp] theorem x_asTup {ds : List D} : asTup (.tup ds) = some ds := rfl
@[simp] theorem at_0 {τ : Type} {x : τ} {r : List τ} : atI (x :: r) 0 = some x := (atI_nat (by omega) (by simp)).trans rfl
@[simp] theorem at_1 {τ : Type} {x y : τ} {r : List τ} : atI (x :: y :: r) 1 = some y := (atI_nat (by omega) (by simp; omega)).trans rfl
@[simp] theorem at_2 {τ : Type} {x y z : τ} {r : List τ} : atI (x :: y :: z :: r) 2 = some z := (atI_nat (by omega) (by simp; omega)).trans rfl
@[simp] theorem at_3 {τ : Type} {x y z t : τ} {r : List τ} : atI (x :: y :: z :: t :: r) 3 = some t := (atI_nat (by omega) (by simp; omega)).trans rfl
end
end Mp
set_option Elab.async false
set_option linter.all false
set_option maxRecDepth 100000
set_option maxHeartbeats 4000000
namespace Mp
open PySem PySem.Spec PyProof.Rows L2
section
variable {X : Cx} {CX : CXT} {k : Nat} {f C : Addr} {fd : FuncData} {ps : List Str} {sp : Sp} {dvs : List V} {ds : List Value} {E : L2.St → XK} {m : Str} {pos apos : Pos} {e o : Expr} {es : List Expr} {ta : TE} {t : TA} {pl : Sem Bool}
end
end Mp
set_option Elab.async false
set_option linter.all false
set_option maxRecDepth 100000
set_option maxHeartbeats 4000000
namespace Mp
open PySem PySem.Spec PyProof.Rows L2
def obO : S → Option (Nat × Nat)
  | .mu n => some (n, 0)
  | .ob n k => some (n, k)
  | _ => none
theorem SRep.obj {K : Frag} {α : Mp_} {hp : List O} {H : Hp} {s : S} {v : V} {n k : Nat} (r : SRep K α hp H s v) (h : obO s = some (n, k)) : ∃ (p : Addr × List Addr) (a : Addr), α.own[n]? = some p ∧ (adr p)[k]? = some a ∧ v = .ref a := by
  cases s with
  | mu m => cases h; obtain ⟨p, h1, h2⟩ := r; exact ⟨p, p.1, h1, rfl, h2⟩
  | ob m j => cases h; obtain ⟨p, a, h1, h2, h3⟩ := r; exact ⟨p, a, h1, h2, h3⟩
  | d _ => cases h
  | exn _ _ _ _ => cases h
def regO : O → Option (List Gn)
  | .reg gs => some gs
  | .lst ds => some [.lst (ds.map .d)]
  | _ => none
def regAt (hp : List O) (n : Nat) : Option (List Gn) := match hp[n]? with
  | some o => regO o
  | none => none
theorem regAt_some {hp : List O} {n : Nat} {gs : List Gn} (h : regAt hp n = some gs) : ∃ o, hp[n]? = some o ∧ regO o = some gs ∧ o ≠ .gone := by
  unfold regAt at h
  cases g : hp[n]? with
  | none => rw [g] at h; cases h
  | some o => rw [g] at h; exact ⟨o, rfl, h, fun z => by subst z; cases h⟩
theorem RepNL.of_ds {K : Frag} {A : Av} {H : Hp} {as : List Addr} : ∀ {ds : List D} {vs : List V}, RepL K A H ds vs → RepNL K A H as (ds.map .d) vs
  | [], _, h => by cases h; exact .nil
  | d :: ds, _, ⟨v, r, e, h, t⟩ => by subst e; exact .cons h (RepNL.of_ds t)
theorem OR.regs {K : Frag} {A : Av} {H : Hp} {p : Addr × List Addr} {o : O} {gs : List Gn} (h : OR K A H p o) (e : regO o = some gs) : (adr p).length = gs.length ∧ ∀ (k : Nat) (g : Gn) (a : Addr), gs[k]? = some g → (adr p)[k]? = some a → GR K A H (adr p) a g := by
  cases o with
  | reg gs' => cases e; exact h
  | lst ds =>
    cases e
    obtain ⟨e2, vs, h1, r⟩ := h
    refine ⟨by simp [adr, e2], fun k g a h3 h4 => ?_⟩
    cases k with
    | zero => cases h3; cases h4; exact ⟨vs, h1, RepNL.of_ds r⟩
    | succ k => cases h3
  | dct _ => cases e
  | dtp _ => cases e
  | tbl _ => cases e
  | gone => cases e
theorem WOk.regs {K : Frag} {α : Mp_} {hp : List O} {H : Hp} (w : WOk K α hp H) {n : Nat} {gs : List Gn} {p : Addr × List Addr} (h : regAt hp n = some gs) (hp' : α.own[n]? = some p) : (adr p).length = gs.length ∧ ∀ (k : Nat) (g : Gn) (a : Addr), gs[k]? = some g → (adr p)[k]? = some a → GR K (Al α hp) H (adr p) a g := by
  obtain ⟨o, h1, h2, _⟩ := regAt_some h
  exact (w.obj n o p h1 hp').regs h2
theorem adr_ne {p : Addr × List Addr} (h : p.1 ∉ p.2 ∧ p.2.Nodup) {i j : Nat} {a b : Addr} (hi : (adr p)[i]? = some a) (hj : (adr p)[j]? = some b) (n : i ≠ j) : a ≠ b := by
  intro e
  subst e
  have nd : (adr p).Nodup := List.nodup_cons.mpr h
  obtain ⟨h1, h2⟩ := List.getElem?_eq_some_iff.mp hi
  obtain ⟨h3, h4⟩ := List.getElem?_eq_some_iff.mp hj
  exact n ((List.getElem_inj nd).mp (h2.trans h4.symm))
theorem WOk.putA {K : Frag} {α : Mp_} {hp : List O} {H : Hp} {n : Nat} {o o' : O} {p : Addr × List Addr} {a : Addr} {x : HO} (w : WOk K α hp H) (h : hp[n]? = some o) (hg : o ≠ .gone) (ha : α.own[n]? = some p) (hg' : o' ≠ .gone) (hm : a = p.1 ∨ a ∈ p.2)
    (ho : StepW α hp H α (hp.set n o') (upd H a x) → OR K (Al α (hp.set n o')) (upd H a x) p o') : WOk K α (hp.set n o') (upd H a x) ∧ Ext α hp H α (hp.set n o') (upd H a x) := by
  have hn : n < hp.length := (List.getElem?_eq_some_iff.mp h).1
  have mt : ∀ a, Mt α (hp.set n o') a → Mt α hp a := fun a ⟨m, q, u, h1, h2, h3, h4⟩ => by
    rcases set_get h2 with ⟨e, _⟩ | ⟨_, h2⟩
    · subst e
      exact ⟨n, q, o, h1, h, hg, h4⟩
    · exact ⟨m, q, u, h1, h2, h3, h4⟩
  have al : ∀ a, Al α (hp.set n o') a → Al α hp a := fun a z => z.imp (mt a) id
  have hp1 : Mt α hp a := ⟨n, p, o, ha, h, hg, hm⟩
  have st : StepW α hp H α (hp.set n o') (upd H a x) := ⟨fun b u e z => by
    have : b ≠ a := fun y => by subst y; exact z hp1
    rw [upd_ne this]; exact e, fun a z => .inl (al a z), fun a z => .inl (mt a z), al_sub, stay_upd⟩
  refine ⟨⟨by rw [List.length_set]; exact w.len, fun m u q h1 h2 => ?_, fun m u q h1 h2 hz => ?_, fun m k u u' q q' h1 h2 h3 h4 h5 h6 hne b hx hy => ?_, fun b hb => ?_⟩, ⟨Pre.refl _, st, fun _ _ h e => (at_none h e).elim⟩⟩
  · rcases set_get h1 with ⟨e, e'⟩ | ⟨e, h1⟩
    · subst e e'
      rw [ha] at h2
      cases h2
      exact ho st
    · refine (w.obj m u q h1 h2).mono st fun hz b hb => ?_
      rw [upd_ne fun y => ?_]
      subst y
      exact w.inj n m o u p q h ha hg h1 h2 hz e _ hm hb
  · rcases set_get h1 with ⟨e, e'⟩ | ⟨e, h1⟩
    · subst e
      exact w.one n o q h h2 hg
    · exact w.one m u q h1 h2 hz
  · have f : ∀ {m : Nat} {u : O}, (hp.set n o')[m]? = some u → u ≠ .gone → ∃ u', hp[m]? = some u' ∧ u' ≠ .gone := fun {m u} h1 hz => by
      rcases set_get h1 with ⟨e, e'⟩ | ⟨e, h1⟩
      · subst e; exact ⟨o, h, hg⟩
      · exact ⟨u, h1, hz⟩
    obtain ⟨v, g1, g2⟩ := f h1 h3
    obtain ⟨v', g3, g4⟩ := f h4 h6
    exact w.inj m k v v' q q' g1 h2 g2 g3 h5 g4 hne b hx hy
  · obtain ⟨⟨y, hy⟩, hm⟩ := w.ban b hb
    obtain ⟨z, hz⟩ := st.stay b y hy
    exact ⟨⟨z, hz⟩, fun z => hm (mt b z)⟩
theorem WOk.putG {K : Frag} {α : Mp_} {hp : List O} {H : Hp} {n k : Nat} {gs : List Gn} {g g' : Gn} {p : Addr × List Addr} {a : Addr} {x : HO} (w : WOk K α hp H) (h : regAt hp n = some gs) (hk : gs[k]? = some g) (hp' : α.own[n]? = some p) (ha : (adr p)[k]? = some a)
    (ho : StepW α hp H α (hp.set n (.reg (gs.set k g'))) (upd H a x) → GR K (Al α (hp.set n (.reg (gs.set k g')))) (upd H a x) (adr p) a g') : WOk K α (hp.set n (.reg (gs.set k g'))) (upd H a x) ∧ Ext α hp H α (hp.set n (.reg (gs.set k g'))) (upd H a x) := by
  obtain ⟨o, h1, h2, h3⟩ := regAt_some h
  obtain ⟨l, r⟩ := w.regs h hp'
  have one := w.one n o p h1 hp' h3
  refine w.putA h1 h3 hp' (fun z => by cases z) (List.mem_cons.mp (List.mem_iff_getElem?.mpr ⟨k, ha⟩)) fun st => ⟨by rw [List.length_set]; exact l, fun j u b hu hb => ?_⟩
  rcases set_get hu with ⟨e, e'⟩ | ⟨e, hu⟩
  · subst e e'
    rw [ha] at hb
    cases hb
    exact ho st
  · exact (r j u b hu hb).mono st (fun _ _ h => h) (upd_ne (adr_ne one hb ha (Ne.symm e)))
def shN (c : Nat) : Nd → Nd
  | .d x => .d x
  | .nd k => .nd (k + c)
def shG (c : Nat) : Gn → Gn
  | .lst xs => .lst (xs.map (shN c))
  | .ins C fs => .ins C (fs.map fun x => (x.1, shN c x.2))
  | .tup xs => .tup (xs.map (shN c))
  | .dct kvs => .dct (kvs.map fun x => (x.1, shN c x.2))
theorem RepN.sh {K : Frag} {A : Av} {H : Hp} {as bs : List Addr} {c : Nat} (l : ∀ (k : Nat) (a : Addr), as[k]? = some a → bs[k + c]? = some a) : ∀ {x : Nd} {v : V}, RepN K A H as x v → RepN K A H bs (shN c x) v
  | .d _, _, h => h
  | .nd k, _, ⟨a, h, e⟩ => ⟨a, l k a h, e⟩
theorem paired_map {τ σ ρ : Type} {P : τ → σ → Prop} {Q : ρ → σ → Prop} {f : τ → ρ} (h : ∀ x y, P x y → Q (f x) y) : ∀ {xs : List τ} {ys : List σ}, Paired P xs ys → Paired Q (xs.map f) ys
  | _, _, .nil => .nil
  | _, _, .cons p r => .cons (h _ _ p) (paired_map h r)
theorem GR.sh {K : Frag} {A : Av} {H : Hp} {as bs : List Addr} {c : Nat} (l : ∀ (k : Nat) (a : Addr), as[k]? = some a → bs[k + c]? = some a) {a : Addr} : ∀ {g : Gn}, GR K A H as a g → GR K A H bs a (shG c g)
  | .lst _, ⟨vs, h, r⟩ => ⟨vs, h, paired_map (fun _ _ q => q.sh l) r⟩
  | .ins _ _, ⟨dx, ws, h, r⟩ => ⟨dx, ws, h, paired_map (fun _ _ q => ⟨q.1, q.2.sh l⟩) r⟩
  | .tup _, ⟨vs, h, r⟩ => ⟨vs, h, paired_map (fun _ _ q => q.sh l) r⟩
  | .dct _, ⟨ws, h, r⟩ => ⟨ws, h, paired_map (fun _ _ q => ⟨q.1, q.2.sh l⟩) r⟩
def Mp_.take_ (α : Mp_) (n : Nat) (p q : Addr × List Addr) : Mp_ := { α with own := α.own.set n (p.1, p.2 ++ adr q) }
theorem WOk.absorb {K : Frag} {α : Mp_} {hp : List O} {H : Hp} {n m : Nat} {gs gs' : List Gn} {p q : Addr × List Addr} (w : WOk K α hp H) (hn : regAt hp n = some gs) (hm : regAt hp m = some gs') (hp' : α.own[n]? = some p) (hq : α.own[m]? = some q) (ne : n ≠ m) :
    WOk K (α.take_ n p q) ((hp.set n (.reg (gs ++ gs'.map (shG gs.length)))).set m .gone) H ∧ Ext α hp H (α.take_ n p q) ((hp.set n (.reg (gs ++ gs'.map (shG gs.length)))).set m .gone) H := by
  obtain ⟨o, h1, h2, h3⟩ := regAt_some hn
  obtain ⟨o', g1, g2, g3⟩ := regAt_some hm
  obtain ⟨l1, r1⟩ := w.regs hn hp'
  obtain ⟨l2, r2⟩ := w.regs hm hq
  have ln : n < hp.length := (List.getElem?_eq_some_iff.mp h1).1
  have lm : m < hp.length := (List.getElem?_eq_some_iff.mp g1).1
  have own_ : ∀ {j : Nat} {x : Addr × List Addr}, (α.take_ n p q).own[j]? = some x → (j = n ∧ x = (p.1, p.2 ++ adr q)) ∨ (j ≠ n ∧ α.own[j]? = some x) := fun {j x} h => by
    rcases set_get (show (α.own.set n _)[j]? = some x from h) with ⟨e, e'⟩ | ⟨e, h⟩
    · exact .inl ⟨e.symm, e'.symm⟩
    · exact .inr ⟨fun z => e z.symm, h⟩
  have hp_ : ∀ {j : Nat} {u : O}, ((hp.set n (.reg (gs ++ gs'.map (shG gs.length)))).set m .gone)[j]? = some u → u ≠ .gone → (j = n ∧ u = .reg (gs ++ gs'.map (shG gs.length))) ∨ (j ≠ n ∧ j ≠ m ∧ hp[j]? = some u) := fun {j u} h hg => by
    rcases set_get h with ⟨e, e'⟩ | ⟨e, h⟩
    · exact absurd e'.symm hg
    · rcases set_get h with ⟨e2, e'⟩ | ⟨e2, h⟩
      · exact .inl ⟨e2.symm, e'.symm⟩
      · exact .inr ⟨fun z => e2 z.symm, fun z => e z.symm, h⟩
  have mt : ∀ a, Mt (α.take_ n p q) ((hp.set n (.reg (gs ++ gs'.map (shG gs.length)))).set m .gone) a → Mt α hp a := by
    rintro a ⟨j, x, u, a1, a2, a3, a4⟩
    rcases hp_ a2 a3 with ⟨e, _⟩ | ⟨e1, e2, b1⟩
    · subst e
      rcases own_ a1 with ⟨_, e⟩ | ⟨e, _⟩
      · subst e
        rcases a4 with z | z
        · exact ⟨j, p, o, hp', h1, h3, .inl z⟩
        · rcases List.mem_append.mp z with z | z
          · exact ⟨j, p, o, hp', h1, h3, .inr z⟩
          · exact ⟨m, q, o', hq, g1, g3, List.mem_cons.mp z⟩
      · exact absurd rfl e
    · rcases own_ a1 with ⟨e, _⟩ | ⟨_, b2⟩
      · exact absurd e e1
      · exact ⟨j, x, u, b2, b1, a3, a4⟩
  have al : ∀ a, Al (α.take_ n p q) ((hp.set n (.reg (gs ++ gs'.map (shG gs.length)))).set m .gone) a → Al α hp a := fun a z => z.imp (mt a) id
  have st : StepW α hp H (α.take_ n p q) ((hp.set n (.reg (gs ++ gs'.map (shG gs.length)))).set m .gone) H := ⟨fun _ _ h _ => h, fun a z => .inl (al a z), fun a z => .inl (mt a z), al_sub, fun _ o h => ⟨o, h⟩⟩
  have pne : ∀ a, (a = p.1 ∨ a ∈ p.2) → ¬ (a = q.1 ∨ a ∈ q.2) := w.inj n m o o' p q h1 hp' h3 g1 hq g3 ne
  have ole : OwnLe α.own (α.take_ n p q).own := fun j x hx => by
    by_cases e : j = n
    · subst e
      rw [hp'] at hx
      cases hx
      exact ⟨_, List.getElem?_set_self (List.getElem?_eq_some_iff.mp hp').1, rfl, List.prefix_append _ _⟩
    · exact ⟨x, by show (α.own.set n _)[j]? = _; rw [List.getElem?_set_ne (Ne.symm e)]; exact hx, rfl, List.prefix_refl _⟩
  refine ⟨⟨?_, fun j u x a1 a2 => ?_, fun j u x a1 a2 hg => ?_, fun i j u u' x x' a1 a2 a3 a4 a5 a6 hne a ha hb => ?_, fun a ha => ?_⟩, ⟨⟨ole, rfl⟩, st, fun j x hl hx => ?_⟩⟩
  · show (α.own.set n _).length = _
    rw [List.length_set, List.length_set, List.length_set]
    exact w.len
  · by_cases hg : u = .gone
    · subst hg; exact trivial
    rcases hp_ a1 hg with ⟨e, e'⟩ | ⟨e1, e2, b1⟩
    · subst e e'
      rcases own_ a2 with ⟨_, e⟩ | ⟨e, _⟩
      · subst e
        have la : (adr p ++ adr q).length = gs.length + gs'.length := by rw [List.length_append, l1, l2]
        refine ⟨by show (adr p ++ adr q).length = _; rw [la, List.length_append, List.length_map], fun k g a b1 b2 => ?_⟩
        have b2 : (adr p ++ adr q)[k]? = some a := b2
        by_cases hk : k < gs.length
        · rw [List.getElem?_append_left hk] at b1
          rw [List.getElem?_append_left (by omega)] at b2
          exact (r1 k g a b1 b2).mono st (fun i b hb => by show (adr p ++ adr q)[i]? = _; rw [List.getElem?_append_left (List.getElem?_eq_some_iff.mp hb).1]; exact hb) rfl
        · rw [List.getElem?_append_right (by omega), List.getElem?_map] at b1
          rw [List.getElem?_append_right (by omega)] at b2
          cases z : gs'[k - gs.length]? with
          | none => rw [z] at b1; cases b1
          | some g0 =>
            rw [z] at b1
            cases b1
            refine ((r2 _ g0 a z (by rw [← l1]; exact b2)).mono st (fun _ _ h => h) rfl).sh (c := gs.length) fun i b hb => ?_
            show (adr p ++ adr q)[i + gs.length]? = _
            rw [List.getElem?_append_right (by omega), l1, Nat.add_sub_cancel]
            exact hb
      · exact absurd rfl e
    · rcases own_ a2 with ⟨e, _⟩ | ⟨_, b2⟩
      · exact absurd e e1
      · exact (w.obj j u x b1 b2).mono st fun _ _ _ => rfl
  · rcases hp_ a1 hg with ⟨e, e'⟩ | ⟨e1, e2, b1⟩
    · subst e e'
      rcases own_ a2 with ⟨_, e⟩ | ⟨e, _⟩
      · subst e
        have o1 := w.one j o p h1 hp' h3
        have o2 := w.one m o' q g1 hq g3
        refine ⟨fun z => ?_, ?_⟩
        · rcases List.mem_append.mp z with z | z
          · exact o1.1 z
          · exact pne p.1 (.inl rfl) (List.mem_cons.mp z)
        · refine List.nodup_append.mpr ⟨o1.2, List.nodup_cons.mpr o2, fun a ha b hb e => ?_⟩
          subst e
          exact pne a (.inr ha) (List.mem_cons.mp hb)
      · exact absurd rfl e
    · rcases own_ a2 with ⟨e, _⟩ | ⟨_, b2⟩
      · exact absurd e e1
      · exact w.one j u x b1 b2 hg
  · have key : ∀ {i : Nat} {u : O} {x : Addr × List Addr}, ((hp.set n (.reg (gs ++ gs'.map (shG gs.length)))).set m .gone)[i]? = some u → (α.take_ n p q).own[i]? = some x → u ≠ .gone → (a = x.1 ∨ a ∈ x.2) →
        ∃ (i' : Nat) (u' : O) (x' : Addr × List Addr), hp[i']? = some u' ∧ α.own[i']? = some x' ∧ u' ≠ .gone ∧ (a = x'.1 ∨ a ∈ x'.2) ∧ (i' = i ∨ (i' = m ∧ i = n)) ∧ i ≠ m := fun {i u x} b1 b2 b3 b4 => by
      rcases hp_ b1 b3 with ⟨e, e'⟩ | ⟨e1, e2, c1⟩
      · subst e
        rcases own_ b2 with ⟨_, e⟩ | ⟨e, _⟩
        · subst e
          rcases b4 with z | z
          · exact ⟨i, o, p, h1, hp', h3, .inl z, .inl rfl, ne⟩
          · rcases List.mem_append.mp z with z | z
            · exact ⟨i, o, p, h1, hp', h3, .inr z, .inl rfl, ne⟩
            · exact ⟨m, o', q, g1, hq, g3, List.mem_cons.mp z, .inr ⟨rfl, rfl⟩, ne⟩
        · exact absurd rfl e
      · rcases own_ b2 with ⟨e, _⟩ | ⟨_, c2⟩
        · exact absurd e e1
        · exact ⟨i, u, x, c1, c2, b3, b4, .inl rfl, e2⟩
    obtain ⟨i', v, y, d1, d2, d3, d4, d5, d6⟩ := key a1 a2 a3 ha
    obtain ⟨j', v', y', f1, f2, f3, f4, f5, f6⟩ := key a4 a5 a6 hb
    refine w.inj i' j' v v' y y' d1 d2 d3 f1 f2 f3 ?_ a d4 f4
    rcases d5 with d5 | ⟨d5, d7⟩ <;> rcases f5 with f5 | ⟨f5, f7⟩ <;> subst d5 f5 <;> first | exact hne | (intro z; subst z; first | exact d6 rfl | exact f6 rfl) | (intro _; exact hne (d7.trans f7.symm))
  · have ha : α.ban a := ha
    obtain ⟨hx, hy⟩ := w.ban a ha
    exact ⟨hx, fun z => hy (mt a z)⟩
  · rw [← List.length_set (i := n) (a := (p.1, p.2 ++ adr q))] at hl
    exact (at_none hl (show (α.own.set n _)[j]? = some x from hx)).elim
end Mp
set_option Elab.async false
set_option linter.all false
set_option maxRecDepth 100000
set_option maxHeartbeats 4000000
namespace Mp
open PySem PySem.Spec PyProof.Rows L2
def gnAt (hp : List O) (n k : Nat) : Option Gn := (regAt hp n).bind (·[k]?)
theorem gnAt_some {hp : List O} {n k : Nat} {g : Gn} (h : gnAt hp n k = some g) : ∃ gs, regAt hp n = some gs ∧ gs[k]? = some g := by
  unfold gnAt at h
  cases e : regAt hp n with
  | none => rw [e] at h; cases h
  | some gs => rw [e] at h; exact ⟨gs, rfl, h⟩
theorem WOk.gn {K : Frag} {α : Mp_} {hp : List O} {H : Hp} (w : WOk K α hp H) {n k : Nat} {g : Gn} {p : Addr × List Addr} {a : Addr} (h : gnAt hp n k = some g) (hp' : α.own[n]? = some p) (ha : (adr p)[k]? = some a) : GR K (Al α hp) H (adr p) a g := by
  obtain ⟨gs, h1, h2⟩ := gnAt_some h
  exact (w.regs h1 hp').2 k g a h2 ha
def ndS (n : Nat) : Nd → S
  | .d x => .d x
  | .nd k => .ob n k
theorem RepN.s {K : Frag} {α : Mp_} {hp : List O} {H : Hp} {n : Nat} {p : Addr × List Addr} (h : α.own[n]? = some p) : ∀ {x : Nd} {v : V}, RepN K (Al α hp) H (adr p) x v → SRep K α hp H (ndS n x) v
  | .d _, _, r => r
  | .nd _, _, ⟨a, e1, e2⟩ => ⟨p, a, h, e1, e2⟩
def absorb (hp : List O) (n : Nat) : S → Option (List O × Nd)
  | .d x => some (hp, .d x)
  | .mu m => if m = n then some (hp, .nd 0) else match regAt hp n, regAt hp m with
    | some gs, some gs' => some ((hp.set n (.reg (gs ++ gs'.map (shG gs.length)))).set m .gone, .nd gs.length)
    | _, _ => none
  | .ob m k => if m = n then some (hp, .nd k) else match regAt hp n, regAt hp m with
    | some gs, some gs' => if k < gs'.length then some ((hp.set n (.reg (gs ++ gs'.map (shG gs.length)))).set m .gone, .nd (k + gs.length)) else none
    | _, _ => none
  | .exn _ _ _ _ => none
theorem regAt_take {hp : List O} {n m : Nat} {gs gs' : List Gn} (hn : regAt hp n = some gs) (ne : n ≠ m) : regAt ((hp.set n (.reg (gs ++ gs'.map (shG gs.length)))).set m .gone) n = some (gs ++ gs'.map (shG gs.length)) := by
  obtain ⟨o, h1, _⟩ := regAt_some hn
  unfold regAt
  rw [List.getElem?_set_ne (Ne.symm ne), List.getElem?_set_self (List.getElem?_eq_some_iff.mp h1).1]
  rfl
theorem absorb_ok {K : Frag} {α : Mp_} {hp hp' : List O} {H : Hp} {n k : Nat} {v : S} {u : V} {x : Nd} {g : Gn} {p : Addr × List Addr} {a : Addr} (w : WOk K α hp H) (r : SRep K α hp H v u) (h : absorb hp n v = some (hp', x)) (hn : gnAt hp n k = some g) (hp1 : α.own[n]? = some p) (ha : (adr p)[k]? = some a) :
    ∃ (α' : Mp_) (p' : Addr × List Addr), WOk K α' hp' H ∧ Ext α hp H α' hp' H ∧ α'.own[n]? = some p' ∧ (adr p')[k]? = some a ∧ gnAt hp' n k = some g ∧ RepN K (Al α' hp') H (adr p') x u := by
  have two : ∀ {m j : Nat} {q : Addr × List Addr} {b : Addr} {gs gs' : List Gn}, regAt hp n = some gs → regAt hp m = some gs' → n ≠ m → α.own[m]? = some q → (adr q)[j]? = some b → u = .ref b → x = .nd (j + gs.length) → hp' = ((hp.set n (.reg (gs ++ gs'.map (shG gs.length)))).set m .gone) →
      ∃ (α' : Mp_) (p' : Addr × List Addr), WOk K α' hp' H ∧ Ext α hp H α' hp' H ∧ α'.own[n]? = some p' ∧ (adr p')[k]? = some a ∧ gnAt hp' n k = some g ∧ RepN K (Al α' hp') H (adr p') x u := fun {m j q b gs gs'} h1 h2 ne hq hb eu ex eh => by
    subst eu ex eh
    obtain ⟨w2, e2⟩ := w.absorb h1 h2 hp1 hq ne
    obtain ⟨l, _⟩ := w.regs h1 hp1
    obtain ⟨gs0, z1, z2⟩ := gnAt_some hn
    cases h1.symm.trans z1
    refine ⟨_, (p.1, p.2 ++ adr q), w2, e2, List.getElem?_set_self (List.getElem?_eq_some_iff.mp hp1).1, ?_, ?_, b, ?_, rfl⟩
    · show (adr p ++ adr q)[k]? = _
      rw [List.getElem?_append_left (List.getElem?_eq_some_iff.mp ha).1]
      exact ha
    · unfold gnAt
      rw [regAt_take h1 ne]
      show (gs ++ _)[k]? = _
      rw [List.getElem?_append_left (List.getElem?_eq_some_iff.mp z2).1]
      exact z2
    · show (adr p ++ adr q)[j + gs.length]? = _
      rw [List.getElem?_append_right (by omega), l, Nat.add_sub_cancel]
      exact hb
  cases v with
  | d y => cases h; exact ⟨α, p, w, Ext.refl, hp1, ha, hn, r⟩
  | exn _ _ _ _ => cases h
  | mu m =>
    obtain ⟨q, hq, eu⟩ := r
    simp only [absorb] at h
    by_cases c : m = n
    · subst c
      rw [if_pos rfl] at h
      cases h
      rw [hp1] at hq
      cases hq
      exact ⟨α, p, w, Ext.refl, hp1, ha, hn, p.1, rfl, eu⟩
    · rw [if_neg c] at h
      cases h1 : regAt hp n with
      | none => rw [h1] at h; cases h
      | some gs =>
        cases h2 : regAt hp m with
        | none => rw [h1, h2] at h; cases h
        | some gs' =>
          rw [h1, h2] at h
          cases h
          exact two h1 h2 (fun z => c z.symm) hq (j := 0) rfl eu (by rw [Nat.zero_add]) rfl
  | ob m j =>
    obtain ⟨q, b, hq, hb, eu⟩ := r
    simp only [absorb] at h
    by_cases c : m = n
    · subst c
      rw [if_pos rfl] at h
      cases h
      rw [hp1] at hq
      cases hq
      exact ⟨α, p, w, Ext.refl, hp1, ha, hn, b, hb, eu⟩
    · rw [if_neg c] at h
      cases h1 : regAt hp n with
      | none => rw [h1] at h; cases h
      | some gs =>
        cases h2 : regAt hp m with
        | none => rw [h1, h2] at h; cases h
        | some gs' =>
          rw [h1, h2] at h
          simp only at h
          split at h
          · cases h
            exact two h1 h2 (fun z => c z.symm) hq hb eu rfl rfl
          · cases h
def putN (hp : List O) (n k : Nat) (g : Gn) : List O := match regAt hp n with
  | some gs => hp.set n (.reg (gs.set k g))
  | none => hp
theorem WOk.node_ {K : Frag} {α : Mp_} {hp : List O} {H : Hp} {n k : Nat} {g g' : Gn} {p : Addr × List Addr} {a : Addr} {x : HO} (w : WOk K α hp H) (h : gnAt hp n k = some g) (hp' : α.own[n]? = some p) (ha : (adr p)[k]? = some a)
    (ho : ∀ {A' M' : Av}, Step (Al α hp) (Mt α hp) H A' M' (upd H a x) → GR K A' (upd H a x) (adr p) a g') : WOk K α (putN hp n k g') (upd H a x) ∧ Ext α hp H α (putN hp n k g') (upd H a x) := by
  obtain ⟨gs, h1, h2⟩ := gnAt_some h
  unfold putN
  rw [h1]
  exact w.putG h1 h2 hp' ha fun st => ho st
theorem WOk.pushReg {K : Frag} {α : Mp_} {hp : List O} {H : Hp} {p : Addr} {g : Gn} {x : HO} (w : WOk K α hp H) (hn : H p = none) (hg : ∀ {A' M' : Av}, Step (Al α hp) (Mt α hp) H A' M' (upd H p x) → GR K A' (upd H p x) [p] p g) :
    WOk K (α.push (p, [])) (hp ++ [.reg [g]]) (upd H p x) ∧ Ext α hp H (α.push (p, [])) (hp ++ [.reg [g]]) (upd H p x) := by
  have mt : ∀ a, Mt (α.push (p, [])) (hp ++ [.reg [g]]) a → Mt α hp a ∨ a = p := fun a h => by
    rcases (mt_push w.len).mp h with h | ⟨_, h⟩
    · exact .inl h
    · rcases h with h | h
      · exact .inr h
      · cases h
  have na : ¬ Al α hp p := w.non p hn
  have st : StepW α hp H (α.push (p, [])) (hp ++ [.reg [g]]) (upd H p x) := ⟨(Step.fresh (A := Al α hp) (M := Mt α hp) al_sub hn).keep, fun a h => by
    rcases h with h | h
    · exact (mt a h).imp .inl fun e => by rw [e]; exact hn
    · exact .inl (.inr h), fun a h => (mt a h).imp id fun e => by rw [e]; exact hn, al_sub, (Step.fresh (A := Al α hp) (M := Mt α hp) al_sub hn).stay⟩
  refine ⟨w.pushO st (fun a h => upd_ne fun e => na (e ▸ h)) (fun a h => ?_) ⟨by simp, by simp⟩ ⟨rfl, fun k g' a h1 h2 => ?_⟩, Ext.push st hn⟩
  · rcases h with h | h
    · rw [h]; exact na
    · cases h
  · cases k with
    | zero => cases h1; cases h2; exact hg st
    | succ k => cases h1
def lstG : Option Gn → Option (List Nd)
  | some (.lst xs) => some xs
  | _ => none
theorem lstG_some {g : Option Gn} {xs : List Nd} (h : lstG g = some xs) : g = some (.lst xs) := by
  unfold lstG at h
  split at h
  · cases h; rfl
  · cases h
theorem paired_len {τ σ : Type} {P : τ → σ → Prop} : ∀ {xs : List τ} {ys : List σ}, Paired P xs ys → xs.length = ys.length
  | _, _, .nil => rfl
  | _, _, .cons _ r => congrArg Nat.succ (paired_len r)
theorem paired_app {τ σ : Type} {P : τ → σ → Prop} {x : τ} {y : σ} (h : P x y) : ∀ {xs : List τ} {ys : List σ}, Paired P xs ys → Paired P (xs ++ [x]) (ys ++ [y])
  | _, _, .nil => .cons h .nil
  | _, _, .cons p r => .cons p (paired_app h r)
end Mp
set_option Elab.async false
set_option linter.all false
set_option maxRecDepth 100000
set_option maxHeartbeats 4000000
namespace Mp
open PySem PySem.Spec PyProof.Rows L2
section
variable {X : Cx} {W : WX} {o a b e : Expr} {es : List Expr} {pos apos : Pos} {ta tb te to : TE} {tA : TA} {Ma Mb Me Mo : ME} {MA' : MA} {m : Str} {id : String}
end
section
variable {hp : List O} {env : List (Option S)} {n : Nat} {R : S → List O → Prop} {Xp : MX} {Ma Mb Mo : ME} {La : MA}
def rgO : Option O → Option (List Gn)
  | some o => regO o
  | none => none
@[simp] theorem rgO_reg {gs : List Gn} : rgO (some (.reg gs)) = some gs := rfl
@[simp] theorem rgO_lst {ds : List D} : rgO (some (.lst ds)) = some [.lst (ds.map .d)] := rfl
theorem regAt_O {m : Nat} : regAt hp m = rgO hp[m]? := by
  unfold regAt rgO
  cases hp[m]? <;> rfl
def gnO (r : Option (List Gn)) (k : Nat) : Option Gn := r.bind (·[k]?)
@[simp] theorem gnO_some {gs : List Gn} {k : Nat} : gnO (some gs) k = gs[k]? := rfl
theorem gnAt_O {m k : Nat} : gnAt hp m k = gnO (rgO hp[m]?) k := by
  unfold gnAt gnO
  rw [regAt_O]
@[simp] theorem obO_mu {m : Nat} : obO (.mu m) = some (m, 0) := rfl
@[simp] theorem obO_ob {m k : Nat} : obO (.ob m k) = some (m, k) := rfl
@[simp] theorem ndS_d {m : Nat} {x : D} : ndS m (.d x) = .d x := rfl
@[simp] theorem ndS_nd {m k : Nat} : ndS m (.nd k) = .ob m k := rfl
@[simp] theorem lstG_lst {xs : List Nd} : lstG (some (.lst xs)) = some xs := rfl
@[simp] theorem absorb_d {m : Nat} {x : D} : absorb hp m (.d x) = some (hp, .d x) := rfl
theorem absorb_mu {m j : Nat} {gs gs' : List Gn} (h1 : rgO hp[m]? = some gs) (h2 : rgO hp[j]? = some gs') (ne : j ≠ m) : absorb hp m (.mu j) = some ((hp.set m (.reg (gs ++ gs'.map (shG gs.length)))).set j .gone, .nd gs.length) := by
  unfold absorb
  dsimp only
  rw [if_neg ne, regAt_O, regAt_O, h1, h2]
def putH (r : Option (List Gn)) (hp : List O) (m k : Nat) (g : Gn) : List O := match r with
  | some gs => hp.set m (.reg (gs.set k g))
  | none => hp
@[simp] theorem putH_some {gs : List Gn} {m k : Nat} {g : Gn} : putH (some gs) hp m k g = hp.set m (.reg (gs.set k g)) := rfl
theorem putN_H {m k : Nat} {g : Gn} : putN hp m k g = putH (rgO hp[m]?) hp m k g := by
  unfold putN putH
  rw [regAt_O]
  all_goals (cases rgO hp[m]? <;> rfl)
@[simp] theorem kit_ll : kitB "list" "list" = some true := by decide +kernel
theorem dsOf_map : ∀ ds : List D, dsOf (ds.map .d) = some ds
  | [] => rfl
  | d :: ds => by show (dsOf (ds.map .d)).map _ = _; rw [dsOf_map ds]; rfl
@[simp] theorem dsOf_map' {ds : List D} : dsOf (ds.map .d) = some ds := dsOf_map ds
theorem nodeAt_O {m k : Nat} {gs : List Gn} (h : hp[m]? = some (.reg gs)) : nodeAt hp m k = gs[k]? := by
  unfold nodeAt
  rw [h]
theorem nodeDs_O {m k : Nat} {gs : List Gn} {ds : List D} (h : hp[m]? = some (.reg gs)) (h2 : gs[k]? = some (.lst (ds.map .d))) : nodeDs hp m k = some ds := by
  unfold nodeDs
  rw [nodeAt_O h, h2]
  exact dsOf_map ds
theorem val_node {m k : Nat} {gs : List Gn} {ds : List D} (h : hp[m]? = some (.reg gs)) (h2 : gs[k]? = some (.lst (ds.map .d))) : val hp (.ob m k) = some (.lst ds) := by
  rw [val_ob, nodeDs_O h h2]
  rfl
end
end Mp
set_option Elab.async false
set_option linter.all false
set_option maxRecDepth 100000
set_option maxHeartbeats 4000000
namespace Mp
open PySem PySem.Spec PyProof.Rows L2
def insO (C : Str) : Option Gn → Option (List (Str × Nd))
  | some (.ins D fs) => if D = C then some fs else none
  | _ => none
theorem insO_some {C : Str} {g : Option Gn} {fs : List (Str × Nd)} (h : insO C g = some fs) : g = some (.ins C fs) := by
  unfold insO at h
  split at h
  · split at h
    · rename_i e; cases h; rw [e]
    · cases h
  · cases h
def putNd (f : Str) (x : Nd) : List (Str × Nd) → List (Str × Nd)
  | [] => [(f, x)]
  | (g, y) :: r => if g = f then (g, x) :: r else (g, y) :: putNd f x r
theorem paired_put {K : Frag} {A : Av} {H : Hp} {as : List Addr} {f : Str} {x : Nd} {v : V} (h : RepN K A H as x v) : ∀ {fs : List (Str × Nd)} {ws : List (Str × V)}, RepNF K A H as fs ws → RepNF K A H as (putNd f x fs) (putF f v ws)
  | _, _, .nil => .cons ⟨rfl, h⟩ .nil
  | (g, y) :: _, (g', w) :: _, .cons p r => by
    obtain ⟨e, q⟩ := p
    have e : g = g' := e
    subst e
    unfold putF putNd
    by_cases c : g = f
    · rw [if_pos c, if_pos c]; exact .cons ⟨rfl, h⟩ r
    · rw [if_neg c, if_neg c]; exact .cons ⟨rfl, q⟩ (paired_put h r)
def mSetF (C f : Str) (Mo Mv : ME) : MS := fun s k => Mv s (fun y hp1 => Mo { s with hp := hp1 } (fun x hp2 => on (obO x) fun q => on (insO C (gnAt hp2 q.1 q.2)) fun fs => fs.length < 1000 ∧ on (absorb hp2 q.1 y) fun r => k.nx { s with hp := putN r.1 q.1 q.2 (.ins C (putNd f r.2 fs)) }) k.ex) k.ex
theorem sim_setF {K : Frag} {W : WX} {ta tv : TE} {Mo Mv : ME} {C f : Str} (hC : Cls K (He.ga K C)) (hf : NoAttr K (He.ga K C) f) (ho : SimE K W ta Mo) (hv : SimE K W tv Mv) : SimS K W (sFld K ta tv f) (mSetF C f Mo Mv) := by
  intro ρ α s H σ h k m D p
  refine hv α s H σ h.ok h.env _ _ m _ (fun y hp1 α1 H1 v m1 e1 w1 r1 => ?_) (p.postX h.pre)
  have h1 := h.ext e1 w1
  have p1 := p.at e1.step e1.pre.ban
  refine ho α1 { s with hp := hp1 } H1 σ w1 h1.env _ _ m1 _ (fun x hp2 α2 H2 u m2 e2 w2 r2 => ?_) (p1.postX h1.pre)
  have h2 := h1.ext e2 w2
  obtain ⟨⟨n, j⟩, g1, m2⟩ := on.ex m2
  obtain ⟨fs, g2, l, m2⟩ := on.ex m2
  obtain ⟨⟨hp3, z⟩, g3, m2⟩ := on.ex m2
  obtain ⟨q, a, a1, a2, rfl⟩ := r2.obj g1
  obtain ⟨α3, q3, w3, e3, b1, b2, b3, b4⟩ := absorb_ok w2 (r1.mono e2) g3 (insO_some g2) a1 a2
  obtain ⟨dx, ws, c1, c2⟩ := w3.gn b3 b1 b2
  obtain ⟨w4, e4⟩ := w3.node_ (x := .ins (He.ga K C) dx (putF f v ws)) (g' := .ins C (putNd f z fs)) b3 b1 b2 fun st => ⟨dx, _, upd_same, L2.Paired.mapP (paired_put b4 c2) fun _ _ t => ⟨t.1, t.2.mono st fun _ _ h => h⟩⟩
  refine ⟨a, _, dx, ws, rfl, c1, hC, hf, by rw [← paired_len c2]; exact l, ?_⟩
  exact p1.nx _ α3 _ σ m2 ((h2.ext e3 w3).ext e4 w4) ((e2.trans e3).trans e4).step ((e2.trans e3).trans e4).pre.ban
def noE : XK := fun _ _ _ => False
theorem pass_no {P : Program} {w : World} {X : Cx} : Passes (L2.CX P w) X noE := by
  intro pins σ H s e s' I h
  obtain ⟨_, _, _, _, _, _, _, _, _, _, _, _, z⟩ := h
  exact z.elim
end Mp
set_option Elab.async false
set_option linter.all false
set_option maxRecDepth 100000
set_option maxHeartbeats 4000000
namespace Mp
open PySem PySem.Spec PyProof.Rows L2
section
variable {X : Cx} {W : WX} {o v e : Expr} {es : List Expr} {pos apos : Pos} {to tv te : TE} {tA : TA} {Mo Mv Me : ME} {MA' : MA}
theorem ds_setF (K : Frag) {C f : Str} {p' : Pos} (hC : Cls K (He.ga K C)) (hf : NoAttr K (He.ga K C) f) (ho : DE X W o to Mo) (hv : DE X W v tv Mv) (hs : swapsWith v (some (.Attribute o f p')) pos.line X.env = pure false) (hK : X.K = K := by rfl) :
    DS X W (.Assign [.Attribute o f p'] v pos) (sFld K to tv f) (mSetF C f Mo Mv) := by subst hK; exact ⟨ps_fld ho.p hv.p hs, sim_setF hC hf ho.s hv.s⟩
def propB (C f : Str) (p : Frag → Addr) (g : Frag → Addr) : Frag → Bool := fun K =>
  He.eqO (PySem.W.findIn K (.ref (He.ga K C)) f) (some (some (.ref (p K)))) && (decide (PySem.W.specialIn K (.ref (p K)) "__get__" = some (some (.builtin "property.__get__"))) && (decide (PySem.W.takesIn K (.ref (p K)) = some true) && (match PySem.W.recIn K (p K) "property" with
    | some (.ref g' :: _) => decide (g' = g K)
    | _ => false)))
theorem propB_ok {K : Frag} {C f : Str} {p g : Frag → Addr} (h : propB C f p g K = true) : PropOf K (He.ga K C) f (p K) (g K) := by
  unfold propB at h
  obtain ⟨h1, h⟩ := He.ba h
  obtain ⟨h2, h⟩ := He.ba h
  obtain ⟨h3, h4⟩ := He.ba h
  refine ⟨He.eqO_ok h1, of_decide_eq_true h2, of_decide_eq_true h3, ?_⟩
  split at h4
  · rename_i g' rest e
    have := of_decide_eq_true h4
    subst this
    exact ⟨rest, e⟩
  · cases h4
def pAd (C f : Str) (K : Frag) : Addr := He.ma K (He.ga K C) f
def gAd (C f : Str) (K : Frag) : Addr := match PySem.W.recIn K (pAd C f K) "property" with
  | some (.ref g :: _) => g
  | _ => 0
end
section
variable {hp : List O} {env : List (Option S)} {n : Nat} {R : S → List O → Prop} {Xp : MX} {Mo Mv : ME} {La : MA} {nx bk ct : PS → Prop} {rt : S → List O → Prop} {ex : MX}
@[simp] theorem insO_ins {C : Str} {fs : List (Str × Nd)} : insO C (some (.ins C fs)) = some fs := if_pos rfl
@[simp ↓] theorem x_setF {C f : Str} : mSetF C f Mo Mv ⟨hp, env, n⟩ ⟨nx, bk, ct, rt, ex⟩ = Mv ⟨hp, env, n⟩ (fun y hp1 => Mo ⟨hp1, env, n⟩ (fun x hp2 => onH (obO x) (fun q => onH (insO C (gnO (rgO hp2[q.1]?) q.2)) (fun fs => fs.length < 1000 ∧ onH (absorb hp2 q.1 y) (fun r => nx ⟨putH (rgO r.1[q.1]?) r.1 q.1 q.2 (.ins C (putNd f r.2 fs)), env, n⟩) .mk) .mk) .mk) ex) ex := by
  unfold mSetF
  simp only [gnAt_O, putN_H]
  rfl
end
end Mp
set_option Elab.async false
set_option linter.all false
set_option maxRecDepth 100000
set_option maxHeartbeats 4000000
namespace Mp
open PySem PySem.Spec PyProof.Rows L2
structure PrD where
  cls : Str
  f : Str
  qual : Str
  st : Stmt
def fnA (K : Frag) (a : Addr) : He.FnW := match K.lookup a with
  | some ⟨_, _, .func fd, _⟩ => some (fd.name, fd.qualname, fd.params, fd.body, fd.scope, fd.globals, fd.closure, fd.builtins)
  | _ => none
def PrD.val (d : PrD) : He.FnW := some (d.f, d.qual, defArgs d.st, .stmts (defBody d.st), defScope d.st, mainGlobals, [], builtinsNs)
def PrD.obs (K : Frag) (d : PrD) : He.FnW := fnA K (gAd d.cls d.f K)
def PrD.ok (K : Frag) (d : PrD) : Bool := propB d.cls d.f (pAd d.cls d.f) (gAd d.cls d.f) K && (PySem.W.keepIn K (.ref (gAd d.cls d.f K)) && (match K.lookup (gAd d.cls d.f K) with
  | some ⟨_, _, .func fd, _⟩ => PySem.W.codeIn K fd.code d.qual && (He.dflB K fd.defaults [] && He.kwdB K fd.kwdefaults [])
  | _ => false))
theorem PrD.good {K : Frag} {d : PrD} (e : PrD.obs K d = d.val) (c : d.ok K = true) : PropOf K (He.ga K d.cls) d.f (pAd d.cls d.f K) (gAd d.cls d.f K) ∧ ∃ fd, FunD K d.f d.qual (defArgs d.st) (defBody d.st) (defScope d.st) [] [] (gAd d.cls d.f K) fd := by
  obtain ⟨c0, c1⟩ := He.ba c
  obtain ⟨kp, c2⟩ := He.ba c1
  refine ⟨propB_ok c0, ?_⟩
  unfold PrD.obs fnA at e
  cases q : K.lookup (gAd d.cls d.f K) with
  | none =>
    rw [q] at c2
    cases c2
  | some o =>
    obtain ⟨oc, od, dt, osl⟩ := o
    rw [q] at c2 e
    cases dt with
    | func fd =>
      obtain ⟨n1, n2, n3, n4, n5, n6, n7, n8, n9, n10, n11, n12, n13, n14, n15⟩ := fd
      have e2 : (some (n1, n2, n3, n4, n5, n6, n7, n15) : He.FnW) = some (d.f, d.qual, defArgs d.st, .stmts (defBody d.st), defScope d.st, mainGlobals, [], builtinsNs) := e
      simp only [Option.some.injEq, Prod.mk.injEq] at e2
      obtain ⟨h1, h2, h3, h4, h5, h6, h7, h8⟩ := e2
      subst h1 h2 h3 h4 h5 h6 h7 h8
      have c3 : (PySem.W.codeIn K n13 d.qual && (He.dflB K n8 [] && He.kwdB K n9 [])) = true := c2
      obtain ⟨k1, k2⟩ := He.ba c3
      obtain ⟨k3, k4⟩ := He.ba k2
      exact ⟨_, ⟨oc, od, n8, n9, n10, n11, n12, n13, n14, osl, rfl, q, k1, He.dflB_ok k3, He.kwdB_ok k4⟩, kp⟩
    | _ => cases c2
abbrev AlY : Type := (AlX × Bool) × List He.FnW
def obsY (P : Program) (fa : List He.Fa) (fn : List He.DefD) (xs : List XcD) (bs : List (Frag → Bool)) (ps : List PrD) (K : Frag) : AlY := ((obsX P fa fn xs bs K, ps.all fun d => d.ok K), ps.map fun d => d.obs K)
def valY (fn : List He.DefD) (xs : List XcD) (ps : List PrD) : AlY := ((valX fn xs, true), ps.map PrD.val)
def SaysY (P : Program) (fa : List He.Fa) (fn : List He.DefD) (xs : List XcD) (bs : List (Frag → Bool)) (ps : List PrD) (K : Frag) : Prop := obsY P fa fn xs bs ps K = valY fn xs ps
section
variable {P : Program} {fa : List He.Fa} {fn : List He.DefD} {xs : List XcD} {bs : List (Frag → Bool)} {ps : List PrD} {K : Frag}
theorem SaysY.x (c : SaysY P fa fn xs bs ps K) : SaysX P fa fn xs bs K := congrArg (fun z : AlY => z.1.1) c
theorem SaysY.prop (c : SaysY P fa fn xs bs ps K) (i : Nat) {d : PrD} (h : ps[i]? = some d := by rfl) : PropOf K (He.ga K d.cls) d.f (pAd d.cls d.f K) (gAd d.cls d.f K) ∧ ∃ fd, FunD K d.f d.qual (defArgs d.st) (defBody d.st) (defScope d.st) [] [] (gAd d.cls d.f K) fd := by
  have e : ps.map (fun d => d.obs K) = ps.map PrD.val := congrArg (fun z : AlY => z.2) c
  have a : (ps.all fun d => d.ok K) = true := congrArg (fun z : AlY => z.1.2) c
  have q := congrArg (fun l => l[i]?) e
  simp only [List.getElem?_map, h, Option.map_some] at q
  exact PrD.good (Option.some.inj q) (List.all_eq_true.mp a d (List.mem_of_getElem? h))
end
end Mp
set_option Elab.async false
set_option linter.all false
set_option maxRecDepth 100000
set_option maxHeartbeats 4000000
namespace Mp
open PySem PySem.Spec PyProof.Rows L2
section
variable {X : Cx} {W : WX} {e : Expr} {es : List Expr} {kws : List Keyword} {pos : Pos} {t tk : TA} {Ma Mkw : MA}
end
section
variable {hp : List O} {env : List (Option S)} {n : Nat} {R : S → List O → Prop} {Xp : MX} {Mo : ME} {La Lk : MA} {nx : PS → Prop}
end
end Mp
set_option Elab.async false
set_option linter.all false
set_option maxRecDepth 100000
set_option maxHeartbeats 4000000
namespace Mp
open PySem PySem.Spec PyProof.Rows L2
end Mp
set_option Elab.async false
set_option linter.all false
set_option maxRecDepth 100000
set_option maxHeartbeats 4000000
namespace Mp
open PySem PySem.Spec PyProof.Rows L2
section
variable {X : Cx} {pins : List (Addr × Obj)} {σ : L2.St} {H : Hp} {s : Shared} {k : Nat} {C f : Addr} {fd : FuncData} {ps : List Str} {sp : Sp}
theorem ins_at {a dx : Addr} {fs : List (Str × V)} (I : Inv X pins σ H s) (e : H a = some (.ins C dx fs)) : ∃ od, PySem.W.InstAt s.heap a (PySem.W.instObj C dx) C (some od) := by
  obtain ⟨_, O, _⟩ := ins_get I.hok e
  obtain ⟨od, J, _⟩ := O.look
  exact ⟨od, J⟩
theorem run_here {A : Around} {CX : CXT} {E : XK} {us : List Value} {vs : List V} {Q : VK} (F : FnOk X.prog X.w X.K X.mg X.base CX k f fd ps sp) (hb : Binds X.K fd ps []) (hr : Room k A) (hA : A.frames = X.A.frames) (hx : Passes CX X E) (I : Inv X pins σ H s) (r : Vals vs us) (h : sp vs H Q E) :
    wpAny (model X.prog X.w) A (call (.ref f) us) (EP X pins σ Q) X.xe s := by
  have e := I.env0
  have hl := F.len _ _ _ _ h
  have e0 : Env0 X.prog X.w X.K X.mg X.base A X.stack s H := ⟨by rw [hA]; exact e.frames, e.mod, e.bs, e.bsz, e.funs, e.frf, e.hok, e.bare⟩
  have B := hb s us I.kIn (by rw [← hl]; simp [r.length])
  rw [List.append_nil] at B
  refine wpAny_call (codeAny_mono (F.run A X.stack s H ⟨us, []⟩ us vs Q E hr e0 B r h) fun r s' hq => ?_)
  cases r with
  | error er => exact hx pins σ H s er s' I hq
  | ok fl =>
    cases fl with
    | ret u => exact I.after hq
    | next => exact False.elim hq
    | brk => exact False.elim hq
    | cont => exact False.elim hq
end
def rDunB (C : Addr) (sp : Sp) : R2 := fun x y H Q => ∃ a dx fs b dy gs, x = .ref a ∧ y = .ref b ∧ H a = some (.ins C dx fs) ∧ H b = some (.ins C dy gs) ∧ sp [x, y] H Q noE
theorem op_dunB {X : Cx} {k : Nat} {C f : Addr} {fd : FuncData} {ps : List Str} {sp : Sp} {op : Operator} (d : Meth X.K C (PySem.dunder op.info.2) f) (sf : PySem.W.selfFirst X.K C = true) (F : FnOk X.prog X.w X.K X.mg X.base (L2.CX X.prog X.w) k f fd ps sp) (hr : Room k X.A) (hb : Binds X.K fd ps []) :
    OpR X (binaryOp op) (rDunB C sp) := by
  intro pins s σ H x y v u Q I rx ry h
  obtain ⟨a, dx, fs, b, dy, gs, rfl, rfl, ha, hb', q⟩ := h
  cases (show v = Value.ref a from rx)
  cases (show u = Value.ref b from ry)
  obtain ⟨_, J⟩ := ins_at I ha
  obtain ⟨_, J'⟩ := ins_at I hb'
  obtain ⟨m, hF⟩ := I.fr
  refine PySem.W.binop_K hF I.ok.mod.kin J J'.type sf d.at_ d.fn ?_
  refine wpAny_mono (run_here (us := [.ref a, .ref b]) (vs := [.ref a, .ref b]) F hb hr rfl pass_no I (.cons rfl (.cons rfl .nil)) q) (fun w s' z => ?_) fun _ _ z => z
  obtain ⟨z', H', I', rz, qz⟩ := z
  exact SlX.cmpback rz ⟨z', H', I', rz, qz⟩
def rDunE (K : Frag) (C : Addr) (sp : Sp) : R2 := fun x y H Q => ∃ a dx fs t, x = .ref a ∧ H a = some (.ins C dx fs) ∧ TyX K H y t ∧ PySem.W.notFirst K C t = true ∧ sp [x, y] H Q noE
theorem op_dunE {X : Cx} {k : Nat} {C f : Addr} {fd : FuncData} {ps : List Str} {sp : Sp} (d : Meth X.K C "__eq__" f) (F : FnOk X.prog X.w X.K X.mg X.base (L2.CX X.prog X.w) k f fd ps sp) (hr : Room k X.A) (hb : Binds X.K fd ps []) :
    OpR X (compareOp .Eq) (rDunE X.K C sp) := by
  intro pins s σ H x y v u Q I rx ry h
  obtain ⟨a, dx, fs, t, rfl, ha, ty, nf, q⟩ := h
  cases (show v = Value.ref a from rx)
  obtain ⟨_, J⟩ := ins_at I ha
  obtain ⟨P, Z, p, _⟩ := kit_of I ry ty
  obtain ⟨m, hF⟩ := I.fr
  show wpAny _ _ (richCompare .Eq (.ref a) u) _ _ _
  refine PySem.W.cmp_K (op := .Eq) (tb := t) hr.units0 hF I.ok.mod.kin J (Z.ty _ _ I.kIn p) nf d.at_ d.fn ?_
  refine wpAny_mono (run_here (us := [.ref a, u]) (vs := [.ref a, y]) F hb hr rfl pass_no I (.cons rfl (.cons ry .nil)) q) (fun w s' z => ?_) fun _ _ z => z
  obtain ⟨z', H', I', rz, qz⟩ := z
  exact SlX.cmpback rz ⟨z', H', I', rz, qz⟩
def rDunI (C : Addr) (sp : Sp) (ng : Bool) : R2 := fun x y H Q => ∃ a dx fs, y = .ref a ∧ H a = some (.ins C dx fs) ∧ sp [y, x] H (fun z H' => ∃ b, z = .bl b ∧ Q (.bl (b != ng)) H') noE
theorem op_dunI {X : Cx} {k : Nat} {C f : Addr} {fd : FuncData} {ps : List Str} {sp : Sp} (d : Meth X.K C "__contains__" f) (F : FnOk X.prog X.w X.K X.mg X.base (L2.CX X.prog X.w) k f fd ps sp) (hr : Room k X.A) (hb : Binds X.K fd ps []) :
    OpR X (compareOp .In) (rDunI C sp false) := by
  intro pins s σ H x y v u Q I rx ry h
  obtain ⟨a, dx, fs, rfl, ha, q⟩ := h
  cases (show u = Value.ref a from ry)
  obtain ⟨_, J⟩ := ins_at I ha
  obtain ⟨m, hF⟩ := I.fr
  refine PySem.W.in_K hF I.ok.mod.kin J d.at_ d.fn ?_
  refine wpAny_mono (run_here (us := [.ref a, v]) (vs := [.ref a, x]) F hb hr rfl pass_no I (.cons rfl (.cons rx .nil)) q) (fun w s' z => ?_) fun _ _ z => z
  obtain ⟨z', H', I', rz, b, rfl, qz⟩ := z
  cases (show w = Value.bool b from rz)
  exact wpAny_truthy_bool ⟨.bl b, H', I', rfl, by simpa using qz⟩
end Mp
set_option Elab.async false
set_option linter.all false
set_option maxRecDepth 100000
set_option maxHeartbeats 4000000
namespace Mp
open PySem PySem.Spec PyProof.Rows L2
section
variable {X : Cx} {pins : List (Addr × Obj)} {σ : L2.St} {H : Hp} {s : Shared}
end
def inE (x : D) (ds : List D) : Bool := ds.any fun y => eqD y x
end Mp
set_option Elab.async false
set_option linter.all false
set_option maxRecDepth 100000
set_option maxHeartbeats 4000000
namespace Mp
open PySem PySem.Spec PyProof.Rows L2
end Mp
set_option Elab.async false
set_option linter.all false
set_option maxRecDepth 100000
set_option maxHeartbeats 4000000
namespace Mp
open PySem PySem.Spec PyProof.Rows L2
def frz (hp : List O) : S → Option (D × List O)
  | .d d => some (d, hp)
  | .mu m => match hp[m]? with
    | some (.lst ds) => some (.lst ds, hp.set m .gone)
    | _ => none
  | _ => none
section
variable {X : Cx} {W : WX} {es : List Expr} {tA : TA} {MA' : MA} {pos : Pos}
end
section
variable {hp : List O} {env : List (Option S)} {n : Nat} {R : S → List O → Prop} {Xp : MX} {La : MA}
end
end Mp
set_option Elab.async false
set_option linter.all false
set_option maxRecDepth 100000
set_option maxHeartbeats 4000000
namespace Mp
open PySem PySem.Spec PyProof.Rows L2
def objF (C : Str) : S → Option (List (Str × D))
  | .d (.obj D fs ds) => if D = C then some (fs.zip ds) else none
  | _ => none
@[simp] theorem objF_obj {C : Str} {fs : List Str} {ds : List D} : objF C (.d (.obj C fs ds)) = some (fs.zip ds) := if_pos rfl
theorem objF_some {C : Str} {x : S} {l : List (Str × D)} (h : objF C x = some l) : ∃ fs ds, x = .d (.obj C fs ds) ∧ l = fs.zip ds := by
  unfold objF at h
  split at h
  · split at h
    · rename_i e; cases h; subst e; exact ⟨_, _, rfl, rfl⟩
    · cases h
  · cases h
theorem zip_rep {K : Frag} {A : Av} {H : Hp} {f : Str} : ∀ {fs : List Str} {ds : List D} {vs : List V}, RepL K A H ds vs →
    (∀ d, (fs.zip ds).lookup f = some d → ∃ v, (fs.zip vs).lookup f = some v ∧ Rep K A H d v) ∧ ((fs.zip ds).lookup f = none → (fs.zip vs).lookup f = none)
  | [], _, _, _ => ⟨fun d h => by simp at h, fun _ => rfl⟩
  | g :: fs, [], _, r => by cases r; exact ⟨fun d h => by simp at h, fun _ => rfl⟩
  | g :: fs, d :: ds, _, ⟨v, vs, e, h, t⟩ => by
    subst e
    obtain ⟨i1, i2⟩ := zip_rep (fs := fs) (f := f) t
    simp only [List.zip_cons_cons, List.lookup]
    by_cases c : (f == g) = true
    · rw [c]; exact ⟨fun y z => by cases z; exact ⟨v, rfl, h⟩, fun z => by cases z⟩
    · rw [Bool.not_eq_true] at c; rw [c]; exact ⟨i1, i2⟩
theorem SRep.objA {K : Frag} {α : Mp_} {hp : List O} {H : Hp} {x : S} {v : V} {C : Str} {l : List (Str × D)} (r : SRep K α hp H x v) (h : objF C x = some l) :
    ∃ a dx ws, v = .ref a ∧ H a = some (.ins (He.ga K C) dx ws) ∧ (∀ f d, l.lookup f = some d → ∃ u, ws.lookup f = some u ∧ Rep K (Al α hp) H d u) ∧ (∀ f, l.lookup f = none → ws.lookup f = none) := by
  obtain ⟨fs, ds, rfl, rfl⟩ := objF_some h
  obtain ⟨a, vs, dx, e, h1, r1⟩ := r
  exact ⟨a, dx, _, e, h1.1, fun f d q => (zip_rep r1).1 d q, fun f q => (zip_rep r1).2 q⟩
def mFldO (C f : Str) (Ma : ME) : ME := fun s R Xp => Ma s (fun x hp1 => on (objF C x) fun fs => on (fs.lookup f) fun d => R (.d d) hp1) Xp
theorem sim_fldO {K : Frag} {W : WX} {ta : TE} {Ma : ME} {C f : Str} (hC : Cls K (He.ga K C)) (hf : NoAttr K (He.ga K C) f) (ha : SimE K W ta Ma) : SimE K W (tFld K ta f) (mFldO C f Ma) := by
  intro α s H σ w e R Xp m Q q qx
  refine ha α s H σ w e _ _ m _ (fun x hp1 α1 H1 v1 m1 e1 w1 r1 => ?_) qx
  obtain ⟨fs, g1, m1⟩ := on.ex m1
  obtain ⟨d, g2, m1⟩ := on.ex m1
  obtain ⟨a, dx, ws, rfl, h3, h4, _⟩ := r1.objA g1
  obtain ⟨v, h5, h6⟩ := h4 f d g2
  exact ⟨a, _, dx, ws, v, rfl, h3, hC, hf, h5, q (.d d) _ α1 _ v m1 e1 w1 h6⟩
def mPropO (C : Str) (M : MF) (Mo : ME) : ME := fun s R Xp => Mo s (fun o hp1 => on (objF C o) fun _ => M hp1 [o] R noX) Xp
theorem sim_propO {K : Frag} {W : WX} {fr : Bool} {M : MF} {C : Str} {to : TE} {Mo : ME} (ho : SimE K W to Mo) : SimE K W (tProp (He.ga K C) (spM K 1 fr M) [] noE to) (mPropO C M Mo) := by
  intro α s H σ w e R Xp mm Q q qx
  refine ho α s H σ w e _ _ mm _ (fun o hp1 α1 H1 u m1 e1 w1 r1 => ?_) qx
  obtain ⟨fs, g1, m1⟩ := on.ex m1
  obtain ⟨a, dx, ws, rfl, h3, _⟩ := r1.objA g1
  exact ⟨a, dx, ws, rfl, h3, rfl, α1, hp1, _, R, noX, w1, .cons r1 .nil, m1, fun s' hp' α' H' v r e' w' sr _ => q s' hp' α' H' v r (e1.trans e') w' sr, fun _ _ _ _ _ _ r => r.elim⟩
def frzI (C : Str) : Option O → Option (List Str × List D)
  | some (.reg [.ins D fs]) => if D = C then (dsOf (fs.map (·.2))).map fun ds => (fs.map (·.1), ds) else none
  | _ => none
theorem frzI_some {C : Str} {o : Option O} {q : List Str × List D} (h : frzI C o = some q) : ∃ fs, o = some (.reg [.ins C fs]) ∧ dsOf (fs.map (·.2)) = some q.2 ∧ q.1 = fs.map (·.1) := by
  unfold frzI at h
  split at h
  · split at h
    · rename_i fs e
      subst e
      cases g : dsOf (fs.map (·.2)) with
      | none => rw [g] at h; cases h
      | some ds => rw [g] at h; cases h; exact ⟨fs, rfl, g, rfl⟩
    · cases h
  · cases h
theorem nf_zip {K : Frag} {A : Av} {H : Hp} {as : List Addr} : ∀ {fs : List (Str × Nd)} {ws : List (Str × V)} {ds : List D}, RepNF K A H as fs ws → dsOf (fs.map (·.2)) = some ds → ∃ vs, ws = (fs.map (·.1)).zip vs ∧ RepL K A H ds vs
  | [], _, ds, h, e => by cases h; cases e; exact ⟨[], rfl, .nil⟩
  | (g, .d x) :: r, _, ds, h, e => by
    cases h with
    | @cons _ w _ ws h t =>
      have e : dsOf (.d x :: r.map (·.2)) = some ds := e
      unfold dsOf at e
      cases q : dsOf (r.map (·.2)) with
      | none => rw [q] at e; cases e
      | some es =>
        rw [q] at e
        cases e
        obtain ⟨vs, e1, e2⟩ := nf_zip t q
        obtain ⟨h1, h2⟩ := h
        obtain ⟨w1, w2⟩ := w
        have h1 : g = w1 := h1
        subst h1
        exact ⟨w2 :: vs, by rw [e1]; rfl, .cons h2 e2⟩
  | (g, .nd _) :: _, _, _, _, e => by cases e
def mMakeO (C : Str) (n : Nat) (M : MF) (dd : List D) (Ma : MA) : ME := fun s R Xp => Ma s (fun ss hp1 => 1 + ss.length + dd.length = n ∧ M (hp1 ++ [.reg [.ins C []]]) (.ob hp1.length 0 :: (ss ++ dd.map S.d)) (fun v hp2 => v = .d .non ∧ on (frzI C hp2[hp1.length]?) fun q => R (.d (.obj C q.1 q.2)) (hp2.take hp1.length)) noX) Xp
theorem sim_makeO {K : Frag} {W : WX} {n : Nat} {fr : Bool} {M : MF} {C : Str} {dvs : List V} {dd : List D} {t : TA} {Ma : MA} (hd : ∀ A H, RepL K A H dd dvs) (ha : SimA K W t Ma) : SimE K W (tMake (He.ga K C) (spM K n fr M) dvs noE t) (mMakeO C n M dd Ma) := by
  intro α s H σ w e R Xp m Q q qx
  refine ha α s H σ w e _ _ m _ (fun ss hp1 α1 H1 vs m1 e1 w1 r1 => ?_) qx
  intro x dx hx hdx ne
  have e2 : Ext α1 hp1 H1 α1 hp1 (upd H1 dx (.own x)) := Ext.fresh hdx
  have w2 := w1.fresh (o := .own x) hdx
  have hx2 : upd H1 dx (.own x) x = none := by rw [upd_ne (Ne.symm ne)]; exact hx
  obtain ⟨w3, e3⟩ := w2.pushReg (x := .ins (He.ga K C) dx []) (g := .ins C []) hx2 fun st => ⟨dx, [], upd_same, .nil⟩
  have own0 : (α1.push (x, [])).own[hp1.length]? = some (x, []) := by
    show (α1.own ++ [(x, [])])[hp1.length]? = _
    rw [← w1.len, List.getElem?_append_right (Nat.le_refl _)]
    simp
  refine ⟨?_, α1.push (x, []), hp1 ++ [.reg [.ins C []]], .ob hp1.length 0 :: (ss ++ dd.map S.d), _, noX, w3, .cons ⟨(x, []), x, own0, rfl, rfl⟩ (srepL_app (hd _ _) (r1.mono (e2.trans e3))), m1.2, fun s' hp' α' H' v r e' w' sr _ => ?_, fun x hp' α' H' c d' r => r.elim⟩
  · have := r1.length
    have h2 := (hd noA H).length
    simp only [List.length_cons, List.length_append]
    have hm := m1.1
    rw [h2, this] at hm
    omega
  · obtain ⟨rfl, r⟩ := r
    obtain ⟨⟨ns, ds⟩, g, r⟩ := on.ex r
    obtain ⟨fs, g1, g2, g3⟩ := frzI_some g
    obtain ⟨p', h1, h2, h3⟩ := e'.pre.own _ _ own0
    have ex := (e2.trans e3).trans e'
    have gr := w'.obj _ _ p' g1 h1
    have ap : (adr p')[0]? = some x := by rw [show (adr p')[0]? = some p'.1 from rfl, h2]
    obtain ⟨dx', ws, h4, h5⟩ := gr.2 0 _ x rfl ap
    obtain ⟨us, e4, r4⟩ := nf_zip h5 g2
    have cw := w'.cut hp1.length
    have na : ¬ Al (α'.cut hp1.length) (hp'.take hp1.length) x := by
      have at0 : α'.own[hp1.length]? = some p' := h1
      have px : x = p'.1 := h2.symm
      have ng : O.reg [.ins C fs] ≠ .gone := fun z => nomatch z
      rintro (⟨j, q', u, z1, z2, z3, z4⟩ | z)
      · obtain ⟨k1, k2⟩ := take_get z1
        obtain ⟨_, k4⟩ := take_get z2
        exact w'.inj j hp1.length u _ q' p' k4 k2 z3 g1 at0 ng (by omega) x z4 (.inl px)
      · exact (w'.ban x z).2 ⟨_, p', _, at0, g1, ng, .inl px⟩
    have cx : Ext α1 hp1 H1 (α'.cut hp1.length) (hp'.take hp1.length) H' := by
      obtain ⟨_, mt, _⟩ := cw
      refine ⟨⟨OwnLe.take ex.pre.own (by rw [w1.len]; exact Nat.le_refl _), ex.pre.ban⟩, ⟨ex.step.keep, fun a z => ex.step.newA a (z.imp (mt a) id), fun a z => ex.step.newM a (mt a z), al_sub, ex.step.stay⟩, fun j p z1 z2 => ?_⟩
      have := (take_get (show (α'.own.take hp1.length)[j]? = some p from z2)).1
      rw [w1.len] at z1
      omega
    refine ⟨sr, q _ _ _ H' _ r (e1.trans cx) cw.1 ⟨x, us, dx', rfl, ⟨by rw [h4, e4, g3], na⟩, RepL.mono cw.2.2 _ _ r4⟩⟩
end Mp
set_option Elab.async false
set_option linter.all false
set_option maxRecDepth 100000
set_option maxHeartbeats 4000000
namespace Mp
open PySem PySem.Spec PyProof.Rows L2
def ItT (t it : Addr) (i : Nat) : HO := .ext fun h => h.IsTupleIter it t i
theorem itT_ok {P : Program} {w : World} {H : Hp} {h : Heap} {t it : Addr} {i : Nat} (e : h.IsTupleIter it t i) : ObjOk P w H h it (ItT t it i) :=
  ⟨e, (by obtain ⟨o, ho, _⟩ := e; exact ⟨o, ho⟩), fun h1 h2 q k => q.at fun o z => k o z⟩
def rIterT (K : Frag) (n : Nat) : List V → Hp → VK → Prop := fun xs H Q => ∃ (t : Addr) (zs : List V), xs = [.ref t] ∧ SqT K H t zs ∧ ∀ it, H it = none → n ≤ it → Q (.ref it) (upd H it (ItT t it 0))
theorem call_iterT {X : Cx} : CallR X (.builtin "iter") (rIterT X.K X.s_0.heap.objs.size) := by
  intro pins st σ H xs us Q I rv h
  obtain ⟨t, zs, rfl, hq, q⟩ := h
  obtain ⟨u, rfl, ru⟩ := vals1 rv
  cases ru
  obtain ⟨its, _, pl, _⟩ := I.tuple hq
  refine Calls.call_function_entry (by decide +kernel) (by decide +kernel) PySem.W.kdk_entry_iter (PySem.W.kdk_args_iter _) ?_
  unfold Builtin.«iter»
  refine wpAny_bind (m := someArgs "iter" 1 2 _) (wpAny_of_eq (a := [Value.ref t]) (by first | rfl | kernel_rfl!) ?_)
  refine wpAny_bind (m := pyIter (.ref t)) (wpAny_pyIter_tuple (show st.heap.IsTuple t its.toArray from pl) ?_)
  have young : H st.heap.objs.size = none := I.hok.fresh (Nat.le_refl _)
  have made : (st.heap.push { cls := .type "tuple_iterator", data := .fields #[.ref t, .int 0 0] }).IsTupleIter st.heap.objs.size t 0 := ⟨_, Heap.get?_push_size _ rfl, rfl, rfl⟩
  exact wpAny_pure ⟨_, rfl, .ref st.heap.objs.size, _, I.laid (t' := st.toks) (fun _ _ z => Heap.get?_push_of_some _ z) (Nat.le_refl _) (itT_ok made), rfl, q _ young I.sz⟩
theorem fn_at {CXf : CXT} {P : Program} {w : World} {K : Frag} {mg : Str → Option Value} {base : Heap} {k : Nat} {f : Addr} {x qual : Str} {params : Arguments} {body : List Stmt} {scope : Scope} {dvs : List V} {kws : List (Str × V)} {fd : FuncData} {N ps : List Str}
    (F : FunD K x qual params body scope dvs kws f fd) (S : FnScope N ps scope) {A : Around} {outer : List Env} {st : Shared} {H : Hp} {args : Args} {us : List Value} {vs : List V} {Q : VK} {E : XK}
    (hl : vs.length = ps.length) (hr : Room (k + 1) A) (e0 : Env0 P w K mg base A outer st H) (hb : BindsTo st fd args (ps.zip us)) (rv : Vals vs us)
    (bd : ∀ cdv : Value, Room k (A.deeper (envOfC qual scope st.heap.objs.size f cdv)) → ∃ t, PSs (cxOf CXf P w K mg base N qual scope f cdv A outer st H E) body t ∧ t { nx := fun _ H' => Q .non H', rt := Q } (start N vs) H) :
    codeAny (model P w) A (.call (.ref f) args) (CR CXf outer P w H st Q E) st := by
  obtain ⟨oc, od, dV, kV, doc, pm, an, cdv, ct, osl, rfl, lk, hcd, _, _⟩ := F.ex
  have keepK : K.In st.heap := e0.mod.kin.keeps fun b o z => (e0.bs b o z).1
  have nolim : st.heap.NoLimit := e0.mod.nolimit.keeps fun b o z => (e0.bs b o z).1
  have kinds : ∀ y ∈ ps.zip us, scope.names.lookup y.1 = some .local ∨ (scope.names.lookup y.1 = some .cell ∧ ((cellsFrom (st.heap.objs.size + 1) scope.names []).lookup y.1).isSome = true) := by
    rintro ⟨n, v⟩ hy
    exact (S.par n (List.of_mem_zip hy).1).imp id fun z => ⟨z, PySem.W.cellsFrom_some _ _ _ (.inl z)⟩
  refine codeAny_call_function hr.depth (keepK _ _ lk) rfl S.co S.gen rfl (PySem.W.codeRec_of keepK hcd) (hb _ _ _ _ (wpAny_newFunctionEnv_cells S.kind kinds ?_))
  rintro env rfl s1 nw
  refine ⟨nolim.keeps nw.toInCall.keep, codeAny_func ?_⟩
  obtain ⟨t, ht, hq⟩ := bd cdv (hr.deeper _)
  have I0 : Inv (cxOf CXf P w K mg base N qual scope f cdv A outer st H E) [] (start N vs) H s1 := inv_start S hr.hd e0 hl rv nw
  refine wpAny_mono (ht.run [] s1 (start N vs) H _ I0 hq) (fun fl s2 z => ?_) fun _ _ z => z
  have ended : ∀ {σ2 : L2.St} {H2 : Hp} {v : V} {u : Value}, Inv (cxOf CXf P w K mg base N qual scope f cdv A outer st H E) [] σ2 H2 s2 → RelV v u → Q v H2 → CE outer P w H st Q u s2 :=
    fun {σ2 H2 v u} J r q => ⟨v, H2, J.os, J.bare, J.base, J.hok, r, q⟩
  match fl, z with
  | .ret u, ⟨v, _, H2, J, r, q⟩ => exact ended J r q
  | .next, ⟨_, H2, J, q⟩ => exact ended (v := V.non) (u := Value.none) J rfl q
  | .brk, ⟨_, _, _, q⟩ => exact q.elim
  | .cont, ⟨_, _, _, q⟩ => exact q.elim
structure ItC2 (P : Program) (w : World) (K : Frag) (mg : Str → Option Value) (base : Heap) (k : Nat) (C : Addr) (fld : Str) (f : Addr) (fd : FuncData) : Prop where
  me : Meth K C "__iter__" f
  cls : Cls K C
  no : NoAttr K C fld
  bi : Binds K fd ["self"] []
  run : ∃ (x qual : Str) (params : Arguments) (body : List Stmt) (scope : Scope), FunD K x qual params body scope [] [] f fd ∧ FnScope ["self"] ["self"] scope ∧
    ∀ (cdv : Value) (A : Around) (outer : List Env) (s : Shared) (H : Hp) (E : XK), Room k (A.deeper (envOfC qual scope s.heap.objs.size f cdv)) →
      ∃ t, PSs (cxOf (L2.CX P w) P w K mg base ["self"] qual scope f cdv A outer s H E) body t ∧ ∀ (D : Ends) (σ : L2.St) (H' : Hp), tCB (rIterT K s.heap.objs.size) (tCons (tFld K (tVar 0) fld) tNil) σ H' D.rt → t D σ H'
section
variable {X : Cx} {pins : List (Addr × Obj)} {σ : L2.St} {H : Hp} {s : Shared} {k : Nat} {C f a t dx : Addr} {fd : FuncData} {fld : Str} {fs : List (Str × V)} {zs : List V}
theorem iter_here {A : Around} (c : ItC2 X.prog X.w X.K X.mg X.base k C fld f fd) (hr : Room (k + 1) A) (hA : A.frames = X.A.frames) (I : Inv X pins σ H s) (ha : H a = some (.ins C dx fs)) (hl : fs.lookup fld = some (.ref t)) (hq : SqT X.K H t zs)
    {Q : Value → Shared → Prop} (q : ∀ it s', Inv X pins σ H s' → s'.heap.IsTupleIter it t 0 → FpOk X pins H it → Q (.ref it) s') : wpAny (model X.prog X.w) A (pyIter (.ref a)) Q X.xe s := by
  obtain ⟨_, J⟩ := ins_at I ha
  obtain ⟨m, hF⟩ := I.fr
  refine PySem.W.owit_iter hF I.ok.mod.kin J c.me.at_ c.me.fn ?_
  obtain ⟨x, qual, params, body, scope, F, S, run⟩ := c.run
  have e := I.env0
  have e0 : Env0 X.prog X.w X.K X.mg X.base A X.stack s H := ⟨by rw [hA]; exact e.frames, e.mod, e.bs, e.bsz, e.funs, e.frf, e.hok, e.bare⟩
  have B := c.bi s [.ref a] I.kIn (by rfl)
  rw [List.append_nil] at B
  refine wpAny_call (codeAny_mono (fn_at (CXf := L2.CX X.prog X.w) (Q := fun v H' => ∃ it, v = .ref it ∧ s.heap.objs.size ≤ it ∧ H it = none ∧ H' = upd H it (ItT t it 0)) (E := noE) (vs := [.ref a]) F S rfl hr e0 B (.cons rfl .nil) fun cdv hr' => ?_) fun r s' hz => ?_)
  · obtain ⟨tt, h1, h2⟩ := run cdv A X.stack s H noE hr'
    refine ⟨tt, h1, h2 _ _ _ ?_⟩
    refine ⟨.ref a, rfl, a, C, dx, fs, .ref t, rfl, ha, c.cls, c.no, hl, ?_⟩
    exact ⟨t, zs, rfl, hq, fun it n1 n2 => ⟨it, rfl, n2, n1, rfl⟩⟩
  · cases r with
    | error er => exact pass_no pins σ H s er s' I hz
    | ok fl =>
      cases fl with
      | ret u =>
        obtain ⟨v, H', I', rv, it, rfl, h1, h2, rfl⟩ := I.after hz
        cases (show u = Value.ref it from rv)
        have eo : s'.heap.IsTupleIter it t 0 := (I'.hok it _ upd_same).1
        have I2 := ItX.inv_drop I' (show upd H it (ItT t it 0) it = some (.ext fun h => h.IsTupleIter it t 0) from upd_same)
        have fp := ItX.inv_fp I' (show upd H it (ItT t it 0) it = some (.ext fun h => h.IsTupleIter it t 0) from upd_same) (Nat.le_trans I.sz h1)
        rw [ItX.dropH_upd h2] at I2 fp
        unfold PySem.W.OwitIt
        exact wpAny_specialOf eo.typeIs PySem.F.slot_tuple_iterator_next.lookup (q it _ I2 eo fp)
      | next => exact False.elim hz
      | brk => exact False.elim hz
      | cont => exact False.elim hz
end
def iOwn (K : Frag) (C : Addr) (fld : Str) (te : TE) : TI := fun σ H R => te σ H fun x H1 => ∃ a dx fs t zs, x = .ref a ∧ H1 a = some (.ins C dx fs) ∧ fs.lookup fld = some (.ref t) ∧ SqT K H1 t zs ∧ R (Itt K t) H1
theorem pi_own {X : Cx} {k : Nat} {C f : Addr} {fd : FuncData} {fld : Str} {tg e : Expr} {te : TE} (c : ItC2 X.prog X.w X.K X.mg X.base k C fld f fd) (hr : Room (k + 1) X.A) (h : PE X e te) : PI X tg e (iOwn X.K C fld te) := by
  refine ⟨fun pins st σ H R I hq => thn (h.run pins st σ H _ I hq) fun v st1 ⟨x, G, J, rv, a, dx, fs, t, zs, ex, h1, h2, h3, q⟩ => ?_⟩
  subst ex
  cases rv
  refine iter_here c hr rfl J h1 h2 h3 fun it s2 I2 st2 fp => ?_
  exact ⟨it, [it], _, _, G, rfl, I2, turn_tuple t it, st2, fun b hb => by rw [List.mem_singleton.mp hb]; exact fp, q⟩
structure NoLen (K : Frag) (C : Addr) : Prop where
  len : PySem.W.findIn K (.ref C) "__len__" = some none
  hint : PySem.W.findIn K (.ref C) "__length_hint__" = some none
section
variable {X : Cx} {pins : List (Addr × Obj)} {σ : L2.St} {H : Hp} {C f t it q : Addr} {zs : List V}
end
end Mp
set_option Elab.async false
set_option linter.all false
set_option maxRecDepth 100000
set_option maxHeartbeats 4000000
namespace Mp
open PySem PySem.Spec PyProof.Rows L2
end Mp
set_option Elab.async false
set_option linter.all false
set_option maxRecDepth 100000
set_option maxHeartbeats 4000000
namespace Mp
open PySem PySem.Spec PyProof.Rows L2
end Mp
set_option Elab.async false
set_option linter.all false
set_option maxRecDepth 100000
set_option maxHeartbeats 4000000
namespace Mp
open PySem PySem.Spec PyProof.Rows L2
section
variable {K : Frag} {α : Mp_} {hp : List O} {H : Hp} {A : Av}
theorem toA (hA : ∀ a, A a → α.ban a) : Step (Al α hp) noA H A noA H := ⟨fun _ _ h _ => h, fun a z => .inl (.inr (hA a z)), fun _ z => .inl z, fun _ z => z.elim, fun _ o h => ⟨o, h⟩⟩
end
def mgSubG (Mo Mi : ME) : MG := fun v s N => Mo s (fun o hp1 => Mi { s with hp := hp1 } (fun i hp2 => on (obO o) fun q => on (lstG (gnAt hp2 q.1 q.2)) fun xs => on (isD i) fun di => on (asI di) fun k => on (ixN xs.length k) fun j => on (isD v) fun d => N { s with hp := putN hp2 q.1 q.2 (.lst (xs.set j (.d d))) }) noX) noX
theorem paired_set {τ σ : Type} {P : τ → σ → Prop} {x : τ} {y : σ} (h : P x y) : ∀ {xs : List τ} {ys : List σ} (i : Nat), Paired P xs ys → Paired P (xs.set i x) (ys.set i y)
  | _, _, _, .nil => .nil
  | _, _, 0, .cons p r => .cons h r
  | _, _, i + 1, .cons p r => .cons p (paired_set h i r)
theorem simg_subG {K : Frag} {W : WX} {to ti : TE} {Mo Mi : ME} (ho : SimE K W to Mo) (hi : SimE K W ti Mi) : SimG K (gSub to ti rSetL) [] (mgSubG Mo Mi) := by
  intro ρ α s H σ v u h rv N m Q q
  refine ho α s H σ h.ok h.env _ _ m _ (fun o hp1 α1 H1 uo m1 e1 w1 r1 => ?_) postX_no
  refine hi α1 { s with hp := hp1 } H1 σ w1 (h.env.mono e1) _ _ m1 _ (fun i hp2 α2 H2 ui m2 e2 w2 r2 => ?_) postX_no
  obtain ⟨⟨n, k⟩, g1, m2⟩ := on.ex m2
  obtain ⟨xs, g2, m2⟩ := on.ex m2
  obtain ⟨di, g3, m2⟩ := on.ex m2
  obtain ⟨c, g4, m2⟩ := on.ex m2
  obtain ⟨j, g5, m2⟩ := on.ex m2
  obtain ⟨d, g6, m2⟩ := on.ex m2
  obtain ⟨p, a, h1, h2, rfl⟩ := (r1.mono e2).obj g1
  obtain ⟨us, h3, h4⟩ := w2.gn (lstG_some g2) h1 h2
  have rd := (rv.mono (e1.trans e2)).isD g6
  obtain ⟨w3, e3⟩ := w2.node_ (x := .lst (us.set j u)) (g' := .lst (xs.set j (.d d))) (lstG_some g2) h1 h2 fun st => ⟨_, upd_same, paired_set (show RepN K _ _ _ (.d d) u from Rep.mono st _ _ rd) j (L2.Paired.mapP h4 fun _ _ q => q.mono st fun _ _ h => h)⟩
  refine ⟨a, us, c, j, rfl, (r2.isD g3).t.asI g4, h3, by rw [← paired_len h4]; exact g5, ?_⟩
  exact q _ α2 _ σ m2 (h.ext ((e1.trans e2).trans e3) w3) ((e1.trans e2).trans e3) ⟨rfl, fun _ _ => rfl⟩
end Mp
set_option Elab.async false
set_option linter.all false
set_option maxRecDepth 100000
set_option maxHeartbeats 4000000
namespace Mp
open PySem PySem.Spec PyProof.Rows L2
section
variable {X : Cx} {W : WX} {a b e o : Expr} {es : List Expr} {ta tb to : TE} {tA : TA} {Ma Mb Mo : ME} {MA' : MA} {pos : Pos}
end
section
variable {X : Cx} {o a : Expr} {to ta : TE} {Mo Ma : ME} {pos : Pos}
theorem dg_sbG {W : WX} (ho : DE X W o to Mo) (hi : DE X W a ta Ma) (hs : ∀ v, assign (.Subscript o a pos) X.env v = (do
      let ov ← holding [v] (eval o X.env)
      let iv ← holding [v, ov] (eval a X.env)
      standAt pos
      holding [v, ov, iv] (setItem ov iv v)
      release [v, ov, iv] []) := by intro _; rfl) : DG X (.Subscript o a pos) (gSub to ta rSetL) [] (mgSubG Mo Ma) := ⟨pg_sub ho.p hi.p set_list hs, simg_subG ho.s hi.s⟩
end
section
variable {hp : List O} {env : List (Option S)} {n : Nat} {R : S → List O → Prop} {Xp : MX} {La : MA} {Ma Mb : ME} {nx : PS → Prop}
@[simp ↓] theorem x_gSubG {v : S} : mgSubG Ma Mb v ⟨hp, env, n⟩ nx = Ma ⟨hp, env, n⟩ (fun o hp1 => Mb ⟨hp1, env, n⟩ (fun i hp2 => onH (obO o) (fun q => onH (lstG (gnO (rgO hp2[q.1]?) q.2)) (fun xs => onH (isD i) (fun di => onH (asI di) (fun k => onH (ixN xs.length k) (fun j => onH (isD v) (fun d => nx ⟨putH (rgO hp2[q.1]?) hp2 q.1 q.2 (.lst (xs.set j (.d d))), env, n⟩) .mk) .mk) .mk) .mk) .mk) .mk) noX) noX := by
  unfold mgSubG
  simp only [gnAt_O, putN_H]
  rfl
end
end Mp
set_option Elab.async false
set_option linter.all false
set_option maxRecDepth 100000
set_option maxHeartbeats 4000000
namespace Mp
open PySem PySem.Spec PyProof.Rows L2
def leD : D → D → Bool := PySem.W.dataLe false D.py
def sortD (xs : List D) : List D := xs.mergeSort leD
def leP : V × D → V × D → Bool := PySem.W.dataLe false fun b => b.2.py
def rSort (K : Frag) : List V → Hp → VK → Prop := fun vs H Q => ∃ (a : Addr) (bs : List (V × D)), vs = [.ref a] ∧ SqL K H a (bs.map Prod.fst) ∧ DpAll K H (bs.map Prod.fst) (bs.map fun b => b.2.py) ∧ PySem.W.AllAlike (bs.map fun b => b.2.py) ∧ PySem.W.Sortable (bs.map fun b => b.2.py) ∧ bs.length ≤ sizeLine ∧ (∀ b ∈ bs, shD b.2 = true) ∧
  ∀ p, H p = none → Q (.ref p) (upd H p (.lst ((bs.mergeSort leP).map Prod.fst)))
theorem each_rel : ∀ {bs : List (V × D)} {its : List Value}, Vals (bs.map Prod.fst) its → PySem.W.EachIs (fun v b => RelV b.1 v) its bs
  | [], _, .nil => .nil
  | b :: bs, _, .cons h t => .cons h (each_rel t)
theorem rel_each : ∀ {bs : List (V × D)} {its : List Value}, PySem.W.EachIs (fun v b => RelV b.1 v) its bs → Vals (bs.map Prod.fst) its
  | [], _, .nil => .nil
  | b :: bs, _, .cons h t => .cons h (rel_each t)
theorem each_reads {X : Cx} {pins : List (Addr × Obj)} {σ : L2.St} {H : Hp} {s : Shared} (I : Inv X pins σ H s) : ∀ {bs : List (V × D)} {its : List Value}, DpAll X.K H (bs.map Prod.fst) (bs.map fun b => b.2.py) → Vals (bs.map Prod.fst) its → PySem.W.EachIs (fun v b => ∃ as, Reads s.heap v b.2.py as) its bs
  | [], _, _, .nil => .nil
  | b :: bs, _, d, .cons h t => by
    cases d with
    | cons d1 d2 => exact .cons (Dp.reads I _ _ _ d1 h) (each_reads I d2 t)
theorem call_sorted {k : Nat} (K : Frag) {X : Cx} (hr : Room k X.A) (hK : X.K = K := by rfl) : CallR X (.builtin "sorted") (rSort K) := by
  subst hK
  intro pins s σ H xs us Q I hv h
  obtain ⟨a, bs, rfl, hs, hd, ha, ho, hl, hsh, q⟩ := h
  cases hv with
  | cons hv1 hv2 =>
    cases hv2
    cases hv1
    obtain ⟨its, r, ⟨o, n, h1, h2, h3, h4⟩, _⟩ := I.list hs
    refine PySem.W.sorted_data (R := fun v b => RelV b.1 v) (bs := bs) (enc := fun b => b.2.py) ⟨o, h1, h2, n, h4⟩ (each_rel r) (each_reads I hd r) ha ho hl (fun b hb => ?_) (fun out lo eo => ?_)
    · have hx := hsh b hb
      have : b.2.py.depth ≤ 64 := by
        have : (b.2.py.canLay0 && decide (b.2.py.depth ≤ 64)) = true := hx
        exact of_decide_eq_true (He.ba this).2
      have := hr.un
      omega
    · obtain ⟨e, he⟩ := sortedAll_at s.heap its out.toArray
      have lm : ((bs.mergeSort leP).map Prod.fst).length ≤ sizeLine := by
        rw [List.length_map, List.length_mergeSort]
        exact hl
      exact ⟨.ref (s.heap.objs.size + 1), _, I.laid (t' := s.toks) (o := .lst ((bs.mergeSort leP).map Prod.fst)) (fun b u e => sortedAll_old e) (Nat.le_succ _) ⟨lm, out, e, rel_each eo, he⟩, rfl, q _ (I.hok.fresh (Nat.le_succ _))⟩
def fSort : FN := fun ds P => one ds fun d => on (lstD d) fun xs => PySem.W.AllAlike (xs.map D.py) ∧ PySem.W.Sortable (xs.map D.py) ∧ xs.length ≤ sizeLine ∧ (∀ x ∈ xs, shD x = true) ∧ P (.lst (sortD xs))
theorem zip_fst : ∀ {K : Frag} {A : Av} {H : Hp} {ds : List D} {vs : List V}, RepL K A H ds vs → (vs.zip ds).map Prod.fst = vs ∧ (vs.zip ds).map Prod.snd = ds ∧ ∀ b ∈ vs.zip ds, Rep K A H b.2 b.1
  | _, _, _, [], _, h => by cases h; exact ⟨rfl, rfl, fun b h => (by cases h)⟩
  | _, _, _, d :: ds, _, ⟨v, r, e, h, t⟩ => by
    subst e
    obtain ⟨h1, h2, h3⟩ := zip_fst t
    refine ⟨?_, ?_, fun b hb => ?_⟩
    · rw [List.zip_cons_cons, List.map_cons, h1]
    · rw [List.zip_cons_cons, List.map_cons, h2]
    · rw [List.zip_cons_cons] at hb
      rcases List.mem_cons.mp hb with rfl | hb
      · exact h
      · exact h3 b hb
theorem dps {K : Frag} {A : Av} {H : Hp} : ∀ {bs : List (V × D)}, (∀ b ∈ bs, Rep K A H b.2 b.1) → (∀ b ∈ bs, shD b.2 = true) → DpAll K H (bs.map Prod.fst) (bs.map fun b => b.2.py)
  | [], _, _ => .nil
  | b :: bs, h, g => .cons (Rep.dp (A := A) _ _ (SeqAt.canLay_of_shaped (g b (List.mem_cons_self ..))) (h b (List.mem_cons_self ..))) (dps (fun x hx => h x (List.mem_cons_of_mem _ hx)) fun x hx => g x (List.mem_cons_of_mem _ hx))
theorem repL_of {K : Frag} {A : Av} {H : Hp} : ∀ {bs : List (V × D)}, (∀ b ∈ bs, Rep K A H b.2 b.1) → RepL K A H (bs.map Prod.snd) (bs.map Prod.fst)
  | [], _ => rfl
  | b :: bs, h => ⟨_, _, rfl, h b (List.mem_cons_self ..), repL_of fun x hx => h x (List.mem_cons_of_mem _ hx)⟩
theorem sim_sort {K : Frag} : SimN K (rSort K) fSort := by
  intro A H ds vs hA r P p Q q
  obtain ⟨d, v, rfl, r, p⟩ := p.ex r
  obtain ⟨xs, e, p⟩ := on.ex p
  obtain ⟨p1, p2, p3, p4, p5⟩ := p
  obtain ⟨a, vs, rfl, h, r2⟩ := lstD_rep r e
  obtain ⟨z1, z2, z3⟩ := zip_fst r2
  have zs : ∀ b ∈ vs.zip xs, shD b.2 = true := fun b hb => p4 b.2 (by
    have : b.2 ∈ (vs.zip xs).map Prod.snd := List.mem_map.mpr ⟨b, hb, rfl⟩
    rw [z2] at this
    exact this)
  have zp : (vs.zip xs).map (fun b => b.2.py) = xs.map D.py := by
    rw [show (vs.zip xs).map (fun b => b.2.py) = ((vs.zip xs).map Prod.snd).map D.py by rw [List.map_map]; rfl, z2]
  have zl : (vs.zip xs).length ≤ sizeLine := by
    have := congrArg List.length z2
    rw [List.length_map] at this
    rw [this]
    exact p3
  have zm : sortD xs = ((vs.zip xs).mergeSort leP).map Prod.snd := by
    rw [List.map_mergeSort (r := leP) (s := leD) (f := Prod.snd) (fun a _ b _ => rfl), z2]
    rfl
  refine ⟨a, vs.zip xs, rfl, by rw [z1]; exact h, dps z3 zs, by rw [zp]; exact p1, by rw [zp]; exact p2, zl, zs, fun l hl => q _ _ _ p5 ?_ (.inr ⟨l, _, hl, rfl⟩)⟩
  rw [zm]
  exact new_lst hA hl (repL_of fun b hb => z3 b ((List.mergeSort_perm _ _).mem_iff.mp hb))
end Mp
set_option Elab.async false
set_option linter.all false
set_option maxRecDepth 100000
set_option maxHeartbeats 4000000
namespace Mp
open PySem PySem.Spec PyProof.Rows L2
@[simp] theorem xfSort {ds : List D} {P : D → Prop} : fSort [.lst ds] P = (PySem.W.AllAlike (ds.map D.py) ∧ PySem.W.Sortable (ds.map D.py) ∧ ds.length ≤ sizeLine ∧ (∀ x ∈ ds, shD x = true) ∧ P (.lst (sortD ds))) := rfl
section
variable {hp : List O} {env : List (Option S)} {n : Nat} {Ma : ME} {Xp : MX} {Rw : Option Wk → List D → List O → Prop}
end
end Mp
set_option Elab.async false
set_option linter.all false
set_option maxRecDepth 100000
set_option maxHeartbeats 4000000
namespace Mp
open PySem PySem.Spec PyProof.Rows L2
section
variable {X : Cx} {W : WX} {o e : Expr} {to te : TE} {Mo Ma : ME} {pos apos : Pos}
end
section
variable {hp : List O} {env : List (Option S)} {n : Nat} {R : S → List O → Prop} {Xp : MX} {Mo Ma : ME}
end
end Mp
set_option Elab.async false
set_option linter.all false
set_option maxRecDepth 100000
set_option maxHeartbeats 4000000
namespace Mp
open PySem PySem.Spec PyProof.Rows L2
def dctG : Option Gn → Option (List (Key × Nd))
  | some (.dct xs) => some xs
  | _ => none
theorem dctG_some {g : Option Gn} {xs : List (Key × Nd)} (h : dctG g = some xs) : g = some (.dct xs) := by
  unfold dctG at h
  split at h
  · cases h; rfl
  · cases h
def getN (l : List (Key × Nd)) (k : Key) : Option Nd := (l.find? fun kv => decide (kv.1 = k)).map (·.2)
def setN (l : List (Key × Nd)) (k : Key) (d : Nd) : List (Key × Nd) :=
  if (l.any fun kv => decide (kv.1 = k)) = true then l.map (fun kv => if kv.1 = k then (kv.1, d) else kv) else l ++ [(k, d)]
abbrev PK (P : Nd → V → Prop) : List (Key × Nd) → List (Key × V) → Prop := Paired fun x w => x.1 = w.1 ∧ P x.2 w.2
theorem nk_get {P : Nd → V → Prop} {k : Key} {d : Nd} : ∀ {l : List (Key × Nd)} {ws : List (Key × V)}, PK P l ws → getN l k = some d → ∃ v, valV ws k = some v ∧ P d v
  | [], _, _, e => by cases e
  | (j, x) :: r, _, .cons (b := (j', u)) h t, g => by
    have ej : j = j' := h.1
    subst ej
    unfold getN valV at *
    rw [List.find?_cons] at g ⊢
    by_cases hj : j = k
    · simp only [hj, decide_true, Option.map_some] at g ⊢
      cases g
      exact ⟨u, rfl, h.2⟩
    · simp only [hj, decide_false] at g ⊢
      exact nk_get t g
theorem nk_any {P : Nd → V → Prop} (k : Key) : ∀ {l : List (Key × Nd)} {ws : List (Key × V)}, PK P l ws → (ws.any fun kv => decide (kv.1 = k)) = (l.any fun kv => decide (kv.1 = k))
  | [], _, .nil => rfl
  | (j, x) :: r, _, .cons (b := (j', u)) h t => by
    have ej : j = j' := h.1
    subst ej
    simp only [List.any_cons, nk_any k t]
theorem nk_repl {P : Nd → V → Prop} (k : Key) {d : Nd} {u : V} (hd : P d u) : ∀ {l : List (Key × Nd)} {ws : List (Key × V)}, PK P l ws → PK P (l.map fun kv => if kv.1 = k then (kv.1, d) else kv) (ws.map fun kv => if kv.1 = k then (kv.1, u) else kv)
  | [], _, .nil => .nil
  | (j, x) :: r, _, .cons (b := (j', v)) h t => by
    have ej : j = j' := h.1
    subst ej
    simp only [List.map_cons]
    by_cases hj : j = k
    · rw [if_pos hj, if_pos hj]
      exact .cons ⟨rfl, hd⟩ (nk_repl k hd t)
    · rw [if_neg hj, if_neg hj]
      exact .cons h (nk_repl k hd t)
theorem nk_set {P : Nd → V → Prop} {l : List (Key × Nd)} {ws : List (Key × V)} (k : Key) {d : Nd} {u : V} (hd : P d u) (h : PK P l ws) : PK P (setN l k d) (putK ws k u) := by
  unfold setN putK
  rw [nk_any k h]
  split
  · exact nk_repl k hd h
  · exact paired_app ⟨rfl, hd⟩ h
def mDGetG (Md Mk : ME) : ME := fun s R Xp => Md s (fun o hp1 => Mk { s with hp := hp1 } (fun y hp2 => on (obO o) fun q => on (dctG (gnAt hp2 q.1 q.2)) fun l => on (isD y) fun dy => on (keyD dy) fun k => on (getN l k) fun x => R (ndS q.1 x) hp2) Xp) Xp
theorem sim_dgetG {K : Frag} {W : WX} {td ty : TE} {Md Mk : ME} (hd : SimE K W td Md) (hk : SimE K W ty Mk) : SimE K W (tDGet td ty) (mDGetG Md Mk) := by
  intro α s H σ w e R Xp m Q q qx
  refine hd α s H σ w e _ _ m _ (fun o hp1 α1 H1 u m1 e1 w1 r1 => ?_) qx
  refine hk α1 { s with hp := hp1 } H1 σ w1 (e.mono e1) _ _ m1 _ (fun y hp2 α2 H2 uy m2 e2 w2 r2 => ?_) (qx.at e1)
  obtain ⟨⟨n, j⟩, g1, m2⟩ := on.ex m2
  obtain ⟨l, g2, m2⟩ := on.ex m2
  obtain ⟨dy, g3, m2⟩ := on.ex m2
  obtain ⟨k, g4, m2⟩ := on.ex m2
  obtain ⟨x, g5, m2⟩ := on.ex m2
  obtain ⟨p, a, h1, h2, rfl⟩ := (r1.mono e2).obj g1
  obtain ⟨ws, h3, h4⟩ := w2.gn (dctG_some g2) h1 h2
  obtain ⟨v, h5, h6⟩ := nk_get h4 g5
  refine ⟨a, v, rfl, ?_, q _ _ α2 H2 v m2 (e1.trans e2) w2 (h6.s h1)⟩
  rw [(r2.isD g3).key g4, ← h5]
  exact DGet.k h3
end Mp
set_option Elab.async false
set_option linter.all false
set_option maxRecDepth 100000
set_option maxHeartbeats 4000000
namespace Mp
open PySem PySem.Spec PyProof.Rows L2
end Mp
set_option Elab.async false
set_option linter.all false
set_option maxRecDepth 100000
set_option maxHeartbeats 4000000
namespace Mp
open PySem PySem.Spec PyProof.Rows L2
section
variable {X : Cx} {W : WX} {a b e o : Expr} {ta tb te to : TE} {Ma Mb Me Mo : ME} {pos : Pos}
theorem de_dgetG (hu : X.A.units + 1 < cLine) (ha : DE X W a ta Ma) (hb : DE X W b tb Mb) (hs : NoSl b := by exact fun _ _ => rfl) : DE X W (.Subscript a b pos) (tDGet ta tb) (mDGetG Ma Mb) := ⟨pe_dget hu ha.p hb.p hs, sim_dgetG ha.s hb.s⟩
end
section
variable {hp : List O} {env : List (Option S)} {n : Nat} {R : S → List O → Prop} {Xp : MX} {Ma Mb Mc : ME} {nx bk ct : PS → Prop} {rt : S → List O → Prop} {ex : MX}
@[simp] theorem dctG_dct {l : List (Key × Nd)} : dctG (some (.dct l)) = some l := rfl
@[simp ↓] theorem x_dgetG : mDGetG Ma Mb ⟨hp, env, n⟩ R Xp = Ma ⟨hp, env, n⟩ (fun o hp1 => Mb ⟨hp1, env, n⟩ (fun y hp2 => onH (obO o) (fun q => onH (dctG (gnO (rgO hp2[q.1]?) q.2)) (fun l => onH (isD y) (fun dy => onH (keyD dy) (fun k => onH (getN l k) (fun x => R (ndS q.1 x) hp2) .mk) .mk) .mk) .mk) .mk) Xp) Xp := by
  unfold mDGetG
  simp only [gnAt_O]
  rfl
@[simp] theorem getN_hd {k : Key} {x : Nd} {l : List (Key × Nd)} : getN ((k, x) :: l) k = some x := by simp [getN]
theorem getN_tl {j k : Key} {x : Nd} {l : List (Key × Nd)} (h : j ≠ k) : getN ((j, x) :: l) k = getN l k := by simp [getN, h]
end
end Mp
set_option Elab.async false
set_option linter.all false
set_option maxRecDepth 100000
set_option maxHeartbeats 4000000
namespace Mp
open PySem PySem.Spec PyProof.Rows L2
section
variable {X : Cx} {W : WX} {e : Expr} {te : TE} {Me : ME} {p p2 pos pos2 : Pos}
end
section
variable {hp : List O} {env : List (Option S)} {n : Nat} {R : S → List O → Prop} {Xp : MX} {Ma : ME}
end
end Mp
set_option Elab.async false
set_option linter.all false
set_option maxRecDepth 100000
set_option maxHeartbeats 4000000
namespace PySem
section
variable {prog : Program} {w : World} {A : Around} {E : Value → Shared → Prop} {s : Shared}
end
end PySem
namespace Mp
open PySem PySem.Spec PyProof.Rows L2
end Mp
set_option Elab.async false
set_option linter.all false
set_option maxRecDepth 100000
set_option maxHeartbeats 4000000
namespace Mp
open PySem PySem.Spec PyProof.Rows L2
structure GDat (K : Frag) (mg : Str → Option Value) (x : Str) (d : D) (v : V) : Prop where
  ex : ∃ u, mg x = some u ∧ RelV v u
  rep : ∀ A H, Rep K A H d v
structure GDct (w : World) (K : Frag) (mg : Str → Option Value) (x : Str) (kvs : List (Str × D)) (p : Addr) : Prop where
  ex : mg x = some (.ref p) ∧ ∀ z d, kvs.lookup z = some d → ∃ v, KDct K w p z v ∧ ∀ A H, Rep K A H d v
def gtA (x : Str) (K : Frag) : Addr := match PySem.W.nsIn K mainGlobals x with
  | some (some (.ref a)) => a
  | _ => 0
section
variable {X : Cx} {W : WX} {b : Expr} {pos p1 : Pos} {tb : TE} {Mb : ME}
end
end Mp
set_option Elab.async false
set_option linter.all false
set_option maxRecDepth 100000
set_option maxHeartbeats 4000000
namespace Mp
open PySem PySem.Spec PyProof.Rows L2
def truD : D → Option Bool
  | .non => some false
  | .bl b => some b
  | .int i => some (i != 0)
  | .str y => if y.length ≤ sizeLine then some ((y.length : Int) != 0) else none
  | .tup xs => some (!xs.isEmpty)
  | .lst xs => some (!xs.isEmpty)
  | .fl xs => some (!xs.isEmpty)
  | .ty _ => none
  | .obj _ _ _ => none
def truS (hp : List O) : S → Option Bool
  | .d d => truD d
  | .mu n => (lstG (gnAt hp n 0)).map fun xs => !xs.isEmpty
  | .ob n k => (lstG (gnAt hp n k)).map fun xs => !xs.isEmpty
  | .exn _ _ _ _ => none
theorem emp_of {τ υ : Type} {R : τ → υ → Prop} {xs : List τ} {ys : List υ} (h : xs.length = ys.length) : (!xs.isEmpty) = !ys.isEmpty := by
  cases xs <;> cases ys <;> first | rfl | (simp at h)
theorem SRep.tru {K : Frag} {α : Mp_} {hp : List O} {H : Hp} {s : S} {v : V} {b : Bool} (w : WOk K α hp H) (h : SRep K α hp H s v) (e : truS hp s = some b) : TruV K v H b := by
  have reg : ∀ (n k : Nat), (lstG (gnAt hp n k)).map (fun xs => !xs.isEmpty) = some b → (∃ p a, α.own[n]? = some p ∧ (adr p)[k]? = some a ∧ v = .ref a) → TruV K v H b := fun n k e ⟨p, a, h1, h2, h3⟩ => by
    cases g : lstG (gnAt hp n k) with
    | none => rw [g] at e; cases e
    | some xs =>
      rw [g] at e
      obtain ⟨us, h4, h5⟩ := w.gn (lstG_some g) h1 h2
      subst h3
      refine .inl ⟨us, .inl (.inl h4), ?_⟩
      rw [← emp_of (R := fun (_ : Nd) (_ : V) => True) (paired_len h5)]
      exact (Option.some.inj e).symm
  cases s with
  | d d =>
    have r : Rep K (Al α hp) H d v := h
    cases d with
    | non => cases (show v = .non from r); cases e; rfl
    | bl c => cases (show v = .bl c from r); cases e; rfl
    | int i => cases (show v = .int i from r); cases e; rfl
    | str y =>
      cases (show v = .str y from r)
      have e' : (if y.length ≤ sizeLine then some ((y.length : Int) != 0) else none) = some b := e
      by_cases c : y.length ≤ sizeLine
      · rw [if_pos c] at e'
        exact ⟨c, (Option.some.inj e').symm⟩
      · rw [if_neg c] at e'; cases e'
    | tup xs =>
      obtain ⟨a, vs, e1, h1, h2⟩ := tup_sq r
      subst e1
      refine .inr (.inl ⟨vs, h1, ?_⟩)
      rw [← emp_of (R := fun (_ : D) (_ : V) => True) h2.length]
      exact (Option.some.inj e).symm
    | lst xs =>
      obtain ⟨a, vs, e1, h1, h2⟩ := r
      subst e1
      refine .inl ⟨vs, .inl (.inl h1.1), ?_⟩
      rw [← emp_of (R := fun (_ : D) (_ : V) => True) h2.length]
      exact (Option.some.inj e).symm
    | fl xs =>
      obtain ⟨a, vs, e1, h1, h2⟩ := fl_sq r
      subst e1
      refine .inl ⟨vs, h1, ?_⟩
      rw [← emp_of (R := fun (_ : D) (_ : V) => True) h2.length]
      exact (Option.some.inj e).symm
    | ty _ => cases e
    | obj _ _ _ => cases e
  | mu n =>
    obtain ⟨p, h1, h2⟩ := h
    exact reg n 0 e ⟨p, p.1, h1, rfl, h2⟩
  | ob n k => exact reg n k e h
  | exn _ _ _ _ => cases e
def mTru (Ma : ME) : MT := fun s R Xp => Ma s (fun x hp1 => on (truS hp1 x) fun b => R b hp1) Xp
section
variable {K : Frag} {W : WX} {t u : TE} {Ma Mb : ME}
theorem sim_tru (ha : SimE K W t Ma) : SimT K W (fun σ H Q => t σ H fun x H' => ∃ k, TruV K x H' k ∧ Q k H') (mTru Ma) := by
  intro α s H σ w e R Xp m Q q qx
  refine ha α s H σ w e _ _ m _ (fun x hp1 α1 H1 v1 m1 e1 w1 r1 => ?_) qx
  obtain ⟨b, g1, m1⟩ := on.ex m1
  exact ⟨b, r1.tru w1 g1, q _ _ α1 _ m1 e1 w1⟩
end
section
variable {X : Cx} {W : WX} {a b : Expr} {es : List Expr} {pos : Pos} {ta tb : TE} {Ma Mb : ME}
theorem dt_tru (K : Frag) (ha : DE X W a ta Ma) (he : ∀ whole, isTrue a X.env whole = (do let v ← whole; standAt a.pos; holding [v] (truthy v)) := by intro _; rfl) (hK : X.K = K := by rfl) : DT X W a (fun σ H Q => ta σ H fun x H' => ∃ k, TruV K x H' k ∧ Q k H') (mTru Ma) := by
  subst hK
  exact ⟨pt_truth ha.p he, sim_tru ha.s⟩
end
def truO (o : Option (List Nd)) : Option Bool := o.map fun xs => !xs.isEmpty
@[simp] theorem truO_some {xs : List Nd} : truO (some xs) = some (!xs.isEmpty) := rfl
@[simp] theorem truS_d {hp : List O} {d : D} : truS hp (.d d) = truD d := rfl
@[simp] theorem truS_mu {hp : List O} {n : Nat} : truS hp (.mu n) = truO (lstG (gnO (rgO hp[n]?) 0)) := by
  unfold truO
  rw [← gnAt_O]
  rfl
@[simp] theorem truS_ob {hp : List O} {n k : Nat} : truS hp (.ob n k) = truO (lstG (gnO (rgO hp[n]?) k)) := by
  unfold truO
  rw [← gnAt_O]
  rfl
@[simp] theorem truD_non : truD .non = some false := rfl
@[simp] theorem truD_bl {b : Bool} : truD (.bl b) = some b := rfl
@[simp] theorem truD_int {i : Int} : truD (.int i) = some (i != 0) := rfl
@[simp] theorem truD_tup {xs : List D} : truD (.tup xs) = some (!xs.isEmpty) := rfl
@[simp] theorem truD_lst {xs : List D} : truD (.lst xs) = some (!xs.isEmpty) := rfl
@[simp] theorem truD_fl {xs : List D} : truD (.fl xs) = some (!xs.isEmpty) := rfl
section
variable {hp : List O} {env : List (Option S)} {n : Nat} {R : S → List O → Prop} {Rb : Bool → List O → Prop} {Xp : MX} {Ma Mb : ME}
@[simp ↓] theorem x_tru : mTru Ma ⟨hp, env, n⟩ Rb Xp = Ma ⟨hp, env, n⟩ (fun x hp1 => onH (truS hp1 x) (fun b => Rb b hp1) .mk) Xp := nr rfl
end
end Mp
set_option Elab.async false
set_option linter.all false
set_option maxRecDepth 100000
set_option maxHeartbeats 4000000
namespace Mp
open PySem PySem.Spec PyProof.Rows L2
section
variable {X : Cx} {W : WX} {e : Expr} {te : TE} {Me : ME} {p p2 pos pos2 : Pos}
end
section
variable {hp : List O} {env : List (Option S)} {n : Nat} {R : S → List O → Prop} {Xp : MX} {Ma : ME}
end
end Mp
set_option Elab.async false
set_option linter.all false
set_option maxRecDepth 100000
set_option maxHeartbeats 4000000
namespace Mp
open PySem PySem.Spec PyProof.Rows L2
section
variable {v : Option Wk} {ds : List D} {G : MG} {Mt : MT} {Me : ME} {env : List (Option S)} {hp : List O} {R : List D → List O → Prop} {t : Tg (G, Mt, Me, R)}
theorem compH_ifI (Iv : List D → List D → List O → Prop) (hb : ds.length ≤ sizeLine) (h0 : Iv [] ds hp)
    (hs : ∀ acc d r hp (N : D → List O → Prop) (Z : List O → Prop), Iv acc (d :: r) hp → (∀ y hp', still v ds hp' → Iv (acc ++ [y]) r hp' → N y hp') → (∀ hp', still v ds hp' → Iv acc r hp' → Z hp') →
      G (.d d) ⟨hp, env, hp.length⟩ fun s1 => Mt s1 (fun b hp2 => brH b (Me ⟨hp2, s1.env, s1.n0⟩ (fun y hp3 => onH (isD y) (fun dy => N dy hp3) .mk) noX) (Z hp2) .mk) noX)
    (hn : ∀ acc hp, Iv acc [] hp → R acc hp) : compH v ds G Mt Me env hp R t := by
  show compL v ds G Mt Me env ds [] hp R
  have gen : ∀ (r acc : List D) hp, acc.length + r.length ≤ sizeLine → Iv acc r hp → compL v ds G Mt Me env r acc hp R := by
    intro r
    induction r with
    | nil => exact fun acc hp _ h => hn acc hp h
    | cons d r ih =>
      intro acc hp hl h
      simp only [List.length_cons] at hl
      have q := hs acc d r hp (fun dy hp3 => acc.length < sizeLine ∧ still v ds hp3 ∧ compL v ds G Mt Me env r (acc ++ [dy]) hp3 R) (fun hp2 => still v ds hp2 ∧ compL v ds G Mt Me env r acc hp2 R) h
        (fun y hp' st h' => ⟨by simp [sizeLine] at hl ⊢; omega, st, ih (acc ++ [y]) hp' (by simp [sizeLine] at hl ⊢; omega) h'⟩) (fun hp' st h' => ⟨st, ih acc hp' (by omega) h'⟩)
      exact q
  exact gen ds [] hp (by simpa using hb) h0
theorem compH_flt (F : D → D) (p : D → Bool) (hst : still v ds hp) (hb : ds.length ≤ sizeLine)
    (hs : ∀ d ∈ ds, ∀ (N : D → List O → Prop) (Z : List O → Prop), (p d = true → N (F d) hp) → (p d = false → Z hp) → G (.d d) ⟨hp, env, hp.length⟩ fun s1 => Mt s1 (fun b hp2 => brH b (Me ⟨hp2, s1.env, s1.n0⟩ (fun y hp3 => onH (isD y) (fun dy => N dy hp3) .mk) noX) (Z hp2) .mk) noX)
    (hn : R ((ds.filter p).map F) hp) : compH v ds G Mt Me env hp R t := by
  refine compH_ifI (fun acc r hp' => hp' = hp ∧ (∀ d ∈ r, d ∈ ds) ∧ acc ++ (r.filter p).map F = (ds.filter p).map F) hb ⟨rfl, fun _ h => h, rfl⟩ ?_ ?_
  · rintro acc d r _ N Z ⟨rfl, hm, e⟩ hN hZ
    refine hs d (hm d (List.mem_cons_self ..)) N Z (fun hp_ => hN _ _ hst ⟨rfl, fun x hx => hm x (List.mem_cons_of_mem _ hx), ?_⟩) (fun hp_ => hZ _ hst ⟨rfl, fun x hx => hm x (List.mem_cons_of_mem _ hx), ?_⟩)
    · rw [← e]; simp [List.filter_cons, hp_]
    · rw [← e]; simp [List.filter_cons, hp_]
  · rintro acc _ ⟨rfl, _, e⟩
    rw [List.filter_nil, List.map_nil, List.append_nil] at e
    rw [e]
    exact hn
end
end Mp
set_option Elab.async false
set_option linter.all false
set_option maxRecDepth 100000
set_option maxHeartbeats 4000000
namespace Mp
open PySem PySem.Spec PyProof.Rows L2
end Mp
set_option Elab.async false
set_option linter.all false
set_option maxRecDepth 100000
set_option maxHeartbeats 4000000
namespace Mp
open PySem PySem.Spec PyProof.Rows L2
section
variable {hp : List O} {env : List (Option S)} {n : Nat} {nx bk ct : PS → Prop} {rt : S → List O → Prop} {ex : MX} {Rb : Bool → List O → Prop} {Xp : MX}
end
section
variable {G : MG} {Me : ME} {env : List (Option S)} {hp : List O} {R : List D → List O → Prop}
theorem compH_rngI {lo : Int} {m : Nat} {t : Tg (G, mYes, Me, R)} (Iv : Nat → List D → List O → Prop) (hb : m ≤ sizeLine) (h0 : Iv 0 [] hp)
    (hs : ∀ (i : Nat) (acc : List D) (hp : List O) (N : D → List O → Prop), i < m → Iv i acc hp → (∀ y hp', Iv (i + 1) (acc ++ [y]) hp' → N y hp') → G (.d (.int (lo + i))) ⟨hp, env, hp.length⟩ fun s1 => Me s1 (fun y hp3 => onH (isD y) (fun dy => N dy hp3) .mk) noX)
    (hn : ∀ acc hp, Iv m acc hp → R acc hp) : compH none (rng lo 1 m) G mYes Me env hp R t := by
  refine compH_of (fun acc r hp' => ∃ k, k ≤ m ∧ r = (rng lo 1 m).drop k ∧ Iv k acc hp') (by rw [rng_len]; exact hb) ⟨0, by omega, rfl, h0⟩ ?_ ?_
  · rintro acc d r hp N ⟨k, hk, er, h⟩ hN
    have hlt : k < m := by
      by_cases z : k < m
      · exact z
      · rw [List.drop_eq_nil_of_le (by rw [rng_len]; omega)] at er
        cases er
    have e2 : (rng lo 1 m)[k]'(by rw [rng_len]; exact hlt) = D.int (lo + (k : Int)) := by simp [rng]
    rw [List.drop_eq_getElem_cons (by rw [rng_len]; exact hlt), e2] at er
    cases er
    exact hs k acc hp N hlt h fun y hp' h' => hN y hp' trivial ⟨k + 1, hlt, rfl, h'⟩
  · rintro acc hp ⟨k, hk, er, h⟩
    have hl := congrArg List.length er
    rw [List.length_drop, rng_len] at hl
    have : k = m := by simp at hl; omega
    subst this
    exact hn acc hp h
theorem compH_rngM {lo : Int} {m : Nat} {t : Tg (G, mYes, Me, R)} (F : Nat → D) (hb : m ≤ sizeLine)
    (hs : ∀ (i : Nat) (_ : i < m) (N : D → List O → Prop), N (F i) hp → G (.d (.int (lo + i))) ⟨hp, env, hp.length⟩ fun s1 => Me s1 (fun y hp3 => onH (isD y) (fun dy => N dy hp3) .mk) noX)
    (hn : R ((List.range m).map F) hp) : compH none (rng lo 1 m) G mYes Me env hp R t := by
  refine compH_rngI (fun k acc hp' => hp = hp' ∧ acc = (List.range k).map F) hb ⟨rfl, rfl⟩ ?_ ?_
  · rintro k acc _ N hk ⟨rfl, rfl⟩ hN
    exact hs k hk N (hN _ _ ⟨rfl, by rw [List.range_succ, List.map_append]; rfl⟩)
  · rintro acc _ ⟨rfl, rfl⟩
    exact hn
end
end Mp
set_option Elab.async false
set_option linter.all false
set_option maxRecDepth 100000
set_option maxHeartbeats 4000000
namespace Mp
open PySem PySem.Spec PyProof.Rows L2
end Mp
set_option Elab.async false
set_option linter.all false
set_option maxRecDepth 100000
set_option maxHeartbeats 4000000
namespace Mp
open PySem PySem.Spec PyProof.Rows L2
abbrev FS1 := Str → D → (D → Prop) → Prop
section
variable {X : Cx} {W : WX} {o e : Expr} {to te : TE} {Mo Ma : ME} {pos apos : Pos}
end
section
variable {hp : List O} {env : List (Option S)} {n : Nat} {R : S → List O → Prop} {Xp : MX} {Mo Ma : ME} {f : FS1}
end
end Mp
set_option Elab.async false
set_option linter.all false
set_option maxRecDepth 100000
set_option maxHeartbeats 4000000
namespace Mp
open PySem PySem.Spec PyProof.Rows L2
@[simp] theorem intsD_iL : ∀ {ns : List Int}, intsD (iL ns) = some ns
  | [] => rfl
  | n :: ns => by
    show (intsD (iL ns)).bind _ = _
    rw [intsD_iL]
    rfl
end Mp
set_option Elab.async false
set_option linter.all false
set_option maxRecDepth 100000
set_option maxHeartbeats 4000000
namespace Mp
open PySem PySem.Spec PyProof.Rows L2
end Mp
set_option Elab.async false
set_option linter.all false
set_option maxRecDepth 100000
set_option maxHeartbeats 4000000
namespace Mp
open PySem PySem.Spec PyProof.Rows L2
def keysL : List D → Option (List Key)
  | [] => some []
  | d :: ds => match keyD d, keysL ds with
    | some k, some ks => some (k :: ks)
    | _, _ => none
@[simp] theorem keysL_nil : keysL [] = some [] := rfl
@[simp] theorem keysL_int {i : Int} {ds : List D} : keysL (.int i :: ds) = (keysL ds).map (Sum.inl i :: ·) := by
  show (match keyD (.int i), keysL ds with | some k, some ks => some (k :: ks) | _, _ => none) = _
  cases keysL ds <;> rfl
@[simp] theorem keysL_str {i : Str} {ds : List D} : keysL (.str i :: ds) = (keysL ds).map (Sum.inr i :: ·) := by
  show (match keyD (.str i), keysL ds with | some k, some ks => some (k :: ks) | _, _ => none) = _
  cases keysL ds <;> rfl
theorem RepL.keys {K : Frag} {A : Av} {H : Hp} : ∀ {ds : List D} {vs : List V} {ks : List Key}, RepL K A H ds vs → keysL ds = some ks → vs = ks.map kV
  | [], _, _, h, e => by cases h; cases e; rfl
  | d :: ds, _, ks, ⟨v, r, e, h, t⟩, g => by
    subst e
    unfold keysL at g
    split at g
    · rename_i k ks' h1 h2
      cases g
      rw [h.key h1, RepL.keys t h2]
      rfl
    · cases g
def getT (l : List (List Key × D)) (k : List Key) : Option D := (l.find? fun kv => decide (kv.1 = k)).map (·.2)
section
variable {K : Frag} {A : Av} {H : Hp}
end
theorem WOk.pushNew {K : Frag} {α : Mp_} {hp : List O} {H : Hp} {p : Addr} {o : O} {x : HO} (w : WOk K α hp H) (hn : H p = none)
    (ho : StepW α hp H (α.push (p, [])) (hp ++ [o]) (upd H p x) → OR K (Al (α.push (p, [])) (hp ++ [o])) (upd H p x) (p, []) o) :
    WOk K (α.push (p, [])) (hp ++ [o]) (upd H p x) ∧ Ext α hp H (α.push (p, [])) (hp ++ [o]) (upd H p x) := by
  have mt : ∀ a, Mt (α.push (p, [])) (hp ++ [o]) a → Mt α hp a ∨ a = p := fun a h => by
    rcases (mt_push w.len).mp h with h | ⟨_, h⟩
    · exact .inl h
    · rcases h with h | h
      · exact .inr h
      · cases h
  have na : ¬ Al α hp p := w.non p hn
  have st : StepW α hp H (α.push (p, [])) (hp ++ [o]) (upd H p x) := ⟨(Step.fresh (A := Al α hp) (M := Mt α hp) al_sub hn).keep, fun a h => by
    rcases h with h | h
    · exact (mt a h).imp .inl fun e => by rw [e]; exact hn
    · exact .inl (.inr h), fun a h => (mt a h).imp id fun e => by rw [e]; exact hn, al_sub, (Step.fresh (A := Al α hp) (M := Mt α hp) al_sub hn).stay⟩
  refine ⟨w.pushO st (fun a h => upd_ne fun e => na (e ▸ h)) (fun a h => ?_) ⟨by simp, by simp⟩ (ho st), Ext.push st hn⟩
  rcases h with h | h
  · rw [h]; exact na
  · cases h
section
variable {X : Cx} {W : WX} {a b c e o : Expr} {es : List Expr} {pos : Pos} {ta tb tc te to : TE} {Ma Mb Mc Me Mo : ME} {tA : TA} {MA' : MA}
end
section
variable {hp : List O} {env : List (Option S)} {n : Nat} {R : S → List O → Prop} {Xp : MX} {Ma Mb Mc : ME} {La : MA} {nx bk ct : PS → Prop} {rt : S → List O → Prop} {ex : MX}
end
end Mp
set_option Elab.async false
set_option linter.all false
set_option maxRecDepth 100000
set_option maxHeartbeats 4000000
namespace Mp
open PySem PySem.Spec PyProof.Rows L2
section
variable {hp : List O} {env : List (Option S)} {n : Nat} {Rw : Option Wk → List D → List O → Prop} {Xp : MX} {Ma : ME}
end
end Mp
set_option Elab.async false
set_option linter.all false
set_option maxRecDepth 100000
set_option maxHeartbeats 4000000
namespace Mp
open PySem PySem.Spec PyProof PyProof.Rows L2
end Mp
set_option Elab.async false
set_option linter.all false
set_option maxRecDepth 100000
set_option maxHeartbeats 1000000
namespace Mp
open PySem PySem.Spec PyProof.Rows L2
section
variable {X : Cx} {W : WX} {e : Expr} {st : Stmt}
end
section
variable {s : PS} {k : MK} {R : S → List O → Prop} {Xp : MX}
end
end Mp
set_option Elab.async false
set_option linter.all false
set_option maxRecDepth 100000
set_option maxHeartbeats 4000000
namespace Mp
open PySem PySem.Spec PyProof.Rows L2
section
variable {X : Cx} {tg : Expr}
end
end Mp
set_option Elab.async false
set_option linter.all false
set_option maxRecDepth 100000
set_option maxHeartbeats 4000000
namespace Mp
open PySem PySem.Spec PyProof.Rows L2
structure BuiltD (K : Frag) (α1 : Mp_) (hp1 : List O) (H1 : Hp) (p : Addr) (α' : Mp_) (hp' : List O) (H' : Hp) (acc : List (Key × D)) : Prop where
  pre : OwnLe α1.own α'.own
  ban : α'.ban = fun a => α1.ban a ∨ a = p
  ok : WOk K α' hp' H'
  step : StepW α1 hp1 H1 α' hp' H'
  nw : ∀ (n : Nat) (p : Addr × List Addr), α1.own.length ≤ n → α'.own[n]? = some p → H1 p.1 = none
  at_ : ∃ us, H' p = some (.dK us) ∧ RepK K (Al α' hp') H' acc us
theorem BuiltD.go {K : Frag} {α1 α2 α3 : Mp_} {hp1 hp2 hp3 : List O} {H1 H2 H3 : Hp} {p : Addr} {acc : List (Key × D)} (b : BuiltD K α1 hp1 H1 p α2 hp2 H2 acc) (e : Ext α2 hp2 H2 α3 hp3 H3) (w : WOk K α3 hp3 H3) : BuiltD K α1 hp1 H1 p α3 hp3 H3 acc := by
  obtain ⟨us, h1, h2⟩ := b.at_
  refine ⟨b.pre.trans e.pre.own, e.pre.ban.trans b.ban, w, b.step.trans e.step, fun n q h z => ?_, us, e.step.keep p _ h1 ?_, RepK.mono e.step h2⟩
  · by_cases hn : n < α2.own.length
    · obtain ⟨q', h3, h4⟩ := e.pre.get (List.getElem?_eq_getElem hn)
      rw [z] at h3
      cases h3
      rw [h4]
      exact b.nw n _ h (List.getElem?_eq_getElem hn)
    · exact none_back b.step.stay (e.nw n q (by omega) z)
  · exact (b.ok.ban p (by rw [b.ban]; exact .inr rfl)).2
theorem BuiltD.put {K : Frag} {α1 α2 : Mp_} {hp1 hp2 : List O} {H1 H2 : Hp} {p : Addr} {acc : List (Key × D)} {d : D} {u : V} (k : Key) (hn : H1 p = none) (b : BuiltD K α1 hp1 H1 p α2 hp2 H2 acc) (r : Rep K (Al α2 hp2) H2 d u) :
    ∃ us, H2 p = some (.dK us) ∧ us.length = acc.length ∧ BuiltD K α1 hp1 H1 p α2 hp2 (upd H2 p (.dK (putK us k u))) (setK acc k d) := by
  obtain ⟨us, h1, h2⟩ := b.at_
  have hb : α2.ban p := by rw [b.ban]; exact .inr rfl
  refine ⟨us, h1, h2.len.symm, b.pre, b.ban, b.ok.setBan hb, ⟨fun a o e n => by
    have z : a ≠ p := fun z => by subst z; rw [hn] at e; cases e
    rw [upd_ne z]; exact b.step.keep a o e n, b.step.newA, b.step.newM, b.step.sub, fun a o e => by
    obtain ⟨u, hu⟩ := b.step.stay a o e
    exact stay_upd a u hu⟩, b.nw, _, upd_same, ?_⟩
  exact RepK.set k (Rep.mono (stepBan hb) _ _ r) (RepK.mono (stepBan hb) h2)
theorem BuiltD.finM {K : Frag} {α1 α2 : Mp_} {hp1 hp2 : List O} {H1 H2 : Hp} {p : Addr} {acc : List (Key × D)} (w1 : WOk K α1 hp1 H1) (hn : H1 p = none) (b : BuiltD K α1 hp1 H1 p α2 hp2 H2 acc) :
    ∃ α3, Ext α1 hp1 H1 α3 (hp2 ++ [.dct acc]) H2 ∧ WOk K α3 (hp2 ++ [.dct acc]) H2 ∧ SRep K α3 (hp2 ++ [.dct acc]) H2 (.mu hp2.length) (.ref p) := by
  obtain ⟨us, h1, h2⟩ := b.at_
  exact ban_push (o := .dct acc) w1 hn b.pre b.ban b.ok b.step b.nw fun A' st => ⟨rfl, us, h1, h2.mono st⟩
section
variable {X : Cx} {W : WX} {t : TT} {Mt : MT} {tk tv : TE} {Mk Mv : ME} {kx vx : Expr} {pos : Pos}
end
end Mp
set_option Elab.async false
set_option linter.all false
set_option maxRecDepth 100000
set_option maxHeartbeats 4000000
namespace Mp
open PySem PySem.Spec PyProof.Rows L2
theorem RepK.getD {K : Frag} {A : Av} {H : Hp} {l : List (Key × D)} {ws : List (Key × V)} {k : Key} {d : D} {v : V} (h : RepK K A H l ws) (r : Rep K A H d v) : Rep K A H ((getK l k).getD d) ((valV ws k).getD v) := by
  cases e : getK l k with
  | none => rw [h.none e]; exact r
  | some d => obtain ⟨v, h1, h2⟩ := h.get e; rw [h1]; exact h2
section
variable {X : Cx} {W : WX} {o e f : Expr} {apos cpos : Pos} {td ty tx : TE} {Md Mk Mx : ME}
end
section
variable {Ma Mb Mc : ME} {hp : List O} {env : List (Option S)} {n : Nat} {R : S → List O → Prop} {Xp : MX}
end
end Mp
set_option Elab.async false
set_option linter.all false
set_option maxRecDepth 100000
set_option maxHeartbeats 4000000
namespace HT
open PySem PySem.Spec PyProof.Rows
section
variable {prog : Program} {w : World} {A : Around} {E : Value → Shared → Prop} {s : Shared}
end
end HT
namespace Mp
open PySem PySem.Spec PyProof.Rows L2
end Mp
set_option Elab.async false
set_option linter.all false
set_option maxRecDepth 100000
set_option maxHeartbeats 4000000
namespace Mp
open PySem PySem.Spec PyProof.Rows L2
def NoPair (K : Frag) : Prop := ∀ (a : Addr) (o : Obj) (its : Array Value) (n : Nat), K.lookup a = some o → o.cls = .type "tuple" → o.data = .seq its n → its.size ≠ 2
theorem Rep.pairH {K : Frag} {A : Av} {H : Hp} {ds : List D} {v : V} (hn : NoPair K) (h : Rep K A H (.tup ds) v) (e : ds.length = 2) : ∃ a vs, v = .ref a ∧ (H a = some (.tup vs) ∧ ¬ A a) ∧ RepL K A H ds vs := by
  obtain ⟨a, vs, rfl, h, r⟩ := h
  rcases h with h | h | ⟨o, its, n, h1, h2, h3, h4, h5⟩
  · exact ⟨a, vs, rfl, h, r⟩
  · rcases h with h | ⟨_, h⟩ <;> cases h
  · refine absurd ?_ (hn a o its n h1 h2 h3)
    have e1 := h5.length
    have e2 := r.length
    simp only [Array.length_toList] at e1
    omega
def key2 : D → Option (List Key)
  | .tup [a, b] => keysL [a, b]
  | _ => none
@[simp] theorem key2_tup {a b : D} : key2 (.tup [a, b]) = keysL [a, b] := rfl
theorem Rep.key2 {K : Frag} {A : Av} {H : Hp} {d : D} {v : V} {k : List Key} (hn : NoPair K) (h : Rep K A H d v) (e : key2 d = some k) : ∃ b, v = .ref b ∧ H b = some (.tup (k.map kV)) ∧ ¬ A b := by
  unfold Mp.key2 at e
  split at e
  · obtain ⟨b, vs, e1, h1, r⟩ := h.pairH hn rfl
    rw [r.keys e] at h1
    exact ⟨b, e1, h1⟩
  · cases e
def intsS : List D → Option (List Int)
  | [] => some []
  | .int b :: r => (intsS r).bind fun l => some (b :: l)
  | _ => none
theorem intsS_ok {K : Frag} {A : Av} {H : Hp} : ∀ {ds : List D} {vs : List V} {l : List Int}, RepL K A H ds vs → intsS ds = some l → vs = l.map V.int
  | [], _, l, h, e => by cases h; cases e; rfl
  | d :: ds, _, l, ⟨v, t, e0, h, ht⟩, e => by
    subst e0
    cases d with
    | int b =>
      have e1 : ((intsS ds).bind fun l => some (b :: l)) = some l := e
      cases g : intsS ds with
      | none => rw [g] at e1; cases e1
      | some l' =>
        rw [g] at e1
        cases e1
        cases (show v = .int b from h)
        rw [intsS_ok ht g]
        rfl
    | _ => cases e
@[simp] theorem intsS_iL : ∀ {xs : List Int}, intsS (xs.map D.int) = some xs
  | [] => rfl
  | b :: xs => by
    show ((intsS (xs.map D.int)).bind fun l => some (b :: l)) = _
    rw [intsS_iL]
    rfl
def fSum : FN := fun ds P => one ds fun d => on (lstD d) fun xs => on (intsS xs) fun l => P (.int l.sum)
theorem call_sumK {X : Cx} (K : Frag) (hc : X.calm = true) (hK : X.K = K := by rfl) : CallR X (.builtin "sum") (rSum K) := by subst hK; exact cr_sum hc
theorem sim_sum {K : Frag} : SimN K (rSum K) fSum := by
  intro A H ds vs hA r P p Q q
  obtain ⟨d, v, rfl, r, p⟩ := p.ex r
  obtain ⟨xs, e, p⟩ := on.ex p
  obtain ⟨l, el, p⟩ := on.ex p
  obtain ⟨a, vs, rfl, h, r2⟩ := lstD_rep r e
  refine ⟨a, l, rfl, ?_, q _ _ _ p rfl (.inl rfl)⟩
  rw [← intsS_ok r2 el]
  exact h
@[simp ↓] theorem xfSum {x : List D} {P : D → Prop} : fSum [.lst x] P = onH (intsS x) (fun l => P (.int l.sum)) .mk := nr rfl
section
variable {X : Cx} {W : WX} {a b c e o f : Expr} {pos apos cpos : Pos} {ta tb tc te to tf : TE} {Ma Mb Mc Me Mo Mf : ME}
end
section
variable {hp : List O} {env : List (Option S)} {n : Nat} {R : S → List O → Prop} {Xp : MX} {Ma Mb Mc : ME}
end
end Mp
set_option Elab.async false
set_option linter.all false
set_option maxRecDepth 100000
set_option maxHeartbeats 4000000
namespace Mp
open PySem PySem.Spec PyProof.Rows L2
section
variable {X : Cx}
end
section
variable {X : Cx} {W : WX} {e f : Expr} {p p2 pos pos2 : Pos} {te tf : TE} {Me Mf : ME}
end
section
variable {hp : List O} {env : List (Option S)} {n : Nat} {R : S → List O → Prop} {Xp : MX} {Ma Mb : ME}
end
end Mp
set_option Elab.async false
set_option linter.all false
set_option maxRecDepth 100000
set_option maxHeartbeats 4000000
namespace Mp
open PySem PySem.Spec PyProof.Rows L2
structure GGet (K : Frag) (w : World) (kvs : List (Str × D)) (p : Addr) : Prop where
  at_ : ∃ es n, KDict K w p es n
  mis : ∀ z, kvs.lookup z = none → PySem.W.nsIn K p z = some none
end Mp
set_option Elab.async false
set_option linter.all false
set_option maxRecDepth 100000
set_option maxHeartbeats 4000000
namespace Mp
open PySem PySem.Spec PyProof.Rows L2
abbrev TbD := Str × List Str
abbrev AlZ : Type := AlY × List (Option (List (Option (Str × Int))))
def obsZ (P : Program) (fa : List He.Fa) (fn : List He.DefD) (xs : List XcD) (bs : List (Frag → Bool)) (ps : List PrD) (ts : List TbD) (K : Frag) : AlZ := (obsY P fa fn xs bs ps K, ts.map fun t => He.dicW K (gtA t.1 K))
def valZ (fn : List He.DefD) (xs : List XcD) (ps : List PrD) (ts : List TbD) (w : World) : AlZ := (valY fn xs ps, ts.map fun t => some (He.keysIn w.params t.2))
def SaysZ (P : Program) (fa : List He.Fa) (fn : List He.DefD) (xs : List XcD) (bs : List (Frag → Bool)) (ps : List PrD) (ts : List TbD) (w : World) (K : Frag) : Prop := obsZ P fa fn xs bs ps ts K = valZ fn xs ps ts w
def obsZL (P : Program) (as : List Addr) (fa : List He.Fa) (fn : List He.DefD) (xs : List XcD) (bs : List (Frag → Bool)) (ps : List PrD) (ts : List TbD) (g : Addr → Option Obj) : AlZ := obsZ P fa fn xs bs ps ts (He.frG g (cStatics :: as))
def hookZL (P : Program) (as : List Addr) (fa : List He.Fa) (fn : List He.DefD) (xs : List XcD) (bs : List (Frag → Bool)) (ps : List PrD) (ts : List TbD) : PySem.W.Hook where
  α := AlZ
  obs s := obsZL P as fa fn xs bs ps ts s.heap.get?
  val w := valZ fn xs ps ts w
  says w h := ∃ K : Frag, K.In h ∧ SaysZ P fa fn xs bs ps ts w K
  of _ _ e := ⟨_, He.frG_in, e⟩
  keeps _ _ _ z k := z.elim fun K y => ⟨K, PySem.W.Frag.In.keeps y.1 k, y.2⟩
theorem obsZL_eq {P : Program} {as : List Addr} {fa : List He.Fa} {fn : List He.DefD} {xs : List XcD} {bs : List (Frag → Bool)} {ps : List PrD} {ts : List TbD} {g : Addr → Option Obj} {s : Shared} (h : ∀ a, g a = s.heap.get? a) : obsZL P as fa fn xs bs ps ts g = (hookZL P as fa fn xs bs ps ts).obs s := by
  cases (funext h : g = s.heap.get?)
  rfl
section
variable {P : Program} {fa : List He.Fa} {fn : List He.DefD} {xs : List XcD} {bs : List (Frag → Bool)} {ps : List PrD} {ts : List TbD} {w : World} {K : Frag}
theorem SaysZ.y (c : SaysZ P fa fn xs bs ps ts w K) : SaysY P fa fn xs bs ps K := congrArg (fun z : AlZ => z.1) c
end
open HandSHeadRun PySem.W in
theorem runZ_of {r : OpenRow} {q : Program} {P : Program} {as : List Addr} {fa : List He.Fa} {fn : List He.DefD} {xs : List XcD} {bs : List (Frag → Bool)} {ps : List PrD} {ts : List TbD} {M : Nat} {loose : List PySem.Str} {w : World}
    (h0 : ∀ os : OsState, (endF (stepQ (denQ tabQ) r.prog w) M r.prog w os).map (fun s => (looksF r.prog (boot_heap w.params) s.abs, seenQ q loose (importedModules r.prog.main.body) (fun s => xlAt q [] s && recOk r.toRowW.records s) s.abs)) = some (true, openGood q loose))
    (h1 : ∀ os : OsState, (endF (stepQ (denQ tabQ) r.prog w) M r.prog w os).map (fun s => fa.all fun f => f.ok (He.frG (HandSHeadRun.getT s) (cStatics :: as))) = some true)
    (h2 : ∀ os : OsState, (endF (stepQ (denQ tabQ) r.prog w) M r.prog w os).map (fun s => fn.all fun d => d.ok (He.frG (HandSHeadRun.getT s) (cStatics :: as))) = some true)
    (h3 : ∀ os : OsState, (endF (stepQ (denQ tabQ) r.prog w) M r.prog w os).map (fun s => fn.map fun d => He.fnW (He.frG (HandSHeadRun.getT s) (cStatics :: as)) d.at_) = some (fn.map He.DefD.val))
    (h4 : ∀ os : OsState, (endF (stepQ (denQ tabQ) r.prog w) M r.prog w os).map (fun s => (((xs.all fun d => (d.tests P (He.frG (HandSHeadRun.getT s) (cStatics :: as))).all id) && bs.all fun b => b (He.frG (HandSHeadRun.getT s) (cStatics :: as))), (xs.map fun d => xObs (He.frG (HandSHeadRun.getT s) (cStatics :: as)) d.x), (ps.all fun d => d.ok (He.frG (HandSHeadRun.getT s) (cStatics :: as))), (ps.map fun d => d.obs (He.frG (HandSHeadRun.getT s) (cStatics :: as))))) = some (true, xs.map XcD.val, true, ps.map PrD.val))
    (h5 : ∀ os : OsState, (endF (stepQ (denQ tabQ) r.prog w) M r.prog w os).map (fun s => ts.map fun t => He.dicW (He.frG (HandSHeadRun.getT s) (cStatics :: as)) (gtA t.1 (He.frG (HandSHeadRun.getT s) (cStatics :: as)))) = some (ts.map fun t => some (He.keysIn w.params t.2))) :
    RunEq r q (hookZL P as fa fn xs bs ps ts) (fun s => obsZL P as fa fn xs bs ps ts (HandSHeadRun.getT s)) M loose w := by
  intro os
  have a0 := h0 os
  have a1 := h1 os
  have a2 := h2 os
  have a3 := h3 os
  have a4 := h4 os
  have a5 := h5 os
  generalize endF (stepQ (denQ tabQ) r.prog w) M r.prog w os = E at *
  cases E with
  | none => cases a1
  | some s =>
    simp only [Option.map_some, Option.some.injEq, Prod.mk.injEq] at a0 a1 a2 a3 a4 a5
    obtain ⟨b1, b2⟩ := a0
    obtain ⟨c1, c2, c3, c4⟩ := a4
    simp only [Option.map_some, Option.some.injEq, Prod.mk.injEq]
    refine ⟨b1, Prod.ext b2 ?_⟩
    show ((((((fa.all _) && ((fn.all _) && ((xs.all _) && bs.all _)), _, _), _), _), _) : AlZ) = valZ fn xs ps ts w
    rw [a1, a2, a3, c2, c3, c4, a5]
    rw [c1]
    rfl
end Mp
set_option Elab.async false
set_option linter.all false
set_option maxRecDepth 100000
set_option maxHeartbeats 4000000
namespace Mp
open PySem PySem.Spec PyProof.Rows L2
def othT : List String := ["NoneType", "bool", "int", "str", "tuple", "list"]
structure OwnK (K : Frag) (C : Str) : Prop where
  cls : Cls K (He.ga K C)
  isi : SlX.SIsi K (He.ga K C)
  sf : PySem.W.selfFirst K (He.ga K C) = true
  off : ∀ n ∈ othT, PySem.W.kitOne K (.type n) (.ref (He.ga K C)) = some false
  nf : ∀ n ∈ othT, PySem.W.notFirst K (He.ga K C) (.type n) = true
def ownB (C : Str) : Frag → Bool := fun K => PySem.W.selfFirst K (He.ga K C) && (othT.all fun n => decide (PySem.W.kitOne K (.type n) (.ref (He.ga K C)) = some false) && PySem.W.notFirst K (He.ga K C) (.type n)) &&
  (decide (PySem.W.findIn K (.ref (He.ga K C)) "__class__" = some (some (.builtin "object.__class__"))) && decide (PySem.W.specialIn K (.builtin "object.__class__") "__get__" = some (some (.builtin "getset_descriptor.__get__"))) && decide (PySem.W.takesIn K (.builtin "object.__class__") = some true) && decide (PySem.W.mroIn K (He.ga K C) (.type "object") = some true))
theorem ownB_ok {K : Frag} {C : Str} (h : ownB C K = true) (c : Cls K (He.ga K C)) : OwnK K C := by
  unfold ownB at h
  simp only [Bool.and_eq_true, List.all_eq_true, decide_eq_true_eq] at h
  obtain ⟨⟨h1, h2⟩, ⟨⟨h3, h4⟩, h5⟩, h6⟩ := h
  exact ⟨c, ⟨h3, h4, h5, h6⟩, h1, fun n hn => (h2 n hn).1, fun n hn => (h2 n hn).2⟩
theorem OwnK.tyx {K : Frag} {C : Str} {H : Hp} {a dx : Addr} {fs : List (Str × V)} (o : OwnK K C) (h : H a = some (.ins (He.ga K C) dx fs)) : TyX K H (.ref a) (.ref (He.ga K C)) := .base (.ins h o.cls o.isi.ca o.isi.cn o.isi.ct o.isi.cm)
def ownT (C : Str) (d : D) : Option Bool := match d with
  | .obj E _ _ => if E = C then some true else none
  | d => match tyN d with
    | some n => if n ∈ othT then some false else none
    | none => none
@[simp] theorem ownT_obj {C : Str} {fs : List Str} {ds : List D} : ownT C (.obj C fs ds) = some true := if_pos rfl
@[simp] theorem ownT_int {C : Str} {i : Int} : ownT C (.int i) = some false := rfl
@[simp] theorem ownT_str {C : Str} {i : Str} : ownT C (.str i) = some false := rfl
@[simp] theorem ownT_bl {C : Str} {i : Bool} : ownT C (.bl i) = some false := rfl
@[simp] theorem ownT_non {C : Str} : ownT C .non = some false := rfl
@[simp] theorem ownT_tup {C : Str} {i : List D} : ownT C (.tup i) = some false := rfl
@[simp] theorem ownT_lst {C : Str} {i : List D} : ownT C (.lst i) = some false := rfl
theorem ownT_ok {K : Frag} {A : Av} {H : Hp} {C : Str} {d : D} {v : V} {b : Bool} (o : OwnK K C) (r : RepT K A H d v) (h : ownT C d = some b) :
    ∃ t, TyX K H v t ∧ PySem.W.notFirst K (He.ga K C) t = true ∧ PySem.W.kitOne K t (.ref (He.ga K C)) = some b := by
  cases d with
  | obj E fs ds =>
    have h : (if E = C then some true else none) = some b := h
    split at h
    · rename_i e
      cases h
      subst e
      obtain ⟨a, vs, dx, rfl, h1, _⟩ := (r : Rep K A H (.obj E fs ds) v)
      exact ⟨_, o.tyx h1.1, by unfold PySem.W.notFirst; simp, by unfold PySem.W.kitOne; simp⟩
    · cases h
  | _ =>
    revert h
    unfold ownT
    simp only
    split
    · rename_i n e
      split
      · rename_i hn
        intro h
        cases h
        exact ⟨.type n, r.tyx e, o.nf n hn, o.off n hn⟩
      · intro h; cases h
    · intro h; cases h
def mIsiO (C : Str) (Ma : ME) : ME := fun s R Xp => Ma s (fun x hp1 => on (val hp1 x) fun d => on (ownT C d) fun b => R (.d (.bl b)) hp1) Xp
theorem sim_isiO {K : Frag} {W : WX} {ta : TE} {Ma : ME} {C : Str} (o : OwnK K C) (ha : SimE K W ta Ma) : SimE K W (tCB (rIsi K) (tCons ta (tCons (tC (.ref (He.ga K C))) tNil))) (mIsiO C Ma) := by
  intro α s H σ w e R Xp m Q q qx
  refine ha α s H σ w e _ _ m _ (fun x hp1 α1 H1 v1 m1 e1 w1 r1 => ?_) qx
  obtain ⟨d, g1, m1⟩ := on.ex m1
  obtain ⟨b, g2, m1⟩ := on.ex m1
  obtain ⟨t, h1, _, h3⟩ := ownT_ok o (r1.val w1 g1) g2
  exact ⟨v1, _, t, _, b, rfl, .own _, h1, h3, q _ _ α1 _ _ m1 e1 w1 rfl⟩
def mDunB (C : Str) (M : MF) (Ma Mb : ME) : ME := fun s R Xp => Ma s (fun x hp1 => Mb { s with hp := hp1 } (fun y hp2 => on (objF C x) fun _ => on (objF C y) fun _ => M hp2 [x, y] R noX) Xp) Xp
def mDunE (C : Str) (M : MF) (Ma Mb : ME) : ME := fun s R Xp => Ma s (fun x hp1 => Mb { s with hp := hp1 } (fun y hp2 => on (objF C x) fun _ => on (val hp2 y) fun d => on (ownT C d) fun _ => M hp2 [x, y] R noX) Xp) Xp
def mDunI (C : Str) (M : MF) (Ma Mb : ME) : ME := fun s R Xp => Ma s (fun x hp1 => Mb { s with hp := hp1 } (fun y hp2 => on (objF C y) fun _ => M hp2 [y, x] (fun z hp3 => on (asB z) fun b => R (.d (.bl b)) hp3) noX) Xp) Xp
theorem sim_dunB {K : Frag} {W : WX} {fr : Bool} {M : MF} {ta tb : TE} {Ma Mb : ME} {C : Str} (ha : SimE K W ta Ma) (hb : SimE K W tb Mb) : SimE K W (tOp (rDunB (He.ga K C) (spM K 2 fr M)) ta tb) (mDunB C M Ma Mb) := by
  intro α s H σ w e R Xp m Q q qx
  refine ha α s H σ w e _ _ m _ (fun x hp1 α1 H1 v1 m1 e1 w1 r1 => ?_) qx
  refine hb α1 { s with hp := hp1 } H1 σ w1 (e.mono e1) _ _ m1 _ (fun y hp2 α2 H2 v2 m2 e2 w2 r2 => ?_) (qx.at e1)
  obtain ⟨_, g1, m2⟩ := on.ex m2
  obtain ⟨_, g2, m2⟩ := on.ex m2
  obtain ⟨a, dx, fs, rfl, h1, _⟩ := (r1.mono e2).objA g1
  obtain ⟨b, dy, gs, rfl, h2, _⟩ := r2.objA g2
  exact ⟨a, dx, fs, b, dy, gs, rfl, rfl, h1, h2, rfl, α2, hp2, [x, y], R, noX, w2, .cons (r1.mono e2) (.cons r2 .nil), m2, fun s' hp' α' H' v r e' w' sr _ => q s' hp' α' H' v r ((e1.trans e2).trans e') w' sr, fun _ _ _ _ _ _ r => r.elim⟩
theorem sim_dunE {K : Frag} {W : WX} {fr : Bool} {M : MF} {ta tb : TE} {Ma Mb : ME} {C : Str} (o : OwnK K C) (ha : SimE K W ta Ma) (hb : SimE K W tb Mb) : SimE K W (tOp (rDunE K (He.ga K C) (spM K 2 fr M)) ta tb) (mDunE C M Ma Mb) := by
  intro α s H σ w e R Xp m Q q qx
  refine ha α s H σ w e _ _ m _ (fun x hp1 α1 H1 v1 m1 e1 w1 r1 => ?_) qx
  refine hb α1 { s with hp := hp1 } H1 σ w1 (e.mono e1) _ _ m1 _ (fun y hp2 α2 H2 v2 m2 e2 w2 r2 => ?_) (qx.at e1)
  obtain ⟨_, g1, m2⟩ := on.ex m2
  obtain ⟨d, g2, m2⟩ := on.ex m2
  obtain ⟨_, g3, m2⟩ := on.ex m2
  obtain ⟨a, dx, fs, rfl, h1, _⟩ := (r1.mono e2).objA g1
  obtain ⟨t, k1, k2, _⟩ := ownT_ok o (r2.val w2 g2) g3
  exact ⟨a, dx, fs, t, rfl, h1, k1, k2, rfl, α2, hp2, [x, y], R, noX, w2, .cons (r1.mono e2) (.cons r2 .nil), m2, fun s' hp' α' H' v r e' w' sr _ => q s' hp' α' H' v r ((e1.trans e2).trans e') w' sr, fun _ _ _ _ _ _ r => r.elim⟩
theorem sim_dunI {K : Frag} {W : WX} {fr : Bool} {M : MF} {ta tb : TE} {Ma Mb : ME} {C : Str} (ha : SimE K W ta Ma) (hb : SimE K W tb Mb) : SimE K W (tOp (rDunI (He.ga K C) (spM K 2 fr M) false) ta tb) (mDunI C M Ma Mb) := by
  intro α s H σ w e R Xp m Q q qx
  refine ha α s H σ w e _ _ m _ (fun x hp1 α1 H1 v1 m1 e1 w1 r1 => ?_) qx
  refine hb α1 { s with hp := hp1 } H1 σ w1 (e.mono e1) _ _ m1 _ (fun y hp2 α2 H2 v2 m2 e2 w2 r2 => ?_) (qx.at e1)
  obtain ⟨_, g1, m2⟩ := on.ex m2
  obtain ⟨a, dx, fs, rfl, h1, _⟩ := r2.objA g1
  refine ⟨a, dx, fs, rfl, h1, rfl, α2, hp2, [y, x], _, noX, w2, .cons r2 (.cons (r1.mono e2) .nil), m2, fun s' hp' α' H' v r e' w' sr _ => ?_, fun _ _ _ _ _ _ r => r.elim⟩
  obtain ⟨b, g, r⟩ := on.ex r
  exact ⟨b, sr.asB g, q _ _ α' H' _ r ((e1.trans e2).trans e') w' (by show V.bl _ = V.bl _; simp)⟩
def miOwn (C F : Str) (Ma : ME) : MI := fun s R Xp => Ma s (fun v hp' => on (objF C v) fun fs => on (fs.lookup F) fun d => on (asTup d) fun ds => R none ds hp') Xp
theorem asTup_some {d : D} {ds : List D} (h : asTup d = some ds) : d = .tup ds := by
  cases d <;> first | (cases h; rfl) | cases h
theorem simi_own {K : Frag} {W : WX} {te : TE} {Ma : ME} {C F : Str} (ha : SimE K W te Ma) : SimI K W (iOwn K (He.ga K C) F te) (miOwn C F Ma) := by
  intro α s H σ w e R Xp m Q q qx
  refine ha α s H σ w e _ _ m _ (fun v hp1 α1 H1 u m1 e1 w1 r1 => ?_) qx
  obtain ⟨fs, g1, m1⟩ := on.ex m1
  obtain ⟨d, g2, m1⟩ := on.ex m1
  obtain ⟨ds, g3, m1⟩ := on.ex m1
  have := asTup_some g3
  subst this
  obtain ⟨a, dx, ws, rfl, h1, h2, _⟩ := r1.objA g1
  obtain ⟨v, h3, h4⟩ := h2 F _ g2
  obtain ⟨t, vs, rfl, h5, h6⟩ := tup_sq h4
  refine ⟨a, dx, ws, t, vs, rfl, h1, h3, h5, q none _ hp1 α1 H1 _ m1 e1 w1 (walks_t fun α' hp' H' st _ w' _ => ?_) trivial trivial⟩
  obtain ⟨t', vs', e1', h5', h6'⟩ := tup_sq (Rep.mono st _ _ h4)
  cases e1'
  exact ⟨vs', h5', h6'⟩
section
variable {X : Cx} {W : WX} {o v e f a b : Expr} {es : List Expr} {pos apos cpos : Pos} {to tv te tf ta tb td ty tx : TE} {tA : TA} {Mo Mv Me Mf Ma Mb Md Mky Mx : ME} {MA' : MA}
theorem de_fldO (K : Frag) {C f : Str} (hC : Cls K (He.ga K C)) (hf : NoAttr K (He.ga K C) f) (ho : DE X W o to Mo) (hb : attributeBase o f X.env (eval o X.env) = eval o X.env := by rfl) (hK : X.K = K := by rfl) :
    DE X W (.Attribute o f pos) (tFld K to f) (mFldO C f Mo) := by subst hK; exact ⟨pe_fld ho.p hb, sim_fldO hC hf ho.s⟩
theorem de_propO (K : Frag) {C f : Str} {k : Nat} {p g : Addr} {fd : FuncData} {ps : List Str} {fr : Bool} {M : MF} (hC : Cls K (He.ga K C)) (hp : PropOf K (He.ga K C) f p g) (F : FnOk X.prog X.w K X.mg X.base (L2.CX X.prog X.w) k g fd ps (spM K 1 fr M)) (hr : Room (k + 1) X.A) (hb : Binds K fd ps []) (ho : DE X W o to Mo)
    (hab : attributeBase o f X.env (eval o X.env) = eval o X.env := by rfl) (hK : X.K = K := by rfl) : DE X W (.Attribute o f pos) (tProp (He.ga K C) (spM K 1 fr M) [] noE to) (mPropO C M Mo) := by subst hK; exact ⟨pe_prop ho.p hC hp F hr hb .nil pass_no hab, sim_propO ho.s⟩
theorem de_makeO (K : Frag) {C : Str} {k n : Nat} {f : Addr} {fd : FuncData} {ps : List Str} {fr : Bool} {M : MF} {ds : List Value} {dvs : List V} {dd : List D} {p : Pos} (mk : Mk K (He.ga K C) f) (F : FnOk X.prog X.w K X.mg X.base (L2.CX X.prog X.w) k f fd ps (spM K n fr M)) (hr : Room (k + 1) X.A) (hg : Gl X C) (hm : X.mg C = some (.ref (He.ga K C)))
    (hb : Binds K fd ps ds) (hd : Vals dvs ds) (hdd : ∀ A H, RepL K A H dd dvs) (ha : DA X W (e :: es) tA MA') (hdb : (C == ("__debug__" : Str)) = false := by decide)
    (he : starEach (e :: es) X.env = (false, eval e X.env) :: starEach es X.env := by rfl) (hpl : (backTo pos (starEach es X.env)).any (·.1) = false := by rfl) (hK : X.K = K := by rfl) :
    DE X W (.Call (.Name C p) (e :: es) [] pos) (tMake (He.ga K C) (spM K n fr M) dvs noE tA) (mMakeO C n M dd MA') := by subst hK; exact ⟨pe_make mk F hr hg hm hb hd pass_no ha.p hdb he hpl, sim_makeO hdd ha.s⟩
theorem de_makeO0 (K : Frag) {C : Str} {k n : Nat} {f : Addr} {fd : FuncData} {ps : List Str} {fr : Bool} {M : MF} {ds : List Value} {dvs : List V} {dd : List D} {p : Pos} (mk : Mk K (He.ga K C) f) (F : FnOk X.prog X.w K X.mg X.base (L2.CX X.prog X.w) k f fd ps (spM K n fr M)) (hr : Room (k + 1) X.A) (hg : Gl X C) (hm : X.mg C = some (.ref (He.ga K C)))
    (hb : Binds K fd ps ds) (hd : Vals dvs ds) (hdd : ∀ A H, RepL K A H dd dvs) (hdb : (C == ("__debug__" : Str)) = false := by decide) (hK : X.K = K := by rfl) :
    DE X W (.Call (.Name C p) [] [] pos) (tMake (He.ga K C) (spM K n fr M) dvs noE tNil) (mMakeO C n M dd mNil) := by subst hK; exact ⟨pe_make0 mk F hr hg hm hb hd pass_no hdb, sim_makeO hdd sim_nil⟩
theorem de_dunB (K : Frag) {op : Operator} {C : Str} {k : Nat} {f : Addr} {fd : FuncData} {ps : List Str} {fr : Bool} {M : MF} (ok : OwnK K C) (d : Meth K (He.ga K C) (PySem.dunder op.info.2) f) (F : FnOk X.prog X.w K X.mg X.base (L2.CX X.prog X.w) k f fd ps (spM K 2 fr M)) (hr : Room k X.A) (hb : Binds K fd ps [])
    (ha : DE X W a ta Ma) (hb' : DE X W b tb Mb) (hK : X.K = K := by rfl) : DE X W (.BinOp a op b pos) (tOp (rDunB (He.ga K C) (spM K 2 fr M)) ta tb) (mDunB C M Ma Mb) := by
  subst hK; exact ⟨pe_op (op_dunB d ok.sf F hr hb) ha.p hb'.p, sim_dunB ha.s hb'.s⟩
theorem de_dunE (K : Frag) {C : Str} {k : Nat} {f : Addr} {fd : FuncData} {ps : List Str} {fr : Bool} {M : MF} (ok : OwnK K C) (d : Meth K (He.ga K C) "__eq__" f) (F : FnOk X.prog X.w K X.mg X.base (L2.CX X.prog X.w) k f fd ps (spM K 2 fr M)) (hr : Room k X.A) (hb : Binds K fd ps [])
    (ha : DE X W a ta Ma) (hb' : DE X W b tb Mb) (hm : behindInMarks .Eq b = false := by rfl) (hK : X.K = K := by rfl) : DE X W (.Compare a [.Eq] [b] pos) (tOp (rDunE K (He.ga K C) (spM K 2 fr M)) ta tb) (mDunE C M Ma Mb) := by
  subst hK; exact ⟨pe_cmpR (op_dunE d F hr hb) ha.p hb'.p hm, sim_dunE ok ha.s hb'.s⟩
theorem dt_dunE (K : Frag) {C : Str} {k : Nat} {f : Addr} {fd : FuncData} {ps : List Str} {fr : Bool} {M : MF} (ok : OwnK K C) (d : Meth K (He.ga K C) "__eq__" f) (F : FnOk X.prog X.w K X.mg X.base (L2.CX X.prog X.w) k f fd ps (spM K 2 fr M)) (hr : Room k X.A) (hb : Binds K fd ps [])
    (ha : DE X W a ta Ma) (hb' : DE X W b tb Mb) (hm : behindInMarks .Eq b = false := by rfl) (hK : X.K = K := by rfl) : DT X W (.Compare a [.Eq] [b] pos) (tTest (tOp (rDunE K (He.ga K C) (spM K 2 fr M)) ta tb)) (mTest (mDunE C M Ma Mb)) := by
  subst hK; exact ⟨pt_cmpR (op_dunE d F hr hb) ha.p hb'.p hm, sim_test (sim_dunE ok ha.s hb'.s)⟩
theorem de_dunI (K : Frag) {C : Str} {k : Nat} {f : Addr} {fd : FuncData} {ps : List Str} {fr : Bool} {M : MF} (d : Meth K (He.ga K C) "__contains__" f) (F : FnOk X.prog X.w K X.mg X.base (L2.CX X.prog X.w) k f fd ps (spM K 2 fr M)) (hr : Room k X.A) (hb : Binds K fd ps [])
    (ha : DE X W a ta Ma) (hb' : DE X W b tb Mb) (hm : behindInMarks .In b = false := by rfl) (hK : X.K = K := by rfl) : DE X W (.Compare a [.In] [b] pos) (tOp (rDunI (He.ga K C) (spM K 2 fr M) false) ta tb) (mDunI C M Ma Mb) := by
  subst hK; exact ⟨pe_cmpR (op_dunI d F hr hb) ha.p hb'.p hm, sim_dunI ha.s hb'.s⟩
theorem de_isiO (K : Frag) {C : Str} {p p2 : Pos} (ok : OwnK K C) (hg : Gl X "isinstance") (hm : X.mg "isinstance" = none) (hg2 : Gl X C) (hm2 : X.mg C = some (.ref (He.ga K C))) (ha : DE X W a ta Ma) (hdb : (C == ("__debug__" : Str)) = false := by decide)
    (he : starEach [a, .Name C p2] X.env = (false, eval a X.env) :: starEach [.Name C p2] X.env := by rfl) (he2 : starEach [.Name C p2] X.env = (false, eval (.Name C p2) X.env) :: starEach [] X.env := by rfl) (hpl : (backTo pos (starEach [.Name C p2] X.env)).any (·.1) = false := by rfl) (hK : X.K = K := by rfl) :
    DE X W (.Call (.Name "isinstance" p) [a, .Name C p2] [] pos) (tCB (rIsi K) (tCons ta (tCons (tC (.ref (He.ga K C))) tNil))) (mIsiO C Ma) := by
  subst hK; exact ⟨pe_callB call_isi hg hm rfl (pa_cons ha.p (pa_cons (pe_glob hg2 hm2 rfl hdb) pa_nil he2) he) (by decide) (by decide) he hpl, sim_isiO ok ha.s⟩
theorem di_own (K : Frag) {tg : Expr} {k : Nat} {C F : Str} {f : Addr} {fd : FuncData} (c : ItC2 X.prog X.w K X.mg X.base k (He.ga K C) F f fd) (hr : Room (k + 1) X.A) (h : DE X W a ta Ma) (hK : X.K = K := by rfl) : DI X W tg a (iOwn K (He.ga K C) F ta) (miOwn C F Ma) := by
  subst hK; exact ⟨pi_own c hr h.p, simi_own h.s⟩
end
section
variable {hp : List O} {env : List (Option S)} {n : Nat} {R : S → List O → Prop} {Xp : MX} {Mo Ma Mb Mc : ME} {La : MA} {Rw : Option Wk → List D → List O → Prop}
@[simp ↓] theorem x_fldO {C f : Str} : mFldO C f Mo ⟨hp, env, n⟩ R Xp = Mo ⟨hp, env, n⟩ (fun x hp1 => onH (objF C x) (fun fs => onH (fs.lookup f) (fun d => R (.d d) hp1) .mk) .mk) Xp := nr rfl
@[simp ↓] theorem x_propO {C : Str} {M : MF} : mPropO C M Mo ⟨hp, env, n⟩ R Xp = Mo ⟨hp, env, n⟩ (fun o hp1 => onH (objF C o) (fun _ => mfH M hp1 [o] R noX .mk) .mk) Xp := nr rfl
@[simp ↓] theorem x_makeO {C : Str} {k : Nat} {M : MF} {dd : List D} : mMakeO C k M dd La ⟨hp, env, n⟩ R Xp = La ⟨hp, env, n⟩ (fun ss hp1 => 1 + ss.length + dd.length = k ∧ mfH M (hp1 ++ [.reg [.ins C []]]) (.ob hp1.length 0 :: (ss ++ dd.map S.d)) (fun v hp2 => v = .d .non ∧ onH (frzI C hp2[hp1.length]?) (fun q => R (.d (.obj C q.1 q.2)) (hp2.take hp1.length)) .mk) noX .mk) Xp := nr rfl
@[simp ↓] theorem x_dunB {C : Str} {M : MF} : mDunB C M Ma Mb ⟨hp, env, n⟩ R Xp = Ma ⟨hp, env, n⟩ (fun x hp1 => Mb ⟨hp1, env, n⟩ (fun y hp2 => onH (objF C x) (fun _ => onH (objF C y) (fun _ => mfH M hp2 [x, y] R noX .mk) .mk) .mk) Xp) Xp := nr rfl
@[simp ↓] theorem x_dunE {C : Str} {M : MF} : mDunE C M Ma Mb ⟨hp, env, n⟩ R Xp = Ma ⟨hp, env, n⟩ (fun x hp1 => Mb ⟨hp1, env, n⟩ (fun y hp2 => onH (objF C x) (fun _ => onH (val hp2 y) (fun d => onH (ownT C d) (fun _ => mfH M hp2 [x, y] R noX .mk) .mk) .mk) .mk) Xp) Xp := nr rfl
@[simp ↓] theorem x_dunI {C : Str} {M : MF} : mDunI C M Ma Mb ⟨hp, env, n⟩ R Xp = Ma ⟨hp, env, n⟩ (fun x hp1 => Mb ⟨hp1, env, n⟩ (fun y hp2 => onH (objF C y) (fun _ => mfH M hp2 [y, x] (fun z hp3 => onH (asB z) (fun b => R (.d (.bl b)) hp3) .mk) noX .mk) .mk) Xp) Xp := nr rfl
@[simp ↓] theorem x_isiO {C : Str} : mIsiO C Ma ⟨hp, env, n⟩ R Xp = Ma ⟨hp, env, n⟩ (fun x hp1 => onH (val hp1 x) (fun d => onH (ownT C d) (fun b => R (.d (.bl b)) hp1) .mk) .mk) Xp := nr rfl
@[simp ↓] theorem x_iOwn {C F : Str} : miOwn C F Ma ⟨hp, env, n⟩ Rw Xp = Ma ⟨hp, env, n⟩ (fun v hp' => onH (objF C v) (fun fs => onH (fs.lookup F) (fun d => onH (asTup d) (fun ds => Rw none ds hp') .mk) .mk) .mk) Xp := nr rfl
end
theorem itC2_of {P : Program} {w : World} {K : Frag} {mg : Str → Option Value} {base : Heap} {k : Nat} {C fld : Str} {f : Addr} {fd : FuncData} {x qual : Str} {params : Arguments} {body : List Stmt} {scope : Scope}
    (me : Meth K (He.ga K C) "__iter__" f) (cls : Cls K (He.ga K C)) (no : NoAttr K (He.ga K C) fld) (bi : Binds K fd ["self"] []) (F : FunD K x qual params body scope [] [] f fd) (S : FnScope ["self"] ["self"] scope)
    (h : ∀ (cdv : Value) (A : Around) (outer : List Env) (s : Shared) (H : Hp) (E : XK), ∃ t, PSs (cxOf (L2.CX P w) P w K mg base ["self"] qual scope f cdv A outer s H E) body t ∧ ∀ (D : Ends) (σ : L2.St) (H' : Hp), tCB (rIterT K s.heap.objs.size) (tCons (tFld K (tVar 0) fld) tNil) σ H' D.rt → t D σ H') : ItC2 P w K mg base k (He.ga K C) fld f fd :=
  ⟨me, cls, no, bi, x, qual, params, body, scope, F, S, fun cdv A outer s H E _ => h cdv A outer s H E⟩
end Mp
set_option Elab.async false
set_option linter.all false
set_option maxRecDepth 100000
set_option maxHeartbeats 4000000
namespace Mp
open PySem PySem.Spec PyProof.Rows L2
structure FnQ (P : Program) (w : World) (K : Frag) (mg : Str → Option Value) (base : Heap) (k : Nat) (f : Addr) (fd : FuncData) (ps : List Str) (sp : Sp) : Prop where
  len : ∀ vs H Q E, sp vs H Q E → vs.length = ps.length
  run : ∀ (A : Around) (outer : List Env) (st : Shared) (H : Hp) (args : Args) (us : List Value) (vs : List V) (Q : VK) (E : XK) (p : Addr × Obj), L2H.RoomH k A → L2H.PinOk outer H st p → Env0 P w K mg base A outer st H → BindsTo st fd args (ps.zip us) → Vals vs us → sp vs H Q E →
    codeAny (model P w) A (.call (.ref f) args) (CR (L2.CX P w) outer P w H st Q E) st
def emB (p : Frag → Addr) : Frag → Bool := fun K => match K.lookup (p K) with
  | some ⟨.type n, _, .seq its _, _⟩ => n == "tuple" && its.size == 0
  | _ => false
theorem emB_ok {p : Frag → Addr} {K : Frag} (h : emB p K = true) : SqT K hp0 (p K) [] := by
  unfold emB at h
  split at h
  · rename_i n d its m sl q
    obtain ⟨h1, h2⟩ := He.ba h
    have e1 : n = "tuple" := by simpa using h1
    have e2 : its = #[] := by simpa using h2
    subst e1 e2
    exact .inr ⟨_, #[], m, q, rfl, rfl, by decide +kernel, .nil⟩
  · cases h
end Mp
set_option Elab.async false
set_option linter.all false
set_option maxRecDepth 100000
set_option maxHeartbeats 4000000
namespace Mp
open PySem PySem.Spec PyProof.Rows L2
def keyV : Key → D
  | .inl i => .int i
  | .inr x => .str x
theorem rep_key {K : Frag} {A : Av} {H : Hp} (k : Key) : Rep K A H (keyV k) (kV k) := by
  cases k <;> rfl
section
variable {hp : List O} {env : List (Option S)} {n : Nat} {R : S → List O → Prop} {Xp : MX} {Ma : ME}
end
end Mp
set_option Elab.async false
set_option linter.all false
set_option maxRecDepth 100000
set_option maxHeartbeats 4000000
namespace Mp
open PySem PySem.Spec PyProof.Rows L2 HandSPX
section
variable {X : Cx} {pos : Pos} {W : WX}
end
section
variable {hp : List O} {env : List (Option S)} {n : Nat} {R : S → List O → Prop} {Xp : MX} {Sb : MS} {nx bk ct : PS → Prop} {rt : S → List O → Prop} {ex : MX}
end
end Mp
set_option Elab.async false
set_option linter.all false
set_option maxRecDepth 100000
set_option maxHeartbeats 4000000
namespace Mp
open PySem PySem.Spec PyProof.Rows L2 HandSPX
def mDNewG : ME := fun s R _ => R (.ob s.hp.length 0) (s.hp ++ [.reg [.dct []]])
theorem sim_dnewG {K : Frag} {W : WX} : SimE K W tDNewK mDNewG := by
  intro α s H σ w e R Xp m Q q qx p hn
  obtain ⟨w2, e2⟩ := w.pushNew (o := .reg [.dct []]) (x := .dK []) hn fun _ => ⟨rfl, fun k g a h1 h2 => by
    cases k with
    | zero => cases h1; cases h2; exact ⟨[], upd_same, .nil⟩
    | succ k => cases h1⟩
  exact q _ _ _ _ _ m e2 w2 ⟨(p, []), p, by show (α.own ++ [(p, [])])[s.hp.length]? = _; rw [← w.len, List.getElem?_append_right (Nat.le_refl _)]; simp, rfl, rfl⟩
theorem repL_keysN {K : Frag} {A : Av} {H : Hp} {P : Nd → V → Prop} : ∀ {l : List (Key × Nd)} {ws : List (Key × V)}, PK P l ws → RepL K A H (l.map fun kv => keyV kv.1) (ws.map fun kv => kV kv.1)
  | [], _, .nil => rfl
  | (k, d) :: r, _, .cons (b := (k', u)) h t => by
    have e : k = k' := h.1
    subst e
    exact ⟨_, _, rfl, rep_key k, repL_keysN t⟩
def mListKG (Ma : ME) : ME := fun s R Xp => Ma s (fun o hp1 => on (obO o) fun q => on (dctG (gnAt hp1 q.1 q.2)) fun l => R (.d (.lst (l.map fun kv => keyV kv.1))) hp1) Xp
theorem sim_listKG {K : Frag} {W : WX} {ta : TE} {Ma : ME} (ha : SimE K W ta Ma) : SimE K W (tCB rListD (tCons ta tNil)) (mListKG Ma) := by
  intro α s H σ w e R Xp m Q q qx
  refine ha α s H σ w e _ _ m _ (fun o hp1 α1 H1 v1 m1 e1 w1 r1 => ?_) qx
  obtain ⟨⟨n, j⟩, g1, m1⟩ := on.ex m1
  obtain ⟨l, g2, m1⟩ := on.ex m1
  obtain ⟨p, a, h1, h2, rfl⟩ := r1.obj g1
  obtain ⟨us, h3, h4⟩ := w1.gn (dctG_some g2) h1 h2
  refine ⟨a, us, rfl, h3, fun l' hl => ?_⟩
  obtain ⟨e4, w4⟩ := w1.grown (.inr ⟨l', .lst (us.map fun kv => kV kv.1), hl, rfl⟩)
  exact q _ _ α1 _ _ m1 (e1.trans e4) w4 (new_lst w1.non hl (repL_keysN h4))
def optN (o : Option Nd) (f : Nd → Prop) (g : Prop) : Prop := match o with | some d => f d | none => g
@[simp] theorem optN_some {d : Nd} {f : Nd → Prop} {g : Prop} : optN (some d) f g = f d := rfl
@[simp] theorem optN_none {f : Nd → Prop} {g : Prop} : optN none f g = g := rfl
def mSetdG (Md Mk Mx : ME) : ME := fun s R Xp => Md s (fun o hp1 => on (obO o) fun q0 => on (dctG (gnAt hp1 q0.1 q0.2)) fun _ => Mk { s with hp := hp1 } (fun y hp2 => Mx { s with hp := hp2 } (fun z hp3 => on (obO o) fun q => on (dctG (gnAt hp3 q.1 q.2)) fun l => on (isD y) fun dy => on (keyD dy) fun k => l.length < sizeLine ∧
  optN (getN l k) (fun x => R (ndS q.1 x) hp3) (on (absorb hp3 q.1 z) fun r => R (ndS q.1 r.2) (putN r.1 q.1 q.2 (.dct (setN l k r.2))))) Xp) Xp) Xp
theorem nk_none {P : Nd → V → Prop} {k : Key} {l : List (Key × Nd)} {ws : List (Key × V)} (h : PK P l ws) (e : getN l k = none) : valV ws k = none := by
  have a := nk_any k h
  unfold getN at e
  unfold valV
  rw [Option.map_eq_none_iff, List.find?_eq_none] at e ⊢
  have : (l.any fun kv => decide (kv.1 = k)) = false := by
    rw [List.any_eq_false]
    exact e
  rw [this, List.any_eq_false] at a
  exact a
theorem sim_dsetdG {K : Frag} {W : WX} {td ty tx : TE} {Md Mk Mx : ME} (hd : SimE K W td Md) (hk : SimE K W ty Mk) (hx : SimE K W tx Mx) : SimE K W (tDSetd td ty tx) (mSetdG Md Mk Mx) := by
  intro α s H σ w e R Xp m Q q qx
  refine hd α s H σ w e _ _ m _ (fun o hp1 α1 H1 u m1 e1 w1 r1 => ?_) qx
  obtain ⟨⟨n, j⟩, g1, m1⟩ := on.ex m1
  obtain ⟨l0, g0, m1⟩ := on.ex m1
  obtain ⟨p0, a0, h1, h2, hu⟩ := r1.obj g1
  subst hu
  obtain ⟨us0, h3, h4⟩ := w1.gn (dctG_some g0) h1 h2
  refine ⟨a0, rfl, .inl ⟨us0, .inl h3⟩, ?_⟩
  refine hk α1 { s with hp := hp1 } H1 σ w1 (e.mono e1) _ _ m1 _ (fun y hp2 α2 H2 uy m2 e2 w2 r2 => ?_) (qx.at e1)
  refine hx α2 { s with hp := hp2 } H2 σ w2 ((e.mono e1).mono e2) _ _ m2 _ (fun z hp3 α3 H3 uz m3 e3 w3 r3 => ?_) ((qx.at e1).at e2)
  obtain ⟨⟨n', j'⟩, g1', m3⟩ := on.ex m3
  rw [g1] at g1'
  cases g1'
  obtain ⟨l, g2, m3⟩ := on.ex m3
  obtain ⟨dy, g3, m3⟩ := on.ex m3
  obtain ⟨k, g4, hz, m3⟩ := on.ex m3
  obtain ⟨p, a, h5, h6, h7⟩ := ((r1.mono e2).mono e3).obj g1
  have ea : a0 = a := V.ref.inj h7
  subst ea
  obtain ⟨us, h8, h9⟩ := w3.gn (dctG_some g2) h5 h6
  refine ⟨us, k, h8, ((r2.mono e3).isD g3).key g4, by rw [← paired_len h9]; exact hz, fun v hv => ?_, fun hv => ?_⟩
  · cases eg : getN l k with
    | none => rw [nk_none h9 eg] at hv; cases hv
    | some x =>
      rw [eg] at m3
      obtain ⟨v', hv', r'⟩ := nk_get h9 eg
      rw [hv] at hv'
      cases hv'
      exact q _ _ α3 H3 _ m3 ((e1.trans e2).trans e3) w3 (r'.s h5)
  · cases eg : getN l k with
    | some x =>
      obtain ⟨v', hv', r'⟩ := nk_get h9 eg
      rw [hv] at hv'
      cases hv'
    | none =>
      rw [eg] at m3
      obtain ⟨⟨hp4, x⟩, g5, m3⟩ := on.ex m3
      obtain ⟨α4, p4, w4, e4, b6, b7, b8, b9⟩ := absorb_ok w3 r3 g5 (dctG_some g2) h5 h6
      obtain ⟨us4, b10, b11⟩ := w4.gn b8 b6 b7
      rw [h8] at b10
      cases b10
      obtain ⟨w5, e5⟩ := w4.node_ (x := .dK (putK us k uz)) (g' := .dct (setN l k x)) b8 b6 b7 fun st => ⟨_, upd_same, nk_set k (b9.mono st fun _ _ h => h) (L2.Paired.mapP b11 fun _ _ q => ⟨q.1, q.2.mono st fun _ _ h => h⟩)⟩
      exact q _ _ α4 _ _ m3 ((((e1.trans e2).trans e3).trans e4).trans e5) w5 ((b9.mono e5.step fun _ _ h => h).s b6)
section
variable {X : Cx} {W : WX} {o e f a : Expr} {pos apos cpos p : Pos} {to te tf ta td ty tx : TE} {Mo Ma Md Mky Mx : ME}
theorem de_dnewG : DE X W (.Dict [] [] pos) tDNewK mDNewG := ⟨pe_dnewK, sim_dnewG⟩
theorem de_dsetdG (ho : DE X W o td Md) (he : DE X W e ty Mky) (hf : DE X W f tx Mx) (m : M2 X o "setdefault" apos e f cpos := by exact ⟨rfl, rfl, rfl, rfl⟩) : DE X W (.Call (.Attribute o "setdefault" apos) [e, f] [] cpos) (tDSetd td ty tx) (mSetdG Md Mky Mx) := ⟨pe_dsetd ho.p he.p hf.p m, sim_dsetdG ho.s he.s hf.s⟩
theorem de_listKG (hc : X.calm = true) (hg : Gl X "list") (hm : X.mg "list" = none) (ha : DE X W a ta Ma) (he : starEach [a] X.env = (false, eval a X.env) :: starEach [] X.env := by rfl) :
    DE X W (.Call (.Name "list" p) [a] [] pos) (tCB rListD (tCons ta tNil)) (mListKG Ma) := ⟨pe_callTy (call_list_dK hc) hg hm rfl (pa_cons ha.p pa_nil he) (by decide) (by decide) he rfl, sim_listKG ha.s⟩
end
section
variable {hp : List O} {env : List (Option S)} {n : Nat} {R : S → List O → Prop} {Xp : MX} {Ma Mb Mc : ME}
@[simp ↓] theorem x_dnewG : mDNewG ⟨hp, env, n⟩ R Xp = R (.ob hp.length 0) (hp ++ [.reg [.dct []]]) := nr rfl
@[simp ↓] theorem x_listKG : mListKG Ma ⟨hp, env, n⟩ R Xp = Ma ⟨hp, env, n⟩ (fun o hp1 => onH (obO o) (fun q => onH (dctG (gnO (rgO hp1[q.1]?) q.2)) (fun l => R (.d (.lst (l.map fun kv => keyV kv.1))) hp1) .mk) .mk) Xp := by
  unfold mListKG
  simp only [gnAt_O]
  rfl
@[simp ↓] theorem x_dsetdG : mSetdG Ma Mb Mc ⟨hp, env, n⟩ R Xp = Ma ⟨hp, env, n⟩ (fun o hp1 => onH (obO o) (fun q0 => onH (dctG (gnO (rgO hp1[q0.1]?) q0.2)) (fun _ => Mb ⟨hp1, env, n⟩ (fun y hp2 => Mc ⟨hp2, env, n⟩ (fun z hp3 => onH (obO o) (fun q => onH (dctG (gnO (rgO hp3[q.1]?) q.2)) (fun l => onH (isD y) (fun dy => onH (keyD dy) (fun k => l.length < sizeLine ∧
    optN (getN l k) (fun x => R (ndS q.1 x) hp3) (onH (absorb hp3 q.1 z) (fun r => R (ndS q.1 r.2) (putH (rgO r.1[q.1]?) r.1 q.1 q.2 (.dct (setN l k r.2)))) .mk)) .mk) .mk) .mk) .mk) Xp) Xp) .mk) .mk) Xp := by
  unfold mSetdG
  simp only [gnAt_O, putN_H]
  rfl
end
end Mp
set_option Elab.async false
set_option linter.all false
set_option maxRecDepth 100000
set_option maxHeartbeats 4000000
namespace Pl
open PySem PySem.Spec PyProof.Rows L2 Mp
def m__law_mix : MF := mDef 4 false
    ((mSeq (mAsg (m2 (fI (fun _ j => 0 < j) fun i j => .int (i % j)) (mN fInt (mCons (m2 fAdd (m2 fAdd (m2 fMul (mVar 0) (mC (.int 48271))) (m2 fMul (mVar 1) (mC (.int 1234567891)))) (mC (.int 12345679))) mNil)) (mC (.int 2147483647))) (mgName 2))
    (mSeq (mAsg (m2 (fI (fun _ j => 0 < j) fun i j => .int (i % j)) (mN fInt (mCons (m2 fAdd (m2 fAdd (m2 fAdd (m2 fMul (mVar 2) (mVar 2)) (m2 fMul (m2 (fI CDivW fun i j => .int (i / j)) (mVar 2) (mC (.int 3))) (mC (.int 16807)))) (mVar 1)) (mC (.int 65537))) mNil)) (mC (.int 2147483629))) (mgName 3))
    (mRet (m2 (fI (fun _ j => 0 < j) fun i j => .int (i % j)) (mN fInt (mCons (m2 fAdd (m2 fMul (mVar 3) (mC (.int 69621))) (m2 (fI CDivW fun i j => .int (i / j)) (mVar 2) (mC (.int 1024)))) mNil)) (mC (.int 2147483587)))))))
def m__law_store : MF := mDef 3 false
    ((mSeq (mAsg (mC (.int 7)) (mgName 1))
    (mSeq (mFor (miSq (mVar 0)) (mgName 2) (mAsg (mCall 2 m__law_mix [] (mCons (mVar 1) (mCons (m2 (fI (fun _ j => 0 < j) fun i j => .int (i % j)) (mN fInt (mCons (mVar 2) mNil)) (mC (.int 2147483647))) mNil))) (mgName 1)))
    (mRet (mDisp (((mC (.str "cells")), (mN fList (mCons (mVar 0) mNil))) :: (((mC (.str "cell")), (mC (.int 0))) :: (((mC (.str "rest")), (mC (.int 0))) :: (((mC (.str "small")), (mC (.int 0))) :: (((mC (.str "left")), (mC (.int 0))) :: (((mC (.str "turn")), (mC (.int 0))) :: (((mC (.str "seed")), (mVar 1)) :: []))))))))))))
def m__law_take : MF := mDef 8 false
    ((mSeq (mIfS (mTest (m2 (fI0 fun i j => .bl (decide (i < j))) (mVar 1) (mC (.int 2)))) (mRet (mC (.int 0))) mNext)
    (mSeq (mIfS (mAnd (mTest (m2 fEq (mDGet (mVar 0) (mC (.str "rest"))) (mC (.int 0)))) (mAnd (mTest (m2 fEq (mDGet (mVar 0) (mC (.str "left"))) (mC (.int 0)))) (mTest (m2 (fI0 fun i j => .bl (decide (i < j))) (mDGet (mVar 0) (mC (.str "cell"))) (mN fLen (mCons (mDGet (mVar 0) (mC (.str "cells"))) mNil)))))) (mSeq (mAsg (m2 fIx (mDGet (mVar 0) (mC (.str "cells"))) (mDGet (mVar 0) (mC (.str "cell")))) (mgName 2))
    (mSeq (mDPut (mVar 0) (mC (.str "cell")) (m2 fAdd (mDGet (mVar 0) (mC (.str "cell"))) (mC (.int 1))))
    (mIfS (mTest (m2 (fI0 fun i j => .bl (decide (j ≤ i))) (mN fAbs (mCons (mVar 2) mNil)) (m2 (fI CPow fun i j => .int (i ^ j.toNat)) (mC (.int 10)) (mC (.int 18))))) (mDPut (mVar 0) (mC (.str "rest")) (mN fAbs (mCons (mVar 2) mNil))) (mSeq (mDPut (mVar 0) (mC (.str "small")) (mVar 2))
    (mDPut (mVar 0) (mC (.str "left")) (mC (.int 2))))))) mNext)
    (mSeq (mIfS (mTest (m2 (fI0 fun i j => .bl (decide (j < i))) (mDGet (mVar 0) (mC (.str "rest"))) (mC (.int 0)))) (mSeq (mAsg (mDGet (mVar 0) (mC (.str "rest"))) (mgName 3))
    (mSeq (mDPut (mVar 0) (mC (.str "rest")) (m2 (fI CDivW fun i j => .int (i / j)) (mVar 3) (mVar 1)))
    (mRet (m2 (fI (fun _ j => 0 < j) fun i j => .int (i % j)) (mN fInt (mCons (mVar 3) mNil)) (mVar 1))))) mNext)
    (mSeq (mAsg (mDGet (mVar 0) (mC (.str "seed"))) (mgName 4))
    (mSeq (mIfS (mTest (m2 (fI0 fun i j => .bl (decide (j < i))) (mDGet (mVar 0) (mC (.str "left"))) (mC (.int 0)))) (mSeq (mDPut (mVar 0) (mC (.str "left")) (m2 (fI0 fun i j => .int (i - j)) (mDGet (mVar 0) (mC (.str "left"))) (mC (.int 1))))
    (mAsg (mDGet (mVar 0) (mC (.str "small"))) (mgName 4))) mNext)
    (mSeq (mAsg (mC (.int 0)) (mgName 5))
    (mSeq (mAsg (mC (.int 1)) (mgName 6))
    (mSeq (mIfS (mTest (m2 (fI0 fun i j => .bl (decide (j < i))) (mVar 1) (m2 (fI CPow fun i j => .int (i ^ j.toNat)) (mC (.int 10)) (mC (.int 8))))) (mAsg (mC (.int 6)) (mgName 6)) mNext)
    (mSeq (mFor (miRng f1R (mCons (mVar 6) mNil)) (mgName 7) (mSeq (mDPut (mVar 0) (mC (.str "turn")) (m2 fAdd (mDGet (mVar 0) (mC (.str "turn"))) (mC (.int 1))))
    (mAsg (m2 fAdd (m2 fMul (mVar 5) (mC (.int 2147483587))) (mCall 2 m__law_mix [] (mCons (mVar 4) (mCons (mDGet (mVar 0) (mC (.str "turn"))) mNil)))) (mgName 5))))
    (mRet (m2 (fI (fun _ j => 0 < j) fun i j => .int (i % j)) (mN fInt (mCons (mVar 5) mNil)) (mVar 1)))))))))))))
def m__law_pick : MF := mDef 2 false
    ((mRet (m2 fIx (mVar 1) (mCall 2 m__law_take [] (mCons (mVar 0) (mCons (mN fLen (mCons (mVar 1) mNil)) mNil))))))
def b__law_equal (z_self : MF) : MF := mDef 3 false
    ((mSeq (mIfS (mTest (mN fIsi (mCons (mVar 0) (mCons (mTup (mCons (mC (.ty "list")) (mCons (mC (.ty "tuple")) mNil))) mNil)))) (mSeq (mIfS (mOr (mTest (m2 fNe (mN fIsi (mCons (mVar 0) (mCons (mC (.ty "list")) mNil))) (mN fIsi (mCons (mVar 1) (mCons (mC (.ty "list")) mNil))))) (mTest (m2 fNe (mN fIsi (mCons (mVar 0) (mCons (mC (.ty "tuple")) mNil))) (mN fIsi (mCons (mVar 1) (mCons (mC (.ty "tuple")) mNil)))))) (mRet (mC (.bl false))) mNext)
    (mSeq (mIfS (mTest (m2 fNe (mN fLen (mCons (mVar 0) mNil)) (mN fLen (mCons (mVar 1) mNil)))) (mRet (mC (.bl false))) mNext)
    (mSeq (mFor (miRng f1R (mCons (mN fLen (mCons (mVar 0) mNil)) mNil)) (mgName 2) (mIfS (mNot (mTest (mCall 2 z_self [] (mCons (m2 fIx (mVar 0) (mVar 2)) (mCons (m2 fIx (mVar 1) (mVar 2)) mNil))))) (mRet (mC (.bl false))) mNext))
    (mRet (mC (.bl true)))))) mNext)
    (mSeq (mIfS (mTest (mN fIsi (mCons (mVar 1) (mCons (mTup (mCons (mC (.ty "list")) (mCons (mC (.ty "tuple")) mNil))) mNil)))) (mRet (mC (.bl false))) mNext)
    (mSeq (mIfS (mOr (mTest (m2 fIsN (mVar 0) (mC .non))) (mTest (m2 fIsN (mVar 1) (mC .non)))) (mRet (mAndV (m2 fIsN (mVar 0) (mC .non)) (m2 fIsN (mVar 1) (mC .non)))) mNext)
    (mSeq (mIfS (mOr (mTest (mN fIsi (mCons (mVar 0) (mCons (mC (.ty "bool")) mNil)))) (mTest (mN fIsi (mCons (mVar 1) (mCons (mC (.ty "bool")) mNil))))) (mRet (mAndV (mN fIsi (mCons (mVar 0) (mCons (mC (.ty "bool")) mNil))) (mAndV (mN fIsi (mCons (mVar 1) (mCons (mC (.ty "bool")) mNil))) (m2 fEq (mVar 0) (mVar 1))))) mNext)
    (mSeq (mIfS (mOr (mTest (mN fIsi (mCons (mVar 0) (mCons (mC (.ty "str")) mNil)))) (mTest (mN fIsi (mCons (mVar 1) (mCons (mC (.ty "str")) mNil))))) (mRet (mAndV (mN fIsi (mCons (mVar 0) (mCons (mC (.ty "str")) mNil))) (mAndV (mN fIsi (mCons (mVar 1) (mCons (mC (.ty "str")) mNil))) (m2 fEq (mVar 0) (mVar 1))))) mNext)
    (mRet (mAndV (mN fIsi (mCons (mVar 0) (mCons (mC (.ty "int")) mNil))) (mAndV (mN fIsi (mCons (mVar 1) (mCons (mC (.ty "int")) mNil))) (m2 fEq (mVar 0) (mVar 1)))))))))))
def m__law_equal : Nat → MF
  | 0 => fun _ _ _ _ => False
  | n + 1 => b__law_equal (m__law_equal n)
end Pl
set_option Elab.async false
set_option linter.all false
set_option maxRecDepth 100000
set_option maxHeartbeats 100000
namespace Pl
open PySem PySem.Spec PyProof.Rows L2 Mp
theorem s_mix {hp : List O} {a b : Int} {R : S → List O → Prop} {Xp : MX} {t : Tg (m__law_mix, R, Xp)} (h : ∀ r : Int, R (.d (.int r)) hp) : mfH m__law_mix hp [.d (.int a), .d (.int b)] R Xp t := by
  refine mfH_of ?_
  unfold m__law_mix
  simp
  exact ⟨.inl (.inl ⟨by omega, by omega⟩), h _⟩
def sto (cs : List Int) (c r s l t sd : Int) : List (Key × D) := [(.inr "cells", .lst (iL cs)), (.inr "cell", .int c), (.inr "rest", .int r), (.inr "small", .int s), (.inr "left", .int l), (.inr "turn", .int t), (.inr "seed", .int sd)]
section
variable {cs : List Int} {c r s l t sd x : Int}
@[simp] theorem g1 : getK (sto cs c r s l t sd) (.inr "cells") = some (.lst (iL cs)) := rfl
@[simp] theorem g2 : getK (sto cs c r s l t sd) (.inr "cell") = some (.int c) := rfl
@[simp] theorem g3 : getK (sto cs c r s l t sd) (.inr "rest") = some (.int r) := rfl
@[simp] theorem g4 : getK (sto cs c r s l t sd) (.inr "small") = some (.int s) := rfl
@[simp] theorem g5 : getK (sto cs c r s l t sd) (.inr "left") = some (.int l) := rfl
@[simp] theorem g6 : getK (sto cs c r s l t sd) (.inr "turn") = some (.int t) := rfl
@[simp] theorem g7 : getK (sto cs c r s l t sd) (.inr "seed") = some (.int sd) := rfl
@[simp] theorem p2 : setK (sto cs c r s l t sd) (.inr "cell") (.int x) = sto cs x r s l t sd := rfl
@[simp] theorem p3 : setK (sto cs c r s l t sd) (.inr "rest") (.int x) = sto cs c x s l t sd := rfl
@[simp] theorem p4 : setK (sto cs c r s l t sd) (.inr "small") (.int x) = sto cs c r x l t sd := rfl
@[simp] theorem p5 : setK (sto cs c r s l t sd) (.inr "left") (.int x) = sto cs c r s x t sd := rfl
@[simp] theorem p6 : setK (sto cs c r s l t sd) (.inr "turn") (.int x) = sto cs c r s l x sd := rfl
@[simp] theorem sto_len : (sto cs c r s l t sd).length = 7 := rfl
@[simp] theorem sto_ok : ((sto cs c r s l t sd).length < sizeLine) = True := by simp [sizeLine]
end
def St (o : O) : Prop := ∃ cs c r s l t sd, o = .dct (sto cs c r s l t sd) ∧ 0 ≤ c
theorem s_takeW {hp : List O} {n : Nat} {many : Int} {o : O} {R : S → List O → Prop} {Xp : MX} {tg : Tg (m__law_take, R, Xp)} (ho : hp[n]? = some o) (hs : St o) (hm : many < 2 ^ 250)
    (h : ∀ (r : Int) o', St o' → 0 ≤ r → (2 ≤ many → r < many) → (many < 2 → r = 0) → R (.d (.int r)) (hp.set n o')) : mfH m__law_take hp [.mu n, .d (.int many)] R Xp tg := by
  obtain ⟨cs, c, r, s, l, t, sd, rfl, hc⟩ := hs
  have hg := set_at ho
  refine mfH_of ?_
  unfold m__law_take
  simp only [x_def]
  refine seq_cut (fun hp' env' => hp = hp' ∧ [some (.mu n), some (.d (.int many)), none, none, none, none, none, none] = env' ∧ 2 ≤ many) (fun N hN => ?_) ?_
  · simp
    refine brH_of (fun hb => ?_) (fun hb => ?_)
    · simp at hb
      have := h 0 (.dct (sto cs c r s l t sd)) ⟨_, _, _, _, _, _, _, rfl, hc⟩ (by omega) (by omega) (by omega)
      rw [set_same ho] at this
      simpa using this
    · simp at hb
      simpa using hN _ _ ⟨rfl, rfl, hb⟩
  rintro hp' env' ⟨rfl, rfl, hm2⟩
  refine seq_cut (fun hp' env' => ∃ c r s l t sd x, hp' = hp.set n (.dct (sto cs c r s l t sd)) ∧ env' = [some (.mu n), some (.d (.int many)), x, none, none, none, none, none] ∧ 0 ≤ c) (fun N hN => ?_) ?_
  · have hN0 := hN _ _ ⟨c, r, s, l, t, sd, none, rfl, rfl, hc⟩
    rw [set_same ho] at hN0
    simp [ho]
    refine brH_of (fun hb => ?_) (fun hb => ?_)
    rotate_left
    · simpa using hN0
    simp [ho]
    refine brH_of (fun hb => ?_) (fun hb => ?_)
    rotate_left
    · simpa using hN0
    simp [ho]
    refine brH_of (fun hb => ?_) (fun hb => ?_)
    rotate_left
    · simpa using hN0
    simp at hb
    simp [ho, atI_nat hc hb]
    refine brH_of (fun hb => ?_) (fun hb => ?_)
    · simp [ho, hg]
      exact hN _ _ ⟨_, _, _, _, _, _, _, rfl, rfl, by omega⟩
    · simp [ho, hg]
      exact hN _ _ ⟨_, _, _, _, _, _, _, rfl, rfl, by omega⟩
  rintro _ _ ⟨c, r, s, l, t, sd, x, rfl, rfl, hc⟩
  refine seq_cut (fun hp' env' => hp.set n (.dct (sto cs c r s l t sd)) = hp' ∧ [some (.mu n), some (.d (.int many)), x, none, none, none, none, none] = env') (fun N hN => ?_) ?_
  · simp [hg]
    refine brH_of (fun hb => ?_) (fun hb => ?_)
    · have h1 : (0 : Int) < many := by omega
      have h2 : CDivW r many = True := eq_true (wide_div (b := 250) h1 (by omega) (by decide) (by decide))
      simp [hg, h1, h2, retP]
      exact h _ _ ⟨_, _, _, _, _, _, _, rfl, hc⟩ (Int.emod_nonneg _ (by omega)) (fun _ => Int.emod_lt_of_pos _ h1) (fun z => by omega)
    · simpa using hN _ _ ⟨rfl, rfl⟩
  rintro _ _ ⟨rfl, rfl⟩
  refine seq_cut (fun hp' env' => hp.set n (.dct (sto cs c r s l t sd)) = hp' ∧ [some (.mu n), some (.d (.int many)), x, none, some (.d (.int sd)), none, none, none] = env') (fun N hN => ?_) ?_
  · simpa [hg] using hN _ _ ⟨rfl, rfl⟩
  rintro _ _ ⟨rfl, rfl⟩
  refine seq_cut (fun hp' env' => ∃ l b, hp' = hp.set n (.dct (sto cs c r s l t sd)) ∧ env' = [some (.mu n), some (.d (.int many)), x, none, some (.d (.int b)), none, none, none]) (fun N hN => ?_) ?_
  · simp [hg]
    refine brH_of (fun hb => ?_) (fun hb => ?_)
    · simp [hg]
      exact hN _ _ ⟨_, _, rfl, rfl⟩
    · simpa using hN _ _ ⟨_, _, rfl, rfl⟩
  rintro _ _ ⟨l, b, rfl, rfl⟩
  simp only [x_seq, x_asg, x_c, x_gName]
  refine cut_nx (fun hp' env' => ∃ k : Nat, k ≤ 6 ∧ hp' = hp.set n (.dct (sto cs c r s l t sd)) ∧ env' = [some (.mu n), some (.d (.int many)), x, none, some (.d (.int b)), some (.d (.int 0)), some (.d (.int k)), none]) (fun N hN => ?_) ?_
  · simp
    refine brH_of (fun hb => ?_) (fun hb => ?_)
    · simpa using hN _ _ ⟨6, by omega, rfl, rfl⟩
    · simpa using hN _ _ ⟨1, by omega, rfl, rfl⟩
  rintro _ _ ⟨k, hk, rfl, rfl⟩
  have k1 : (k : Int) < 4611686018427387904 := by omega
  have k2 : (-4611686018427387904 : Int) ≤ k := by omega
  simp [k1, k2]
  refine forH_of (fun ds hp' env' => ∃ t tot y, hp' = hp.set n (.dct (sto cs c r s l t sd)) ∧ env' = [some (.mu n), some (.d (.int many)), x, none, some (.d (.int b)), some (.d (.int tot)), some (.d (.int k)), y]) ⟨_, _, _, rfl, rfl⟩ ?_ ?_
  · rintro d ds _ _ N ⟨t, tot, y, rfl, rfl⟩ hN
    simp [hg]
    refine s_mix fun z => ?_
    simp
    exact hN _ _ trivial ⟨_, _, _, rfl, rfl⟩
  · rintro _ _ ⟨t, tot, y, rfl, rfl⟩
    have h1 : (0 : Int) < many := by omega
    simp [h1]
    exact h _ _ ⟨_, _, _, _, _, _, _, rfl, hc⟩ (Int.emod_nonneg _ (by omega)) (fun _ => Int.emod_lt_of_pos _ h1) (fun z => by omega)
theorem s_take {hp : List O} {n : Nat} {many : Int} {o : O} {R : S → List O → Prop} {Xp : MX} {tg : Tg (m__law_take, R, Xp)} (ho : hp[n]? = some o) (hs : St o) (hm : many < 2 ^ 64)
    (h : ∀ (r : Int) o', St o' → 0 ≤ r → (2 ≤ many → r < many) → (many < 2 → r = 0) → R (.d (.int r)) (hp.set n o')) : mfH m__law_take hp [.mu n, .d (.int many)] R Xp tg :=
  s_takeW ho hs (Int.lt_trans hm (by decide)) h
end Pl
set_option Elab.async false
set_option linter.all false
set_option maxRecDepth 100000
set_option maxHeartbeats 100000
namespace Pl
open PySem PySem.Spec PyProof.Rows L2 Mp
variable {hp : List O} {n : Nat} {o : O} {R : S → List O → Prop} {Xp : MX}
theorem s_store {ns : List Int} {tg : Tg (m__law_store, R, Xp)} (hl : ns.length ≤ 63) (h : ∀ o', St o' → R (.mu hp.length) (hp ++ [o'])) : mfH m__law_store hp [.d (.fl (iL ns))] R Xp tg := by
  refine mfH_of ?_
  unfold m__law_store
  simp
  refine forH_of (fun ds hp' env' => (∃ ms : List Int, ds = iL ms) ∧ hp' = hp ∧ ∃ a y, env' = [some (.d (.fl (iL ns))), some (.d (.int a)), y]) ⟨⟨ns, rfl⟩, rfl, _, _, rfl⟩ ?_ ?_
  · rintro d ds _ _ N ⟨⟨ms, e⟩, rfl, a, y, rfl⟩ hN
    cases ms with
    | nil => cases e
    | cons m ms =>
      cases e
      simp
      refine s_mix fun z => ?_
      simp
      exact hN _ _ trivial ⟨⟨ms, rfl⟩, rfl, _, _, rfl⟩
  · rintro _ _ ⟨_, rfl, a, y, rfl⟩
    simp
    refine onH_of (x := sto ns 0 0 0 0 0 a) rfl ⟨by simp, ?_⟩
    rw [show mergeD [] (sto ns 0 0 0 0 0 a) = sto ns 0 0 0 0 0 a from rfl]
    simp
    exact h _ ⟨_, _, _, _, _, _, _, rfl, by omega⟩
theorem s_pick {xs : List D} {tg : Tg (m__law_pick, R, Xp)} (ho : hp[n]? = some o) (hs : St o) (h0 : 0 < xs.length) (h1 : xs.length < 2 ^ 60) (h : ∀ (i : Nat) (hi : i < xs.length) o', St o' → R (.d xs[i]) (hp.set n o')) : mfH m__law_pick hp [.mu n, .d (.lst xs)] R Xp tg := by
  refine mfH_of ?_
  unfold m__law_pick
  simp
  refine s_take ho hs (by omega) fun r o' hs' h0 h2 h3 => ?_
  have hr : r < xs.length := by
    by_cases z : (2 : Int) ≤ xs.length
    · exact h2 z
    · have := h3 (by omega); omega
  simp [atI_nat h0 hr]
  exact h _ _ _ hs'
end Pl
set_option Elab.async false
set_option linter.all false
set_option maxRecDepth 100000
set_option maxHeartbeats 400000
namespace Pl
open PySem PySem.Spec PyProof.Rows L2 Mp
def plD : Nat → D → Bool
  | 0, _ => false
  | _ + 1, .int _ => true
  | _ + 1, .bl _ => true
  | _ + 1, .str x => shD (.str x)
  | _ + 1, .non => true
  | k + 1, .tup ds => decide (ds.length ≤ 1000000) && ds.all (plD k)
  | k + 1, .lst ds => decide (ds.length ≤ 1000000) && ds.all (plD k)
  | k + 1, .fl ds => decide (ds.length ≤ 1000000) && ds.all (plD k)
  | _ + 1, .ty _ => false
  | _ + 1, .obj _ _ _ => false
theorem val_eq {hp : List O} {s : S} {d : D} (h : val hp s = some d) (n : ∀ ds, d ≠ .lst ds) : s = .d d := by
  cases s with
  | d x => cases h; rfl
  | mu m =>
    rw [val_O] at h
    cases g : hp[m]? with
    | none => rw [g] at h; cases h
    | some o =>
      rw [g] at h
      cases o with
      | lst es => cases h; exact absurd rfl (n _)
      | _ => cases h
  | ob m k =>
    rw [val_ob] at h
    cases g : nodeDs hp m k with
    | none => rw [g] at h; cases h
    | some ds => rw [g] at h; cases h; exact absurd rfl (n ds)
  | exn _ _ _ _ => cases h
theorem eq_pl : ∀ (k : Nat) (d : D), plD k d = true → ∀ {hp : List O} {s t : S} {R : S → List O → Prop} {Xp : MX} {tg : Tg (m__law_equal k, R, Xp)}, val hp s = some d → val hp t = some d → R (.d (.bl true)) hp → mfH (m__law_equal k) hp [s, t] R Xp tg
  | 0, _, z, _, _, _, _, _, _, _, _, _ => by cases z
  | k + 1, .int i, z, hp, s, t, R, Xp, tg, hv, hw, h => by
    rw [val_eq hv (fun _ => by simp), val_eq hw (fun _ => by simp)]
    refine mfH_of ?_
    show b__law_equal (m__law_equal k) hp _ R Xp
    unfold b__law_equal
    simp [Mp.isNon]
    exact h
  | k + 1, .bl i, z, hp, s, t, R, Xp, tg, hv, hw, h => by
    rw [val_eq hv (fun _ => by simp), val_eq hw (fun _ => by simp)]
    refine mfH_of ?_
    show b__law_equal (m__law_equal k) hp _ R Xp
    unfold b__law_equal
    simp [Mp.isNon]
    exact h
  | k + 1, .str i, z, hp, s, t, R, Xp, tg, hv, hw, h => by
    rw [val_eq hv (fun _ => by simp), val_eq hw (fun _ => by simp)]
    refine mfH_of ?_
    show b__law_equal (m__law_equal k) hp _ R Xp
    unfold b__law_equal
    simp [Mp.isNon]
    exact ⟨z, h⟩
  | k + 1, .non, z, hp, s, t, R, Xp, tg, hv, hw, h => by
    rw [val_eq hv (fun _ => by simp), val_eq hw (fun _ => by simp)]
    refine mfH_of ?_
    show b__law_equal (m__law_equal k) hp _ R Xp
    unfold b__law_equal
    simp [Mp.isNon]
    exact h
  | k + 1, .tup g, z, hp, s, t, R, Xp, tg, hv, hw, h => by
    obtain ⟨z1, z2⟩ := He.ba (show (decide (g.length ≤ 1000000) && g.all (plD k)) = true from z)
    have hl : g.length ≤ 1000000 := of_decide_eq_true z1
    have hr1 : (-4611686018427387904 : Int) ≤ g.length := by omega
    have hr2 : (g.length : Int) < 4611686018427387904 := by omega
    refine mfH_of ?_
    show b__law_equal (m__law_equal k) hp _ R Xp
    unfold b__law_equal
    simp [hv, hw, hr1, hr2]
    refine forH_rng (fun i hp' env' => hp = hp' ∧ ∃ y, env' = [some s, some t, y]) ⟨rfl, _, rfl⟩ ?_ ?_
    · rintro i _ _ N hi ⟨rfl, y, rfl⟩ hN
      have a1 : atI g (i : Int) = some g[i] := by rw [atI_nat (by omega) (by omega)]; simp
      simp [hv, hw, a1]
      refine eq_pl k g[i] (List.all_eq_true.mp z2 _ (List.getElem_mem _)) rfl rfl ?_
      simp
      exact hN _ _ ⟨rfl, _, rfl⟩
    · rintro _ _ ⟨rfl, y, rfl⟩
      simpa using h
  | k + 1, .lst g, z, hp, s, t, R, Xp, tg, hv, hw, h => by
    obtain ⟨z1, z2⟩ := He.ba (show (decide (g.length ≤ 1000000) && g.all (plD k)) = true from z)
    have hl : g.length ≤ 1000000 := of_decide_eq_true z1
    have hr1 : (-4611686018427387904 : Int) ≤ g.length := by omega
    have hr2 : (g.length : Int) < 4611686018427387904 := by omega
    refine mfH_of ?_
    show b__law_equal (m__law_equal k) hp _ R Xp
    unfold b__law_equal
    simp [hv, hw, hr1, hr2]
    refine forH_rng (fun i hp' env' => hp = hp' ∧ ∃ y, env' = [some s, some t, y]) ⟨rfl, _, rfl⟩ ?_ ?_
    · rintro i _ _ N hi ⟨rfl, y, rfl⟩ hN
      have a1 : atI g (i : Int) = some g[i] := by rw [atI_nat (by omega) (by omega)]; simp
      simp [hv, hw, a1]
      refine eq_pl k g[i] (List.all_eq_true.mp z2 _ (List.getElem_mem _)) rfl rfl ?_
      simp
      exact hN _ _ ⟨rfl, _, rfl⟩
    · rintro _ _ ⟨rfl, y, rfl⟩
      simpa using h
  | k + 1, .fl g, z, hp, s, t, R, Xp, tg, hv, hw, h => by
    obtain ⟨z1, z2⟩ := He.ba (show (decide (g.length ≤ 1000000) && g.all (plD k)) = true from z)
    have hl : g.length ≤ 1000000 := of_decide_eq_true z1
    have hr1 : (-4611686018427387904 : Int) ≤ g.length := by omega
    have hr2 : (g.length : Int) < 4611686018427387904 := by omega
    refine mfH_of ?_
    show b__law_equal (m__law_equal k) hp _ R Xp
    unfold b__law_equal
    simp [hv, hw, hr1, hr2]
    refine forH_rng (fun i hp' env' => hp = hp' ∧ ∃ y, env' = [some s, some t, y]) ⟨rfl, _, rfl⟩ ?_ ?_
    · rintro i _ _ N hi ⟨rfl, y, rfl⟩ hN
      have a1 : atI g (i : Int) = some g[i] := by rw [atI_nat (by omega) (by omega)]; simp
      simp [hv, hw, a1]
      refine eq_pl k g[i] (List.all_eq_true.mp z2 _ (List.getElem_mem _)) rfl rfl ?_
      simp
      exact hN _ _ ⟨rfl, _, rfl⟩
    · rintro _ _ ⟨rfl, y, rfl⟩
      simpa using h
  | k + 1, .ty n, z, _, _, _, _, _, _, _, _, _ => by cases z
  | k + 1, .obj _ _ _, z, _, _, _, _, _, _, _, _, _ => by cases z
section
variable {hp : List O} {n : Nat} {o : O} {R : S → List O → Prop} {Xp : MX}
example : shD (.str "told") = true := by decide +kernel
end
end Pl
set_option Elab.async false
set_option linter.all false
set_option maxRecDepth 100000
set_option maxHeartbeats 4000000
namespace Pl
open PySem PySem.Spec PyProof.Rows L2 Mp
end Pl
set_option Elab.async false
set_option linter.all false
set_option maxRecDepth 100000
set_option maxHeartbeats 4000000
namespace Pl
open PySem PySem.Spec PyProof.Rows L2 Mp
def m__law_clamp : MF := mDef 3 false
    ((mRet (mN (fMM (fun i j => if j > i then j else i)) (mCons (mVar 1) (mCons (mN (fMM (fun i j => if j < i then j else i)) (mCons (mVar 2) (mCons (mVar 0) mNil))) mNil)))))
def m__law_loose_pairs : MF := mDef 9 true
    ((mSeq (mAsg (m2 fMul (m2 fMul (m2 (fI CPow fun i j => .int (i ^ j.toNat)) (mC (.int 2)) (mC (.int 64))) (m2 (fI CPow fun i j => .int (i ^ j.toNat)) (mC (.int 2)) (mC (.int 64)))) (mC (.int 4))) (mgName 2))
    (mSeq (mAsg (mCall 2 m__law_pick [] (mCons (mVar 0) (mCons (mLst (mCons (mC (.int 0)) (mCons (mC (.int 0)) (mCons (m1 (fU fun i => .int (-i)) (mC (.int 4))) (mCons (m2 (fI CPow fun i j => .int (i ^ j.toNat)) (mC (.int 2)) (mC (.int 31))) (mCons (m1 (fU fun i => .int (-i)) (m2 (fI CPow fun i j => .int (i ^ j.toNat)) (mC (.int 2)) (mC (.int 63)))) (mCons (m2 (fI0 fun i j => .int (i - j)) (mVar 2) (mC (.int 20))) (mCons (m1 (fU fun i => .int (-i)) (mVar 2)) mNil)))))))) mNil))) (mgName 3))
    (mSeq (mAsg (mLstM mNil) (mgName 4))
    (mSeq (mFor (miRng f1R (mCons (mCall 2 m__law_take [] (mCons (mVar 0) (mCons (m2 fAdd (mVar 1) (mC (.int 1))) mNil))) mNil)) (mgName 5) (mSeq (mAsg (m2 fAdd (mVar 3) (mCall 2 m__law_take [] (mCons (mVar 0) (mCons (mC (.int 24)) mNil)))) (mgName 6))
    (mSeq (mAsg (mCall 2 m__law_take [] (mCons (mVar 0) (mCons (mC (.int 8)) mNil))) (mgName 7))
    (mSeq (mAsg (m2 (fI0 fun i j => .int (i - j)) (m2 fAdd (mVar 6) (mVar 7)) (mC (.int 2))) (mgName 8))
    (mSeq (mIfS (mTest (m2 fEq (mVar 7) (mC (.int 7)))) (mAsg (m2 fAdd (mVar 6) (mCall 2 m__law_take [] (mCons (mVar 0) (mCons (m2 (fI CPow fun i j => .int (i ^ j.toNat)) (mC (.int 2)) (mC (.int 64))) mNil)))) (mgName 8)) mNext)
    (mSeq (mIfS (mAnd (mTest (m2 fEq (mVar 7) (mC (.int 6)))) (mTest (m2 (fI0 fun i j => .bl (decide (j < i))) (mN fLen (mCons (mVar 4) mNil)) (mC (.int 0))))) (mSeq (mAsg (m2 fAdd (m2 fIx (m2 fIx (mVar 4) (m1 (fU fun i => .int (-i)) (mC (.int 1)))) (mC (.int 1))) (mC (.int 1))) (mgName 6))
    (mAsg (m2 fAdd (mVar 6) (mCall 2 m__law_take [] (mCons (mVar 0) (mCons (mC (.int 3)) mNil)))) (mgName 8))) mNext)
    (mSeq (mIfS (mAnd (mTest (m2 fEq (mVar 7) (mC (.int 5)))) (mTest (m2 (fI0 fun i j => .bl (decide (j < i))) (mN fLen (mCons (mVar 4) mNil)) (mC (.int 0))))) (mSeq (mAsg (m2 fIx (m2 fIx (mVar 4) (mC (.int 0))) (mC (.int 0))) (mgName 6))
    (mAsg (m2 fIx (m2 fIx (mVar 4) (mC (.int 0))) (mC (.int 1))) (mgName 8))) mNext)
    (mDrop (mMeth false fAppend (mVar 4) (mCons (mTup (mCons (mCall 3 m__law_clamp [] (mCons (mVar 6) (mCons (m1 (fU fun i => .int (-i)) (mVar 2)) (mCons (mVar 2) mNil)))) (mCons (mCall 3 m__law_clamp [] (mCons (mVar 8) (mCons (m1 (fU fun i => .int (-i)) (mVar 2)) (mCons (mVar 2) mNil)))) mNil))) mNil))))))))))
    (mRet (mVar 4)))))))
def m__law_spread : MF := mDef 8 true
    ((mSeq (mAsg (mCall 2 m__law_pick [] (mCons (mVar 0) (mCons (mLst (mCons (m1 (fU fun i => .int (-i)) (mC (.int 3))) (mCons (mC (.int 0)) (mCons (mC (.int 1)) (mCons (m1 (fU fun i => .int (-i)) (mC (.int 700))) (mCons (m2 (fI CPow fun i j => .int (i ^ j.toNat)) (mC (.int 2)) (mC (.int 64))) mNil)))))) mNil))) (mgName 2))
    (mSeq (mAsg (m2 fAdd (mC (.int 2)) (mCall 2 m__law_take [] (mCons (mVar 0) (mCons (mC (.int 3)) mNil)))) (mgName 3))
    (mSeq (mAsg (mCall 2 m__law_take [] (mCons (mVar 0) (mCons (m2 fAdd (mVar 3) (mC (.int 1))) mNil))) (mgName 4))
    (mSeq (mAsg (mLcM (miRng f1R (mCons (mVar 1) mNil)) (mgName 6) mYes (mTup (mCons (m2 fAdd (mVar 2) (m2 fMul (mVar 6) (mVar 3))) (mCons (m2 (fI0 fun i j => .int (i - j)) (m2 fAdd (m2 fAdd (mVar 2) (m2 fMul (mVar 6) (mVar 3))) (mVar 4)) (mC (.int 1))) mNil))) [6]) (mgName 5))
    (mSeq (mAsg (mCall 2 m__law_take [] (mCons (mVar 0) (mCons (mVar 1) mNil))) (mgName 7))
    (mSeq (mAsg (mTup (mCons (m2 fAdd (mVar 2) (mCall 2 m__law_take [] (mCons (mVar 0) (mCons (m2 fMul (mVar 3) (mVar 1)) mNil)))) (mCons (m2 fAdd (mVar 2) (mCall 2 m__law_take [] (mCons (mVar 0) (mCons (m2 fMul (mVar 3) (mVar 1)) mNil)))) mNil))) (mgSub (mVar 5) (mVar 7)))
    (mRet (mAddM (mSl (mVar 5) (moSome (mVar 7)) moNone) (mRev (mSl (mVar 5) moNone (moSome (mVar 7)))))))))))))
def m__law_members : MF := mDef 3 false
    ((mSeq (mAsg (mC (.int 0)) (mgName 1))
    (mSeq (mFor (miSq (mVar 0)) (mgName 2) (mAsg (m2 fAdd (m2 (fI0 fun i j => .int (i - j)) (m2 fAdd (mVar 1) (m2 fIx (mVar 2) (mC (.int 1)))) (m2 fIx (mVar 2) (mC (.int 0)))) (mC (.int 1))) (mgName 1)))
    (mRet (mVar 1)))))
def m_Ranges_pairs : MF := mDef 1 false
    ((mRet (mFldO "Ranges" "spans" (mVar 0))))
def m_Ranges_many : MF := mDef 3 false
    ((mRet (mN fSum (mCons (mLc (miSq (mFldO "Ranges" "spans" (mVar 0))) (mgTup 2 (mgsCons (mgName 1) (mgsCons (mgName 2) mgsNil))) mYes (m2 fAdd (m2 (fI0 fun i j => .int (i - j)) (mVar 2) (mVar 1)) (mC (.int 1))) [1, 2]) mNil))))
def m__law_within : MF := mDef 3 false
    ((mSeq (mFor (miSq (mVar 0)) (mgName 2) (mIfS (mAnd (mTest (m2 (fI0 fun i j => .bl (decide (i ≤ j))) (m2 fIx (mVar 2) (mC (.int 0))) (mVar 1))) (mTest (m2 (fI0 fun i j => .bl (decide (i ≤ j))) (mVar 1) (m2 fIx (mVar 2) (mC (.int 1)))))) (mRet (mC (.bl true))) mNext))
    (mRet (mC (.bl false)))))
def m_Ranges___contains__ : MF := mDef 4 false
    ((mRet (mN (fQ fun l => l.any id) (mCons (mLc (miSq (mFldO "Ranges" "spans" (mVar 0))) (mgTup 2 (mgsCons (mgName 2) (mgsCons (mgName 3) mgsNil))) mYes (mChain (fI0 fun i j => .bl (decide (i ≤ j))) (fI0 fun i j => .bl (decide (i ≤ j))) (mVar 2) (mVar 1) (mVar 3)) [2, 3]) mNil))))
def m_merged : MF := mDef 5 false
    ((mSeq (mAsg (mLstM mNil) (mgName 1))
    (mSeq (mFor (miSq (mN fSort (mCons (mLc (miSq (mVar 0)) (mgName 4) (mTest (m2 (fI0 fun i j => .bl (decide (i ≤ j))) (m2 fIx (mVar 4) (mC (.int 0))) (m2 fIx (mVar 4) (mC (.int 1))))) (mVar 4) [4]) mNil))) (mgTup 2 (mgsCons (mgName 2) (mgsCons (mgName 3) mgsNil))) (mIfS (mAnd (mTru (mVar 1)) (mTest (m2 (fI0 fun i j => .bl (decide (i ≤ j))) (mVar 2) (m2 fAdd (m2 fIx (m2 fIx (mVar 1) (m1 (fU fun i => .int (-i)) (mC (.int 1)))) (mC (.int 1))) (mC (.int 1)))))) (mAsg (mTup (mCons (m2 fIx (m2 fIx (mVar 1) (m1 (fU fun i => .int (-i)) (mC (.int 1)))) (mC (.int 0))) (mCons (mN (fMM (fun i j => if j > i then j else i)) (mCons (m2 fIx (m2 fIx (mVar 1) (m1 (fU fun i => .int (-i)) (mC (.int 1)))) (mC (.int 1))) (mCons (mVar 3) mNil))) mNil))) (mgSub (mVar 1) (m1 (fU fun i => .int (-i)) (mC (.int 1))))) (mDrop (mMeth false fAppend (mVar 1) (mCons (mTup (mCons (mVar 2) (mCons (mVar 3) mNil))) mNil)))))
    (mRet (mN fTuple (mCons (mVar 1) mNil))))))
def m_Ranges___init__ : MF := mDef 2 false
    ((mSetF "Ranges" "spans" (mVar 0) (mCall 1 m_merged [] (mCons (mVar 1) mNil))))
end Pl
set_option Elab.async false
set_option linter.all false
set_option maxRecDepth 100000
set_option maxHeartbeats 4000000
namespace Pl
open PySem PySem.Spec PyProof.Rows L2 Mp
def m__law_shuffled : MF := mDef 5 true
    ((mSeq (mAsg (mListM (mCons (mVar 1) mNil)) (mgName 2))
    (mSeq (mAsg (mLstM mNil) (mgName 3))
    (mSeq (mFor (miRng f1R (mCons (mN fLen (mCons (mVar 1) mNil)) mNil)) (mgName 4) (mDrop (mMeth false fAppend (mVar 3) (mCons (mMeth false fPopAt (mVar 2) (mCons (mCall 2 m__law_take [] (mCons (mVar 0) (mCons (mN fLen (mCons (mVar 2) mNil)) mNil))) mNil)) mNil))))
    (mRet (mVar 3))))))
def m__law_some : MF := mDef 5 true
    ((mSeq (mAsg (mCall 2 m__law_take [] (mCons (mVar 0) (mCons (mC (.int 6)) mNil))) (mgName 2))
    (mSeq (mIfS (mTest (m2 fEq (mVar 2) (mC (.int 0)))) (mRet (mListM (mCons (mVar 1) mNil))) mNext)
    (mSeq (mIfS (mTest (m2 fEq (mVar 2) (mC (.int 1)))) (mRet (mLstM mNil)) mNext)
    (mSeq (mAsg (mLstM mNil) (mgName 3))
    (mSeq (mFor (miSq (mVar 1)) (mgName 4) (mIfS (mTest (m2 fEq (mCall 2 m__law_take [] (mCons (mVar 0) (mCons (mC (.int 2)) mNil))) (mC (.int 0)))) (mDrop (mMeth false fAppend (mVar 3) (mCons (mVar 4) mNil))) mNext))
    (mRet (mVar 3))))))))
def m_shared : MF := mDef 7 true
    ((mSeq (mAsg (mLstM mNil) (mgName 2))
    (mSeq (mAsg (mC (.int 0)) (mgName 3))
    (mSeq (mAsg (mC (.int 0)) (mgName 4))
    (mSeq (mWhile (mAnd (mTest (m2 (fI0 fun i j => .bl (decide (i < j))) (mVar 3) (mN fLen (mCons (mVar 0) mNil)))) (mTest (m2 (fI0 fun i j => .bl (decide (i < j))) (mVar 4) (mN fLen (mCons (mVar 1) mNil))))) (mSeq (mAsg (mN (fMM (fun i j => if j > i then j else i)) (mCons (m2 fIx (m2 fIx (mVar 0) (mVar 3)) (mC (.int 0))) (mCons (m2 fIx (m2 fIx (mVar 1) (mVar 4)) (mC (.int 0))) mNil))) (mgName 5))
    (mSeq (mAsg (mN (fMM (fun i j => if j < i then j else i)) (mCons (m2 fIx (m2 fIx (mVar 0) (mVar 3)) (mC (.int 1))) (mCons (m2 fIx (m2 fIx (mVar 1) (mVar 4)) (mC (.int 1))) mNil))) (mgName 6))
    (mSeq (mIfS (mTest (m2 (fI0 fun i j => .bl (decide (i ≤ j))) (mVar 5) (mVar 6))) (mDrop (mMeth false fAppend (mVar 2) (mCons (mTup (mCons (mVar 5) (mCons (mVar 6) mNil))) mNil))) mNext)
    (mIfS (mTest (m2 (fI0 fun i j => .bl (decide (i < j))) (m2 fIx (m2 fIx (mVar 0) (mVar 3)) (mC (.int 1))) (m2 fIx (m2 fIx (mVar 1) (mVar 4)) (mC (.int 1))))) (mAug 3 (fun i j => i + j) (mC (.int 1))) (mAug 4 (fun i j => i + j) (mC (.int 1))))))))
    (mRet (mVar 2)))))))
def m_Ranges___and__ : MF := mDef 2 false
    ((mRet (mMakeO "Ranges" 2 m_Ranges___init__ [] (mCons (mCall 2 m_shared [] (mCons (mFldO "Ranges" "spans" (mVar 0)) (mCons (mFldO "Ranges" "spans" (mVar 1)) mNil))) mNil))))
def m_Ranges___or__ : MF := mDef 2 false
    ((mRet (mMakeO "Ranges" 2 m_Ranges___init__ [] (mCons (m2 fAdd (mFldO "Ranges" "spans" (mVar 0)) (mFldO "Ranges" "spans" (mVar 1))) mNil))))
def m_remaining : MF := mDef 8 true
    ((mSeq (mAsg (mLstM mNil) (mgName 2))
    (mSeq (mAsg (mC (.int 0)) (mgName 3))
    (mSeq (mFor (miSq (mVar 0)) (mgTup 2 (mgsCons (mgName 4) (mgsCons (mgName 5) mgsNil))) (mSeq (mWhile (mAnd (mTest (m2 (fI0 fun i j => .bl (decide (i < j))) (mVar 3) (mN fLen (mCons (mVar 1) mNil)))) (mTest (m2 (fI0 fun i j => .bl (decide (i < j))) (m2 fIx (m2 fIx (mVar 1) (mVar 3)) (mC (.int 1))) (mVar 4)))) (mAug 3 (fun i j => i + j) (mC (.int 1))))
    (mSeq (mAsg (mVar 4) (mgName 6))
    (mSeq (mAsg (mVar 3) (mgName 7))
    (mSeq (mWhile (mAnd (mTest (m2 (fI0 fun i j => .bl (decide (i < j))) (mVar 7) (mN fLen (mCons (mVar 1) mNil)))) (mTest (m2 (fI0 fun i j => .bl (decide (i ≤ j))) (m2 fIx (m2 fIx (mVar 1) (mVar 7)) (mC (.int 0))) (mVar 5)))) (mSeq (mIfS (mTest (m2 (fI0 fun i j => .bl (decide (i < j))) (mVar 6) (m2 fIx (m2 fIx (mVar 1) (mVar 7)) (mC (.int 0))))) (mDrop (mMeth false fAppend (mVar 2) (mCons (mTup (mCons (mVar 6) (mCons (m2 (fI0 fun i j => .int (i - j)) (m2 fIx (m2 fIx (mVar 1) (mVar 7)) (mC (.int 0))) (mC (.int 1))) mNil))) mNil))) mNext)
    (mSeq (mAsg (m2 fAdd (m2 fIx (m2 fIx (mVar 1) (mVar 7)) (mC (.int 1))) (mC (.int 1))) (mgName 6))
    (mAug 7 (fun i j => i + j) (mC (.int 1))))))
    (mIfS (mTest (m2 (fI0 fun i j => .bl (decide (i ≤ j))) (mVar 6) (mVar 5))) (mDrop (mMeth false fAppend (mVar 2) (mCons (mTup (mCons (mVar 6) (mCons (mVar 5) mNil))) mNil))) mNext))))))
    (mRet (mVar 2))))))
def m_Ranges___sub__ : MF := mDef 2 false
    ((mRet (mMakeO "Ranges" 2 m_Ranges___init__ [] (mCons (mCall 2 m_remaining [] (mCons (mFldO "Ranges" "spans" (mVar 0)) (mCons (mFldO "Ranges" "spans" (mVar 1)) mNil))) mNil))))
def m_Ranges___eq__ : MF := mDef 2 false
    ((mRet (mAndV (mIsiO "Ranges" (mVar 1)) (m2 fEq (mFldO "Ranges" "spans" (mVar 0)) (mFldO "Ranges" "spans" (mVar 1))))))
end Pl
set_option Elab.async false
set_option linter.all false
set_option maxRecDepth 100000
set_option maxHeartbeats 4000000
namespace Qk14
open PySem PySem.Spec PyProof.Rows L2 Mp Pl
def top (i : Nat) : Stmt := PySem.Challenge.pw_tagoctets_k14_ranges_operators.main.body.getD i (.Pass ⟨0, 0, 0, 0⟩)
abbrev n__law_mix : List Str := ["_law_first", "_law_second", "_law_once", "_law_twice"]
abbrev s__law_mix : Stmt := top 10
abbrev n__law_store : List Str := ["_law_script", "_law_seed", "_law_cell"]
abbrev s__law_store : Stmt := top 11
abbrev n__law_take : List Str := ["_law_store_here", "_law_many", "_law_cell", "_law_rest", "_law_base", "_law_total", "_law_rounds", "_law_k"]
abbrev s__law_take : Stmt := top 12
abbrev n__law_pick : List Str := ["_law_store_here", "_law_row"]
abbrev s__law_pick : Stmt := top 13
abbrev n__law_equal : List Str := ["_law_first", "_law_second", "_law_k"]
abbrev s__law_equal : Stmt := top 16
abbrev n__law_clamp : List Str := ["_law_number", "_law_low", "_law_high"]
abbrev s__law_clamp : Stmt := top 17
abbrev n__law_loose_pairs : List Str := ["_law_store_here", "_law_many", "_law_end", "_law_base", "_law_pairs", "_law_k", "_law_low", "_law_side", "_law_high"]
abbrev s__law_loose_pairs : Stmt := top 18
abbrev n__law_spread : List Str := ["_law_store_here", "_law_many", "_law_base", "_law_step", "_law_width", "_law_rows", "_law_k", "_law_by"]
abbrev s__law_spread : Stmt := top 21
abbrev n__law_some_pairs : List Str := ["_law_store_here"]
abbrev s__law_some_pairs : Stmt := top 22
abbrev n__law_shuffled : List Str := ["_law_store_here", "_law_row", "_law_left", "_law_out", "_law_k"]
abbrev s__law_shuffled : Stmt := top 14
abbrev n__law_some : List Str := ["_law_store_here", "_law_row", "_law_side", "_law_out", "_law_thing"]
abbrev s__law_some : Stmt := top 15
abbrev n__law_beside : List Str := ["_law_store_here", "_law_pairs", "_law_end", "_law_out", "_law_pair", "_law_low", "_law_high"]
abbrev s__law_beside : Stmt := top 23
abbrev n__law_mark : List Str := ["_law_steps", "_law_pairs", "_law_side", "_law_pair", "_law_number", "_law_change", "_law_row"]
abbrev s__law_mark : Stmt := top 24
abbrev n__law_stretches : List Str := ["_law_one", "_law_two", "_law_steps", "_law_ends", "_law_inside", "_law_rows", "_law_k"]
abbrev s__law_stretches : Stmt := top 25
abbrev n__law_chosen : List Str := ["_law_rows", "_law_deed", "_law_out", "_law_low", "_law_high", "_law_one", "_law_two", "_law_wanted"]
abbrev s__law_chosen : Stmt := top 26
abbrev n__law_within : List Str := ["_law_pairs", "_law_number", "_law_pair"]
abbrev s__law_within : Stmt := top 19
abbrev n__law_members : List Str := ["_law_pairs", "_law_total", "_law_pair"]
abbrev s__law_members : Stmt := top 20
abbrev n_Ranges_pairs : List Str := ["self"]
abbrev s_Ranges_pairs : Stmt := inClass (top 8) 1
abbrev n_Ranges_many : List Str := ["self", "low", "high"]
abbrev s_Ranges_many : Stmt := inClass (top 8) 2
abbrev n_Ranges___contains__ : List Str := ["self", "n", "low", "high"]
abbrev s_Ranges___contains__ : Stmt := inClass (top 8) 11
abbrev n_Ranges___iter__ : List Str := ["self"]
abbrev s_Ranges___iter__ : Stmt := inClass (top 8) 12
abbrev n__law_is_right : List Str := ["_law_told", "_law_due", "_law_probes", "_law_pair", "_law_number"]
abbrev s__law_is_right : Stmt := top 27
abbrev n_shared : List Str := ["first", "second", "spans", "left", "right", "low", "high"]
abbrev s_shared : Stmt := top 6
abbrev n_merged : List Str := ["pairs", "spans", "low", "high", "pair"]
abbrev s_merged : Stmt := top 5
abbrev n_Ranges___init__ : List Str := ["self", "pairs"]
abbrev s_Ranges___init__ : Stmt := inClass (top 8) 0
abbrev n_Ranges___and__ : List Str := ["self", "other"]
abbrev s_Ranges___and__ : Stmt := inClass (top 8) 8
abbrev n_Ranges___or__ : List Str := ["self", "other"]
abbrev s_Ranges___or__ : Stmt := inClass (top 8) 9
abbrev n_remaining : List Str := ["first", "second", "spans", "start", "low", "high", "begin", "place"]
abbrev s_remaining : Stmt := top 7
abbrev n_Ranges___sub__ : List Str := ["self", "other"]
abbrev s_Ranges___sub__ : Stmt := inClass (top 8) 10
abbrev n__law_all_right : List Str := ["_law_first", "_law_second", "_law_rows", "_law_probes", "_law_dues", "_law_tolds", "_law_k"]
abbrev s__law_all_right : Stmt := top 28
abbrev n_Ranges___eq__ : List Str := ["self", "other"]
abbrev s_Ranges___eq__ : Stmt := inClass (top 8) 14
abbrev n__law_equals_right : List Str := ["_law_first", "_law_second", "_law_rows", "_law_due", "_law_other", "_law_both", "_law_left", "_law_top"]
abbrev s__law_equals_right : Stmt := top 29
abbrev n_law : List Str := ["_law_script", "_law_store_here", "_law_end", "_law_one", "_law_two", "_law_rows", "_law_probes", "_law_k", "_law_number", "_law_handed", "_law_first", "_law_second", "_law_turned", "_law_low", "_law_high", "_law_one_in", "_law_two_in"]
abbrev s_law : Stmt := top 30
theorem sc__law_mix : FnScope n__law_mix ["_law_first", "_law_second"] (defScope s__law_mix) := ⟨rfl, rfl, rfl, by decide +kernel, rfl, by decide +kernel, by decide +kernel⟩
theorem sc__law_store : FnScope n__law_store ["_law_script"] (defScope s__law_store) := ⟨rfl, rfl, rfl, by decide +kernel, rfl, by decide +kernel, by decide +kernel⟩
theorem sc__law_take : FnScope n__law_take ["_law_store_here", "_law_many"] (defScope s__law_take) := ⟨rfl, rfl, rfl, by decide +kernel, rfl, by decide +kernel, by decide +kernel⟩
theorem sc__law_pick : FnScope n__law_pick ["_law_store_here", "_law_row"] (defScope s__law_pick) := ⟨rfl, rfl, rfl, by decide +kernel, rfl, by decide +kernel, by decide +kernel⟩
theorem sc__law_equal : FnScope n__law_equal ["_law_first", "_law_second"] (defScope s__law_equal) := ⟨rfl, rfl, rfl, by decide +kernel, rfl, by decide +kernel, by decide +kernel⟩
theorem sc__law_clamp : FnScope n__law_clamp ["_law_number", "_law_low", "_law_high"] (defScope s__law_clamp) := ⟨rfl, rfl, rfl, by decide +kernel, rfl, by decide +kernel, by decide +kernel⟩
theorem sc__law_loose_pairs : FnScope n__law_loose_pairs ["_law_store_here", "_law_many"] (defScope s__law_loose_pairs) := ⟨rfl, rfl, rfl, by decide +kernel, rfl, by decide +kernel, by decide +kernel⟩
theorem sc__law_spread : FnScope n__law_spread ["_law_store_here", "_law_many"] (defScope s__law_spread) := ⟨rfl, rfl, rfl, by decide +kernel, rfl, by decide +kernel, by decide +kernel⟩
theorem sc__law_some_pairs : FnScope n__law_some_pairs ["_law_store_here"] (defScope s__law_some_pairs) := ⟨rfl, rfl, rfl, by decide +kernel, rfl, by decide +kernel, by decide +kernel⟩
theorem sc__law_shuffled : FnScope n__law_shuffled ["_law_store_here", "_law_row"] (defScope s__law_shuffled) := ⟨rfl, rfl, rfl, by decide +kernel, rfl, by decide +kernel, by decide +kernel⟩
theorem sc__law_some : FnScope n__law_some ["_law_store_here", "_law_row"] (defScope s__law_some) := ⟨rfl, rfl, rfl, by decide +kernel, rfl, by decide +kernel, by decide +kernel⟩
theorem sc__law_beside : FnScope n__law_beside ["_law_store_here", "_law_pairs"] (defScope s__law_beside) := ⟨rfl, rfl, rfl, by decide +kernel, rfl, by decide +kernel, by decide +kernel⟩
theorem sc__law_mark : FnScope n__law_mark ["_law_steps", "_law_pairs", "_law_side"] (defScope s__law_mark) := ⟨rfl, rfl, rfl, by decide +kernel, rfl, by decide +kernel, by decide +kernel⟩
theorem sc__law_stretches : FnScope n__law_stretches ["_law_one", "_law_two"] (defScope s__law_stretches) := ⟨rfl, rfl, rfl, by decide +kernel, rfl, by decide +kernel, by decide +kernel⟩
theorem sc__law_chosen : FnScope n__law_chosen ["_law_rows", "_law_deed"] (defScope s__law_chosen) := ⟨rfl, rfl, rfl, by decide +kernel, rfl, by decide +kernel, by decide +kernel⟩
theorem sc__law_within : FnScope n__law_within ["_law_pairs", "_law_number"] (defScope s__law_within) := ⟨rfl, rfl, rfl, by decide +kernel, rfl, by decide +kernel, by decide +kernel⟩
theorem sc__law_members : FnScope n__law_members ["_law_pairs"] (defScope s__law_members) := ⟨rfl, rfl, rfl, by decide +kernel, rfl, by decide +kernel, by decide +kernel⟩
theorem sc_Ranges_pairs : FnScope n_Ranges_pairs ["self"] (defScope s_Ranges_pairs) := ⟨rfl, rfl, rfl, by decide +kernel, rfl, by decide +kernel, by decide +kernel⟩
theorem sc_Ranges_many : FnScope n_Ranges_many ["self"] (defScope s_Ranges_many) := ⟨rfl, rfl, rfl, by decide +kernel, rfl, by decide +kernel, by decide +kernel⟩
theorem sc_Ranges___contains__ : FnScope n_Ranges___contains__ ["self", "n"] (defScope s_Ranges___contains__) := ⟨rfl, rfl, rfl, by decide +kernel, rfl, by decide +kernel, by decide +kernel⟩
theorem sc_Ranges___iter__ : FnScope n_Ranges___iter__ ["self"] (defScope s_Ranges___iter__) := ⟨rfl, rfl, rfl, by decide +kernel, rfl, by decide +kernel, by decide +kernel⟩
theorem sc__law_is_right : FnScope n__law_is_right ["_law_told", "_law_due", "_law_probes"] (defScope s__law_is_right) := ⟨rfl, rfl, rfl, by decide +kernel, rfl, by decide +kernel, by decide +kernel⟩
theorem sc_shared : FnScope n_shared ["first", "second"] (defScope s_shared) := ⟨rfl, rfl, rfl, by decide +kernel, rfl, by decide +kernel, by decide +kernel⟩
theorem sc_merged : FnScope n_merged ["pairs"] (defScope s_merged) := ⟨rfl, rfl, rfl, by decide +kernel, rfl, by decide +kernel, by decide +kernel⟩
theorem sc_Ranges___init__ : FnScope n_Ranges___init__ ["self", "pairs"] (defScope s_Ranges___init__) := ⟨rfl, rfl, rfl, by decide +kernel, rfl, by decide +kernel, by decide +kernel⟩
theorem sc_Ranges___and__ : FnScope n_Ranges___and__ ["self", "other"] (defScope s_Ranges___and__) := ⟨rfl, rfl, rfl, by decide +kernel, rfl, by decide +kernel, by decide +kernel⟩
theorem sc_Ranges___or__ : FnScope n_Ranges___or__ ["self", "other"] (defScope s_Ranges___or__) := ⟨rfl, rfl, rfl, by decide +kernel, rfl, by decide +kernel, by decide +kernel⟩
theorem sc_remaining : FnScope n_remaining ["first", "second"] (defScope s_remaining) := ⟨rfl, rfl, rfl, by decide +kernel, rfl, by decide +kernel, by decide +kernel⟩
theorem sc_Ranges___sub__ : FnScope n_Ranges___sub__ ["self", "other"] (defScope s_Ranges___sub__) := ⟨rfl, rfl, rfl, by decide +kernel, rfl, by decide +kernel, by decide +kernel⟩
theorem sc__law_all_right : FnScope n__law_all_right ["_law_first", "_law_second", "_law_rows", "_law_probes"] (defScope s__law_all_right) := ⟨rfl, rfl, rfl, by decide +kernel, rfl, by decide +kernel, by decide +kernel⟩
theorem sc_Ranges___eq__ : FnScope n_Ranges___eq__ ["self", "other"] (defScope s_Ranges___eq__) := ⟨rfl, rfl, rfl, by decide +kernel, rfl, by decide +kernel, by decide +kernel⟩
theorem sc__law_equals_right : FnScope n__law_equals_right ["_law_first", "_law_second", "_law_rows"] (defScope s__law_equals_right) := ⟨rfl, rfl, rfl, by decide +kernel, rfl, by decide +kernel, by decide +kernel⟩
theorem sc_law : FnScope n_law ["_law_script"] (defScope s_law) := ⟨rfl, rfl, rfl, by decide +kernel, rfl, by decide +kernel, by decide +kernel⟩
abbrev P : Program := (PySem.Challenge.rw_tagoctets_k14_ranges_operators).prog
abbrev FnP (K : PySem.W.Frag) (x : Str) (st : Stmt) (f : Addr) (fd : FuncData) (dvs : List V := []) (kws : List (Str × V) := []) : Prop := FunD K x x (defArgs st) (defBody st) (defScope st) dvs kws f fd
def xs : List XcD := []
def bs : List (PySem.W.Frag → Bool) := [ownB "Ranges", emB (He.dflAt ("Ranges", some "__init__") 0)]
def tabs : List TbD := []
def m__law_some_pairs : MF := mDef 1 true
    ((mSeq (mIfS (mTest (m2 fEq (mCall 2 m__law_take [] (mCons (mVar 0) (mCons (mC (.int 10)) mNil))) (mC (.int 9)))) (mRet (mCallM 2 m__law_spread [] (mCons (mVar 0) (mCons (mCall 2 m__law_pick [] (mCons (mVar 0) (mCons (mLst (mCons (mC (.int 20)) (mCons (mC (.int 50)) (mCons (mC (.int 100)) (mCons (mC (.int 399)) (mCons (mC (.int 400)) mNil)))))) mNil))) mNil)))) mNext)
    (mRet (mCallM 2 m__law_loose_pairs [] (mCons (mVar 0) (mCons (mCall 2 m__law_pick [] (mCons (mVar 0) (mCons (mLst (mCons (mC (.int 1)) (mCons (mC (.int 2)) (mCons (mC (.int 3)) (mCons (mC (.int 6)) (mCons (mC (.int 6)) (mCons (mC (.int 12)) (mCons (mC (.int 30)) mNil)))))))) mNil))) mNil))))))
def m__law_beside : MF := mDef 7 true
    ((mSeq (mAsg (m2 fMul (m2 fMul (m2 (fI CPow fun i j => .int (i ^ j.toNat)) (mC (.int 2)) (mC (.int 64))) (m2 (fI CPow fun i j => .int (i ^ j.toNat)) (mC (.int 2)) (mC (.int 64)))) (mC (.int 4))) (mgName 2))
    (mSeq (mAsg (mLstM mNil) (mgName 3))
    (mSeq (mFor (miSq (mCall 2 m__law_some [] (mCons (mVar 0) (mCons (mVar 1) mNil)))) (mgName 4) (mSeq (mAsg (m2 (fI0 fun i j => .int (i - j)) (m2 fAdd (m2 fIx (mVar 4) (mC (.int 0))) (mCall 2 m__law_take [] (mCons (mVar 0) (mCons (mC (.int 3)) mNil)))) (mC (.int 1))) (mgName 5))
    (mSeq (mAsg (m2 (fI0 fun i j => .int (i - j)) (m2 fAdd (m2 fIx (mVar 4) (mC (.int 1))) (mCall 2 m__law_take [] (mCons (mVar 0) (mCons (mC (.int 3)) mNil)))) (mC (.int 1))) (mgName 6))
    (mDrop (mMeth false fAppend (mVar 3) (mCons (mTup (mCons (mCall 3 m__law_clamp [] (mCons (mVar 5) (mCons (m1 (fU fun i => .int (-i)) (mVar 2)) (mCons (mVar 2) mNil)))) (mCons (mCall 3 m__law_clamp [] (mCons (mVar 6) (mCons (m1 (fU fun i => .int (-i)) (mVar 2)) (mCons (mVar 2) mNil)))) mNil))) mNil))))))
    (mRet (mCallM 2 m__law_shuffled [] (mCons (mVar 0) (mCons (mVar 3) mNil))))))))
def m__law_mark : MF := mDef 7 false
    ((mFor (miSq (mVar 1)) (mgName 3) (mIfS (mTest (m2 (fI0 fun i j => .bl (decide (i ≤ j))) (m2 fIx (mVar 3) (mC (.int 0))) (m2 fIx (mVar 3) (mC (.int 1))))) (mFor (miSq (mTup (mCons (mTup (mCons (m2 fIx (mVar 3) (mC (.int 0))) (mCons (mC (.int 1)) mNil))) (mCons (mTup (mCons (m2 fAdd (m2 fIx (mVar 3) (mC (.int 1))) (mC (.int 1))) (mCons (m1 (fU fun i => .int (-i)) (mC (.int 1))) mNil))) mNil)))) (mgTup 2 (mgsCons (mgName 4) (mgsCons (mgName 5) mgsNil))) (mSeq (mAsg (mSetdG (mVar 0) (mVar 4) (mLstM (mCons (mC (.int 0)) (mCons (mC (.int 0)) mNil)))) (mgName 6))
    (mAsg (m2 fAdd (m2 fIx (mVar 6) (mVar 2)) (mVar 5)) (mgSubG (mVar 6) (mVar 2))))) mNext)))
def m__law_stretches : MF := mDef 7 true
    ((mSeq (mAsg mDNewG (mgName 2))
    (mSeq (mDrop (mCall 3 m__law_mark [] (mCons (mVar 2) (mCons (mVar 0) (mCons (mC (.int 0)) mNil)))))
    (mSeq (mDrop (mCall 3 m__law_mark [] (mCons (mVar 2) (mCons (mVar 1) (mCons (mC (.int 1)) mNil)))))
    (mSeq (mAsg (mN fSort (mCons (mListKG (mVar 2)) mNil)) (mgName 3))
    (mSeq (mAsg (mLst (mCons (mC (.int 0)) (mCons (mC (.int 0)) mNil))) (mgName 4))
    (mSeq (mAsg (mLstM mNil) (mgName 5))
    (mSeq (mFor (miRng f1R (mCons (m2 (fI0 fun i j => .int (i - j)) (mN fLen (mCons (mVar 3) mNil)) (mC (.int 1))) mNil)) (mgName 6) (mSeq (mAsg (mLst (mCons (m2 fAdd (m2 fIx (mVar 4) (mC (.int 0))) (m2 fIx (mDGetG (mVar 2) (m2 fIx (mVar 3) (mVar 6))) (mC (.int 0)))) (mCons (m2 fAdd (m2 fIx (mVar 4) (mC (.int 1))) (m2 fIx (mDGetG (mVar 2) (m2 fIx (mVar 3) (mVar 6))) (mC (.int 1)))) mNil))) (mgName 4))
    (mDrop (mMeth false fAppend (mVar 5) (mCons (mTup (mCons (m2 fIx (mVar 3) (mVar 6)) (mCons (m2 (fI0 fun i j => .int (i - j)) (m2 fIx (mVar 3) (m2 fAdd (mVar 6) (mC (.int 1)))) (mC (.int 1))) (mCons (m2 (fI0 fun i j => .bl (decide (j < i))) (m2 fIx (mVar 4) (mC (.int 0))) (mC (.int 0))) (mCons (m2 (fI0 fun i j => .bl (decide (j < i))) (m2 fIx (mVar 4) (mC (.int 1))) (mC (.int 0))) mNil))))) mNil)))))
    (mRet (mVar 5))))))))))
def m__law_chosen : MF := mDef 8 false
    ((mSeq (mAsg (mLstM mNil) (mgName 2))
    (mSeq (mFor (miSq (mVar 0)) (mgTup 4 (mgsCons (mgName 3) (mgsCons (mgName 4) (mgsCons (mgName 5) (mgsCons (mgName 6) mgsNil))))) (mSeq (mAsg (mAndV (mVar 5) (mVar 6)) (mgName 7))
    (mSeq (mIfS (mTest (m2 fEq (mVar 1) (mC (.str "any")))) (mAsg (mOrV (mVar 5) (mVar 6)) (mgName 7)) mNext)
    (mSeq (mIfS (mTest (m2 fEq (mVar 1) (mC (.str "less")))) (mAsg (mAndV (mVar 5) (mNotV (mVar 6))) (mgName 7)) mNext)
    (mSeq (mIfS (mTest (m2 fEq (mVar 1) (mC (.str "one")))) (mAsg (mVar 5) (mgName 7)) mNext)
    (mSeq (mIfS (mTest (m2 fEq (mVar 1) (mC (.str "two")))) (mAsg (mVar 6) (mgName 7)) mNext)
    (mIfS (mAnd (mTest (mVar 7)) (mAnd (mTest (m2 (fI0 fun i j => .bl (decide (j < i))) (mN fLen (mCons (mVar 2) mNil)) (mC (.int 0)))) (mTest (m2 fEq (m2 fAdd (m2 fIx (m2 fIx (mVar 2) (m1 (fU fun i => .int (-i)) (mC (.int 1)))) (mC (.int 1))) (mC (.int 1))) (mVar 3))))) (mAsg (mTup (mCons (m2 fIx (m2 fIx (mVar 2) (m1 (fU fun i => .int (-i)) (mC (.int 1)))) (mC (.int 0))) (mCons (mVar 4) mNil))) (mgSub (mVar 2) (m1 (fU fun i => .int (-i)) (mC (.int 1))))) (mIfS (mTest (mVar 7)) (mDrop (mMeth false fAppend (mVar 2) (mCons (mTup (mCons (mVar 3) (mCons (mVar 4) mNil))) mNil))) mNext))))))))
    (mRet (mN fTuple (mCons (mVar 2) mNil))))))
def m__law_is_right : MF := mDef 5 false
    ((mSeq (mIfS (mOr (mNot (mTest (mCall 2 (m__law_equal 4) [] (mCons (mPropO "Ranges" m_Ranges_pairs (mVar 0)) (mCons (mVar 1) mNil))))) (mNot (mTest (mCall 2 (m__law_equal 4) [] (mCons (mLc (miOwn "Ranges" "spans" (mVar 0)) (mgName 3) mYes (mVar 3) [3]) (mCons (mN fList (mCons (mVar 1) mNil)) mNil)))))) (mRet (mC (.bl false))) mNext)
    (mSeq (mIfS (mNot (mTest (mCall 2 (m__law_equal 4) [] (mCons (mPropO "Ranges" m_Ranges_many (mVar 0)) (mCons (mCall 1 m__law_members [] (mCons (mVar 1) mNil)) mNil))))) (mRet (mC (.bl false))) mNext)
    (mSeq (mFor (miSq (mVar 2)) (mgName 4) (mIfS (mTest (m2 fNe (mDunI "Ranges" m_Ranges___contains__ (mVar 4) (mVar 0)) (mCall 2 m__law_within [] (mCons (mVar 1) (mCons (mVar 4) mNil))))) (mRet (mC (.bl false))) mNext))
    (mRet (mC (.bl true)))))))
def m__law_all_right : MF := mDef 7 false
    ((mSeq (mAsg (mLst (mCons (mCall 2 m__law_chosen [] (mCons (mVar 2) (mCons (mC (.str "one")) mNil))) (mCons (mCall 2 m__law_chosen [] (mCons (mVar 2) (mCons (mC (.str "two")) mNil))) (mCons (mCall 2 m__law_chosen [] (mCons (mVar 2) (mCons (mC (.str "both")) mNil))) (mCons (mCall 2 m__law_chosen [] (mCons (mVar 2) (mCons (mC (.str "any")) mNil))) mNil))))) (mgName 4))
    (mSeq (mAsg (mLst (mCons (mVar 0) (mCons (mVar 1) (mCons (mDunB "Ranges" m_Ranges___and__ (mVar 0) (mVar 1)) (mCons (mDunB "Ranges" m_Ranges___or__ (mVar 0) (mVar 1)) mNil))))) (mgName 5))
    (mSeq (mFor (miRng f1R (mCons (mC (.int 4)) mNil)) (mgName 6) (mIfS (mNot (mTest (mCall 3 m__law_is_right [] (mCons (m2 fIx (mVar 5) (mVar 6)) (mCons (m2 fIx (mVar 4) (mVar 6)) (mCons (mVar 3) mNil)))))) (mRet (mC (.bl false))) mNext))
    (mRet (mCall 3 m__law_is_right [] (mCons (mDunB "Ranges" m_Ranges___sub__ (mVar 0) (mVar 1)) (mCons (mCall 2 m__law_chosen [] (mCons (mVar 2) (mCons (mC (.str "less")) mNil))) (mCons (mVar 3) mNil)))))))))
def m__law_equals_right : MF := mDef 8 false
    ((mSeq (mAsg (mCall 2 m__law_chosen [] (mCons (mVar 2) (mCons (mC (.str "one")) mNil))) (mgName 3))
    (mSeq (mAsg (mCall 2 m__law_chosen [] (mCons (mVar 2) (mCons (mC (.str "two")) mNil))) (mgName 4))
    (mSeq (mAsg (mDunB "Ranges" m_Ranges___and__ (mVar 0) (mVar 1)) (mgName 5))
    (mSeq (mAsg (mDunB "Ranges" m_Ranges___sub__ (mVar 0) (mVar 1)) (mgName 6))
    (mSeq (mIfS (mOr (mNot (mTest (mDunE "Ranges" m_Ranges___eq__ (mVar 0) (mMakeO "Ranges" 2 m_Ranges___init__ [] (mCons (mRev (mN fList (mCons (mVar 3) mNil))) mNil))))) (mOr (mNot (mTest (mDunE "Ranges" m_Ranges___eq__ (mVar 0) (mDunB "Ranges" m_Ranges___or__ (mVar 6) (mVar 5))))) (mNot (mTest (mDunE "Ranges" m_Ranges___eq__ (mVar 5) (mDunB "Ranges" m_Ranges___and__ (mVar 1) (mVar 0))))))) (mRet (mC (.bl false))) mNext)
    (mSeq (mIfS (mOr (mTest (m2 fNe (mDunE "Ranges" m_Ranges___eq__ (mVar 0) (mVar 1)) (mCall 2 (m__law_equal 4) [] (mCons (mVar 3) (mCons (mVar 4) mNil))))) (mTest (m2 fNe (mDunE "Ranges" m_Ranges___eq__ (mVar 6) (mVar 0)) (m2 fEq (mN fLen (mCons (mCall 2 m__law_chosen [] (mCons (mVar 2) (mCons (mC (.str "both")) mNil))) mNil)) (mC (.int 0)))))) (mRet (mC (.bl false))) mNext)
    (mSeq (mAsg (m2 (fI0 fun i j => .int (i - j)) (m2 fMul (m2 fMul (m2 (fI CPow fun i j => .int (i ^ j.toNat)) (mC (.int 2)) (mC (.int 64))) (m2 (fI CPow fun i j => .int (i ^ j.toNat)) (mC (.int 2)) (mC (.int 64)))) (mC (.int 4))) (mC (.int 1))) (mgName 7))
    (mSeq (mIfS (mTest (m2 fNe (mDunE "Ranges" m_Ranges___eq__ (mVar 0) (mDunB "Ranges" m_Ranges___or__ (mVar 0) (mMakeO "Ranges" 2 m_Ranges___init__ [] (mCons (mLst (mCons (mTup (mCons (mVar 7) (mCons (mVar 7) mNil))) mNil)) mNil)))) (mCall 2 m__law_within [] (mCons (mVar 3) (mCons (mVar 7) mNil))))) (mRet (mC (.bl false))) mNext)
    (mRet (mAndV (mNotV (mDunE "Ranges" m_Ranges___eq__ (mVar 0) (mC (.int 5)))) (mAndV (mNotV (mDunE "Ranges" m_Ranges___eq__ (mVar 0) (mVar 3))) (mAndV (mNotV (mDunE "Ranges" m_Ranges___eq__ (mVar 0) (mN fList (mCons (mVar 3) mNil)))) (mNotV (mDunE "Ranges" m_Ranges___eq__ (mVar 0) (mC (.str "")))))))))))))))))
def m_law : MF := mDef 17 false
    ((mSeq (mAsg (mCall 1 m__law_store [] (mCons (mVar 0) mNil)) (mgName 1))
    (mSeq (mAsg (m2 fMul (m2 fMul (m2 (fI CPow fun i j => .int (i ^ j.toNat)) (mC (.int 2)) (mC (.int 64))) (m2 (fI CPow fun i j => .int (i ^ j.toNat)) (mC (.int 2)) (mC (.int 64)))) (mC (.int 4))) (mgName 2))
    (mSeq (mAsg (mCall 1 m__law_some_pairs [] (mCons (mVar 1) mNil)) (mgName 3))
    (mSeq (mAsg (mCall 1 m__law_some_pairs [] (mCons (mVar 1) mNil)) (mgName 4))
    (mSeq (mIfS (mTest (m2 fEq (mCall 2 m__law_take [] (mCons (mVar 1) (mCons (mC (.int 2)) mNil))) (mC (.int 0)))) (mAsg (mCall 2 m__law_beside [] (mCons (mVar 1) (mCons (mVar 3) mNil))) (mgName 4)) mNext)
    (mSeq (mAsg (mCall 2 m__law_stretches [] (mCons (mVar 3) (mCons (mVar 4) mNil))) (mgName 5))
    (mSeq (mAsg (mLstM (mCons (mC (.int 0)) (mCons (mVar 2) (mCons (m1 (fU fun i => .int (-i)) (mVar 2)) mNil)))) (mgName 6))
    (mSeq (mFor (miRng f1R (mCons (mC (.int 6)) mNil)) (mgName 7) (mIfS (mTest (m2 (fI0 fun i j => .bl (decide (j < i))) (mN fLen (mCons (mVar 5) mNil)) (mC (.int 0)))) (mSeq (mAsg (mCall 2 m__law_pick [] (mCons (mVar 1) (mCons (mSl (mCall 2 m__law_pick [] (mCons (mVar 1) (mCons (mVar 5) mNil))) moNone (moSome (mC (.int 2)))) mNil))) (mgName 8))
    (mDrop (mMeth false fAppend (mVar 6) (mCons (mCall 3 m__law_clamp [] (mCons (m2 (fI0 fun i j => .int (i - j)) (m2 fAdd (mVar 8) (mCall 2 m__law_take [] (mCons (mVar 1) (mCons (mC (.int 3)) mNil)))) (mC (.int 1))) (mCons (m1 (fU fun i => .int (-i)) (mVar 2)) (mCons (mVar 2) mNil)))) mNil)))) mNext))
    (mSeq (mAsg (mListM (mCons (mVar 3) mNil)) (mgName 9))
    (mSeq (mAsg (mMakeO "Ranges" 2 m_Ranges___init__ [] (mCons (mVar 9) mNil)) (mgName 10))
    (mSeq (mAsg (mMakeO "Ranges" 2 m_Ranges___init__ [] (mCons (mN fTuple (mCons (mVar 4) mNil)) mNil)) (mgName 11))
    (mSeq (mIfS (mTest (m2 fEq (mN fLen (mCons (mVar 3) mNil)) (mC (.int 0)))) (mAsg (mMakeO "Ranges" 2 m_Ranges___init__ [.tup []] mNil) (mgName 10)) mNext)
    (mSeq (mIfS (mOr (mNot (mTest (mCall 4 m__law_all_right [] (mCons (mVar 10) (mCons (mVar 11) (mCons (mVar 5) (mCons (mVar 6) mNil))))))) (mNot (mTest (mCall 2 (m__law_equal 4) [] (mCons (mVar 9) (mCons (mVar 3) mNil)))))) (mRet (mC (.bl false))) mNext)
    (mSeq (mDrop (mMeth false fAppend (mVar 9) (mCons (mTup (mCons (m1 (fU fun i => .int (-i)) (mVar 2)) (mCons (mVar 2) mNil))) mNil)))
    (mSeq (mAsg (mTup (mCons (mC (.int 0)) (mCons (mC (.int 0)) mNil))) (mgSub (mVar 9) (mC (.int 0))))
    (mSeq (mIfS (mOr (mNot (mTest (mCall 3 m__law_equals_right [] (mCons (mVar 10) (mCons (mVar 11) (mCons (mVar 5) mNil)))))) (mNot (mTest (mCall 4 m__law_all_right [] (mCons (mVar 10) (mCons (mVar 11) (mCons (mVar 5) (mCons (mVar 6) mNil)))))))) (mRet (mC (.bl false))) mNext)
    (mSeq (mIfS (mTest (m2 (fI0 fun i j => .bl (decide (j < i))) (mN fLen (mCons (mVar 5) mNil)) (mC (.int 100)))) (mRet (mC (.bl true))) mNext)
    (mSeq (mAsg (mLc (miSq (mVar 5)) (mgTup 4 (mgsCons (mgName 13) (mgsCons (mgName 14) (mgsCons (mgName 15) (mgsCons (mgName 16) mgsNil))))) mYes (mTup (mCons (mVar 13) (mCons (mVar 14) (mCons (mVar 16) (mCons (mVar 15) mNil))))) [13, 14, 15, 16]) (mgName 12))
    (mRet (mCall 4 m__law_all_right [] (mCons (mVar 11) (mCons (mVar 10) (mCons (mVar 12) (mCons (mVar 6) mNil)))))))))))))))))))))))))
structure Zs (K : PySem.W.Frag) (mg : Str → Option Value) where
  f__law_mix : Addr
  fd__law_mix : FuncData
  F__law_mix : FnP K "_law_mix" s__law_mix f__law_mix fd__law_mix
  g__law_mix : mg "_law_mix" = some (.ref f__law_mix)
  b__law_mix : Binds K fd__law_mix ["_law_first", "_law_second"] []
  f__law_store : Addr
  fd__law_store : FuncData
  F__law_store : FnP K "_law_store" s__law_store f__law_store fd__law_store
  g__law_store : mg "_law_store" = some (.ref f__law_store)
  b__law_store : Binds K fd__law_store ["_law_script"] []
  f__law_take : Addr
  fd__law_take : FuncData
  F__law_take : FnP K "_law_take" s__law_take f__law_take fd__law_take
  g__law_take : mg "_law_take" = some (.ref f__law_take)
  b__law_take : Binds K fd__law_take ["_law_store_here", "_law_many"] []
  f__law_pick : Addr
  fd__law_pick : FuncData
  F__law_pick : FnP K "_law_pick" s__law_pick f__law_pick fd__law_pick
  g__law_pick : mg "_law_pick" = some (.ref f__law_pick)
  b__law_pick : Binds K fd__law_pick ["_law_store_here", "_law_row"] []
  f__law_equal : Addr
  fd__law_equal : FuncData
  F__law_equal : FnP K "_law_equal" s__law_equal f__law_equal fd__law_equal
  g__law_equal : mg "_law_equal" = some (.ref f__law_equal)
  b__law_equal : Binds K fd__law_equal ["_law_first", "_law_second"] []
  f__law_clamp : Addr
  fd__law_clamp : FuncData
  F__law_clamp : FnP K "_law_clamp" s__law_clamp f__law_clamp fd__law_clamp
  g__law_clamp : mg "_law_clamp" = some (.ref f__law_clamp)
  b__law_clamp : Binds K fd__law_clamp ["_law_number", "_law_low", "_law_high"] []
  f__law_loose_pairs : Addr
  fd__law_loose_pairs : FuncData
  F__law_loose_pairs : FnP K "_law_loose_pairs" s__law_loose_pairs f__law_loose_pairs fd__law_loose_pairs
  g__law_loose_pairs : mg "_law_loose_pairs" = some (.ref f__law_loose_pairs)
  b__law_loose_pairs : Binds K fd__law_loose_pairs ["_law_store_here", "_law_many"] []
  f__law_spread : Addr
  fd__law_spread : FuncData
  F__law_spread : FnP K "_law_spread" s__law_spread f__law_spread fd__law_spread
  g__law_spread : mg "_law_spread" = some (.ref f__law_spread)
  b__law_spread : Binds K fd__law_spread ["_law_store_here", "_law_many"] []
  f__law_some_pairs : Addr
  fd__law_some_pairs : FuncData
  F__law_some_pairs : FnP K "_law_some_pairs" s__law_some_pairs f__law_some_pairs fd__law_some_pairs
  g__law_some_pairs : mg "_law_some_pairs" = some (.ref f__law_some_pairs)
  b__law_some_pairs : Binds K fd__law_some_pairs ["_law_store_here"] []
  f__law_shuffled : Addr
  fd__law_shuffled : FuncData
  F__law_shuffled : FnP K "_law_shuffled" s__law_shuffled f__law_shuffled fd__law_shuffled
  g__law_shuffled : mg "_law_shuffled" = some (.ref f__law_shuffled)
  b__law_shuffled : Binds K fd__law_shuffled ["_law_store_here", "_law_row"] []
  f__law_some : Addr
  fd__law_some : FuncData
  F__law_some : FnP K "_law_some" s__law_some f__law_some fd__law_some
  g__law_some : mg "_law_some" = some (.ref f__law_some)
  b__law_some : Binds K fd__law_some ["_law_store_here", "_law_row"] []
  f__law_beside : Addr
  fd__law_beside : FuncData
  F__law_beside : FnP K "_law_beside" s__law_beside f__law_beside fd__law_beside
  g__law_beside : mg "_law_beside" = some (.ref f__law_beside)
  b__law_beside : Binds K fd__law_beside ["_law_store_here", "_law_pairs"] []
  f__law_mark : Addr
  fd__law_mark : FuncData
  F__law_mark : FnP K "_law_mark" s__law_mark f__law_mark fd__law_mark
  g__law_mark : mg "_law_mark" = some (.ref f__law_mark)
  b__law_mark : Binds K fd__law_mark ["_law_steps", "_law_pairs", "_law_side"] []
  f__law_stretches : Addr
  fd__law_stretches : FuncData
  F__law_stretches : FnP K "_law_stretches" s__law_stretches f__law_stretches fd__law_stretches
  g__law_stretches : mg "_law_stretches" = some (.ref f__law_stretches)
  b__law_stretches : Binds K fd__law_stretches ["_law_one", "_law_two"] []
  f__law_chosen : Addr
  fd__law_chosen : FuncData
  F__law_chosen : FnP K "_law_chosen" s__law_chosen f__law_chosen fd__law_chosen
  g__law_chosen : mg "_law_chosen" = some (.ref f__law_chosen)
  b__law_chosen : Binds K fd__law_chosen ["_law_rows", "_law_deed"] []
  f__law_within : Addr
  fd__law_within : FuncData
  F__law_within : FnP K "_law_within" s__law_within f__law_within fd__law_within
  g__law_within : mg "_law_within" = some (.ref f__law_within)
  b__law_within : Binds K fd__law_within ["_law_pairs", "_law_number"] []
  f__law_members : Addr
  fd__law_members : FuncData
  F__law_members : FnP K "_law_members" s__law_members f__law_members fd__law_members
  g__law_members : mg "_law_members" = some (.ref f__law_members)
  b__law_members : Binds K fd__law_members ["_law_pairs"] []
  f_Ranges_pairs : Addr
  fd_Ranges_pairs : FuncData
  F_Ranges_pairs : FunD K "pairs" "Ranges.pairs" (defArgs s_Ranges_pairs) (defBody s_Ranges_pairs) (defScope s_Ranges_pairs) [] [] f_Ranges_pairs fd_Ranges_pairs
  b_Ranges_pairs : Binds K fd_Ranges_pairs ["self"] []
  p_Ranges_pairs : PropOf K (He.ga K "Ranges") "pairs" (pAd "Ranges" "pairs" K) f_Ranges_pairs
  f_Ranges_many : Addr
  fd_Ranges_many : FuncData
  F_Ranges_many : FunD K "many" "Ranges.many" (defArgs s_Ranges_many) (defBody s_Ranges_many) (defScope s_Ranges_many) [] [] f_Ranges_many fd_Ranges_many
  b_Ranges_many : Binds K fd_Ranges_many ["self"] []
  p_Ranges_many : PropOf K (He.ga K "Ranges") "many" (pAd "Ranges" "many" K) f_Ranges_many
  f_Ranges___contains__ : Addr
  fd_Ranges___contains__ : FuncData
  F_Ranges___contains__ : FunD K "__contains__" "Ranges.__contains__" (defArgs s_Ranges___contains__) (defBody s_Ranges___contains__) (defScope s_Ranges___contains__) [] [] f_Ranges___contains__ fd_Ranges___contains__
  b_Ranges___contains__ : Binds K fd_Ranges___contains__ ["self", "n"] []
  me_Ranges___contains__ : Meth K (He.ga K "Ranges") "__contains__" f_Ranges___contains__
  f_Ranges___iter__ : Addr
  fd_Ranges___iter__ : FuncData
  F_Ranges___iter__ : FunD K "__iter__" "Ranges.__iter__" (defArgs s_Ranges___iter__) (defBody s_Ranges___iter__) (defScope s_Ranges___iter__) [] [] f_Ranges___iter__ fd_Ranges___iter__
  b_Ranges___iter__ : Binds K fd_Ranges___iter__ ["self"] []
  me_Ranges___iter__ : Meth K (He.ga K "Ranges") "__iter__" f_Ranges___iter__
  f__law_is_right : Addr
  fd__law_is_right : FuncData
  F__law_is_right : FnP K "_law_is_right" s__law_is_right f__law_is_right fd__law_is_right
  g__law_is_right : mg "_law_is_right" = some (.ref f__law_is_right)
  b__law_is_right : Binds K fd__law_is_right ["_law_told", "_law_due", "_law_probes"] []
  f_shared : Addr
  fd_shared : FuncData
  F_shared : FnP K "shared" s_shared f_shared fd_shared
  g_shared : mg "shared" = some (.ref f_shared)
  b_shared : Binds K fd_shared ["first", "second"] []
  f_merged : Addr
  fd_merged : FuncData
  F_merged : FnP K "merged" s_merged f_merged fd_merged
  g_merged : mg "merged" = some (.ref f_merged)
  b_merged : Binds K fd_merged ["pairs"] []
  f_Ranges___init__ : Addr
  fd_Ranges___init__ : FuncData
  F_Ranges___init__ : FunD K "__init__" "Ranges.__init__" (defArgs s_Ranges___init__) (defBody s_Ranges___init__) (defScope s_Ranges___init__) [.ref ((He.dflAt ("Ranges", some "__init__") 0) K)] [] f_Ranges___init__ fd_Ranges___init__
  b_Ranges___init___1 : ∃ zs, Vals ([.ref ((He.dflAt ("Ranges", some "__init__") 0) K)] : List V) zs ∧ Binds K fd_Ranges___init__ ["self", "pairs"] zs
  b_Ranges___init___2 : ∃ zs, Vals ([] : List V) zs ∧ Binds K fd_Ranges___init__ ["self", "pairs"] zs
  f_Ranges___and__ : Addr
  fd_Ranges___and__ : FuncData
  F_Ranges___and__ : FunD K "__and__" "Ranges.__and__" (defArgs s_Ranges___and__) (defBody s_Ranges___and__) (defScope s_Ranges___and__) [] [] f_Ranges___and__ fd_Ranges___and__
  b_Ranges___and__ : Binds K fd_Ranges___and__ ["self", "other"] []
  me_Ranges___and__ : Meth K (He.ga K "Ranges") "__and__" f_Ranges___and__
  f_Ranges___or__ : Addr
  fd_Ranges___or__ : FuncData
  F_Ranges___or__ : FunD K "__or__" "Ranges.__or__" (defArgs s_Ranges___or__) (defBody s_Ranges___or__) (defScope s_Ranges___or__) [] [] f_Ranges___or__ fd_Ranges___or__
  b_Ranges___or__ : Binds K fd_Ranges___or__ ["self", "other"] []
  me_Ranges___or__ : Meth K (He.ga K "Ranges") "__or__" f_Ranges___or__
  f_remaining : Addr
  fd_remaining : FuncData
  F_remaining : FnP K "remaining" s_remaining f_remaining fd_remaining
  g_remaining : mg "remaining" = some (.ref f_remaining)
  b_remaining : Binds K fd_remaining ["first", "second"] []
  f_Ranges___sub__ : Addr
  fd_Ranges___sub__ : FuncData
  F_Ranges___sub__ : FunD K "__sub__" "Ranges.__sub__" (defArgs s_Ranges___sub__) (defBody s_Ranges___sub__) (defScope s_Ranges___sub__) [] [] f_Ranges___sub__ fd_Ranges___sub__
  b_Ranges___sub__ : Binds K fd_Ranges___sub__ ["self", "other"] []
  me_Ranges___sub__ : Meth K (He.ga K "Ranges") "__sub__" f_Ranges___sub__
  f__law_all_right : Addr
  fd__law_all_right : FuncData
  F__law_all_right : FnP K "_law_all_right" s__law_all_right f__law_all_right fd__law_all_right
  g__law_all_right : mg "_law_all_right" = some (.ref f__law_all_right)
  b__law_all_right : Binds K fd__law_all_right ["_law_first", "_law_second", "_law_rows", "_law_probes"] []
  f_Ranges___eq__ : Addr
  fd_Ranges___eq__ : FuncData
  F_Ranges___eq__ : FunD K "__eq__" "Ranges.__eq__" (defArgs s_Ranges___eq__) (defBody s_Ranges___eq__) (defScope s_Ranges___eq__) [] [] f_Ranges___eq__ fd_Ranges___eq__
  b_Ranges___eq__ : Binds K fd_Ranges___eq__ ["self", "other"] []
  me_Ranges___eq__ : Meth K (He.ga K "Ranges") "__eq__" f_Ranges___eq__
  f__law_equals_right : Addr
  fd__law_equals_right : FuncData
  F__law_equals_right : FnP K "_law_equals_right" s__law_equals_right f__law_equals_right fd__law_equals_right
  g__law_equals_right : mg "_law_equals_right" = some (.ref f__law_equals_right)
  b__law_equals_right : Binds K fd__law_equals_right ["_law_first", "_law_second", "_law_rows"] []
  f_law : Addr
  fd_law : FuncData
  F_law : FnP K "law" s_law f_law fd_law
  g_law : mg "law" = some (.ref f_law)
  b_law : Binds K fd_law ["_law_script"] []
  g_Ranges : mg "Ranges" = some (.ref (He.ga K "Ranges"))
  mk_Ranges : Mk K (He.ga K "Ranges") f_Ranges___init__
  c_Ranges : Cls K (He.ga K "Ranges")
  na_Ranges_spans : NoAttr K (He.ga K "Ranges") "spans"
  z_sorted : mg "sorted" = none
  z_max : mg "max" = none
  z_tuple : mg "tuple" = none
  z_len : mg "len" = none
  z_min : mg "min" = none
  z_int : mg "int" = none
  z_list : mg "list" = none
  z_abs : mg "abs" = none
  z_range : mg "range" = none
  z_isinstance : mg "isinstance" = none
  z_bool : mg "bool" = none
  z_str : mg "str" = none
  z_iter : mg "iter" = none
  z_sum : mg "sum" = none
  z_any : mg "any" = none
  own_Ranges : OwnK K "Ranges"
  e_0 : SqT K hp0 ((He.dflAt ("Ranges", some "__init__") 0) K) []
section
variable {P : Program} {w : World} {K : PySem.W.Frag} {mg : Str → Option Value} {base : Heap}
theorem itc_Ranges (Z : Zs K mg) : ItC2 P w K mg base 0 (He.ga K "Ranges") "spans" Z.f_Ranges___iter__ Z.fd_Ranges___iter__ := itC2_of Z.me_Ranges___iter__ Z.c_Ranges Z.na_Ranges_spans Z.b_Ranges___iter__ Z.F_Ranges___iter__ sc_Ranges___iter__ fun cdv A outer s H E => ⟨tRet (tCB (rIterT K s.heap.objs.size) (tCons (tFld K (tVar 0) "spans") tNil)), pss_one (ps_ret (by refine pe_callB (X := cxOf (L2.CX P w) P w K mg base ["self"] "Ranges.__iter__" (defScope s_Ranges___iter__) Z.f_Ranges___iter__ cdv A outer s H E) call_iterT ?_ Z.z_iter (by decide +kernel) (pa_cons (pe_fld (pe_var (i := 0) ?_ ?_) rfl) pa_nil); exact rfl; exact rfl; exact .inl rfl)), fun _ _ _ z => z⟩
theorem ok__law_mix (Z : Zs K mg) : FnOk P w K mg base (L2.CX P w) 1 Z.f__law_mix Z.fd__law_mix ["_law_first", "_law_second"] (spM K 2 false m__law_mix) := fn_ok Z.F__law_mix sc__law_mix rfl 4 rfl fun cdv A outer s H E hr => ⟨_,
    (dss_cons (ds_set 2 sc__law_mix.nd (de_op op_mod (sim_I fun _ _ _ _ => rfl) (de_callTy call_int1 sim_int rfl Z.z_int (by decide +kernel) (da_cons (de_op (op_addK K) sim_add (de_op (op_addK K) sim_add (de_op op_mulA sim_mul (de_var 0) de_int) (de_op op_mulA sim_mul (de_var 1) de_int)) de_int) da_nil)) de_int))
    (dss_cons (ds_set 3 sc__law_mix.nd (de_op op_mod (sim_I fun _ _ _ _ => rfl) (de_callTy call_int1 sim_int rfl Z.z_int (by decide +kernel) (da_cons (de_op (op_addK K) sim_add (de_op (op_addK K) sim_add (de_op (op_addK K) sim_add (de_op op_mulA sim_mul (de_var 2) (de_var 2)) (de_op op_mulA sim_mul (de_op op_fdivW (sim_I fun _ _ _ _ => rfl) (de_var 2) de_int) de_int)) (de_var 1)) de_int) da_nil)) de_int))
    (dss_one (ds_ret (de_op op_mod (sim_I fun _ _ _ _ => rfl) (de_callTy call_int1 sim_int rfl Z.z_int (by decide +kernel) (da_cons (de_op (op_addK K) sim_add (de_op op_mulA sim_mul (de_var 3) de_int) (de_op op_fdivW (sim_I fun _ _ _ _ => rfl) (de_var 2) de_int)) da_nil)) de_int)))))⟩
theorem ok__law_store (Z : Zs K mg) : FnOk P w K mg base (L2.CX P w) 2 Z.f__law_store Z.fd__law_store ["_law_script"] (spM K 1 false m__law_store) := fn_ok Z.F__law_store sc__law_store rfl 3 rfl fun cdv A outer s H E hr => ⟨_,
    (dss_cons (ds_set 1 sc__law_store.nd de_int)
    (dss_cons (ds_for (passes_of rfl) rfl (di_sq K (de_var 0)) (dg_name 2 sc__law_store.nd) (dss_one (ds_set 1 sc__law_store.nd (de_call K (ok__law_mix Z) (takes_of rfl rfl rfl rfl) (hr.mono (by decide)) rfl Z.g__law_mix Z.F__law_mix.kp Z.b__law_mix .nil (fun _ _ => rfl) (da_cons (de_var 1) (da_cons (de_op op_mod (sim_I fun _ _ _ _ => rfl) (de_callTy call_int1 sim_int rfl Z.z_int (by decide +kernel) (da_cons (de_var 2) da_nil)) de_int) da_nil))))))
    (dss_one (ds_ret (de_disp (DPs.cons de_str (de_callTy (call_listK K) sim_list rfl Z.z_list (by decide +kernel) (da_cons (de_var 0) da_nil)) (DPs.cons de_str de_int (DPs.cons de_str de_int (DPs.cons de_str de_int (DPs.cons de_str de_int (DPs.cons de_str de_int (DPs.cons de_str (de_var 1) DPs.nil))))))))))))⟩
theorem ok__law_take (Z : Zs K mg) : FnOk P w K mg base (L2.CX P w) 2 Z.f__law_take Z.fd__law_take ["_law_store_here", "_law_many"] (spM K 2 false m__law_take) := fn_ok Z.F__law_take sc__law_take rfl 8 rfl fun cdv A outer s H E hr => ⟨_,
    (dss_cons (ds_if (dt_cmp op_lt (sim_I0 fun _ _ _ _ => rfl) (de_var 1) de_int (nomark _)) (dss_one (ds_ret de_int)) dss_nil)
    (dss_cons (ds_if (dt_w (dw_and (dt_cmp (op_eqK K hr) sim_eq (de_dget (u1 hr) (de_var 0) de_str) de_int (nomark _)) (dw_and (dt_cmp (op_eqK K hr) sim_eq (de_dget (u1 hr) (de_var 0) de_str) de_int (nomark _)) (dw_and1 (dt_cmp op_lt (sim_I0 fun _ _ _ _ => rfl) (de_dget (u1 hr) (de_var 0) de_str) (de_callB (call_lenK K) sim_len rfl Z.z_len (by decide +kernel) (da_cons (de_dget (u1 hr) (de_var 0) de_str) da_nil)) (nomark _)))))) (dss_cons (ds_set 2 sc__law_take.nd (de_ix K (de_dget (u1 hr) (de_var 0) de_str) (de_dget (u1 hr) (de_var 0) de_str)))
    (dss_cons (ds_dput (u1 hr) (de_var 0) de_str (de_op (op_addK K) sim_add (de_dget (u1 hr) (de_var 0) de_str) de_int))
    (dss_one (ds_if (dt_cmp op_ge (sim_I0 fun _ _ _ _ => rfl) (de_callB call_abs sim_abs rfl Z.z_abs (by decide +kernel) (da_cons (de_var 2) da_nil)) (de_op op_pow (sim_I fun _ _ _ _ => rfl) de_int de_int) (nomark _)) (dss_one (ds_dput (u1 hr) (de_var 0) de_str (de_callB call_abs sim_abs rfl Z.z_abs (by decide +kernel) (da_cons (de_var 2) da_nil)))) (dss_cons (ds_dput (u1 hr) (de_var 0) de_str (de_var 2))
    (dss_one (ds_dput (u1 hr) (de_var 0) de_str de_int))))))) dss_nil)
    (dss_cons (ds_if (dt_cmp op_gt (sim_I0 fun _ _ _ _ => rfl) (de_dget (u1 hr) (de_var 0) de_str) de_int (nomark _)) (dss_cons (ds_set 3 sc__law_take.nd (de_dget (u1 hr) (de_var 0) de_str))
    (dss_cons (ds_dput (u1 hr) (de_var 0) de_str (de_op op_fdivW (sim_I fun _ _ _ _ => rfl) (de_var 3) (de_var 1)))
    (dss_one (ds_ret (de_op op_mod (sim_I fun _ _ _ _ => rfl) (de_callTy call_int1 sim_int rfl Z.z_int (by decide +kernel) (da_cons (de_var 3) da_nil)) (de_var 1)))))) dss_nil)
    (dss_cons (ds_set 4 sc__law_take.nd (de_dget (u1 hr) (de_var 0) de_str))
    (dss_cons (ds_if (dt_cmp op_gt (sim_I0 fun _ _ _ _ => rfl) (de_dget (u1 hr) (de_var 0) de_str) de_int (nomark _)) (dss_cons (ds_dput (u1 hr) (de_var 0) de_str (de_op op_sub (sim_I0 fun _ _ _ _ => rfl) (de_dget (u1 hr) (de_var 0) de_str) de_int))
    (dss_one (ds_set 4 sc__law_take.nd (de_dget (u1 hr) (de_var 0) de_str)))) dss_nil)
    (dss_cons (ds_set 5 sc__law_take.nd de_int)
    (dss_cons (ds_set 6 sc__law_take.nd de_int)
    (dss_cons (ds_if (dt_cmp op_gt (sim_I0 fun _ _ _ _ => rfl) (de_var 1) (de_op op_pow (sim_I fun _ _ _ _ => rfl) de_int de_int) (nomark _)) (dss_one (ds_set 6 sc__law_take.nd de_int)) dss_nil)
    (dss_cons (ds_for (passes_of rfl) rfl (di_r1 rfl Z.z_range (da_cons (de_var 6) da_nil)) (dg_name 7 sc__law_take.nd) (dss_cons (ds_dput (u1 hr) (de_var 0) de_str (de_op (op_addK K) sim_add (de_dget (u1 hr) (de_var 0) de_str) de_int))
    (dss_one (ds_set 5 sc__law_take.nd (de_op (op_addK K) sim_add (de_op op_mulA sim_mul (de_var 5) de_int) (de_call K (ok__law_mix Z) (takes_of rfl rfl rfl rfl) (hr.mono (by decide)) rfl Z.g__law_mix Z.F__law_mix.kp Z.b__law_mix .nil (fun _ _ => rfl) (da_cons (de_var 4) (da_cons (de_dget (u1 hr) (de_var 0) de_str) da_nil))))))))
    (dss_one (ds_ret (de_op op_mod (sim_I fun _ _ _ _ => rfl) (de_callTy call_int1 sim_int rfl Z.z_int (by decide +kernel) (da_cons (de_var 5) da_nil)) (de_var 1)))))))))))))⟩
theorem ok__law_pick (Z : Zs K mg) : FnOk P w K mg base (L2.CX P w) 3 Z.f__law_pick Z.fd__law_pick ["_law_store_here", "_law_row"] (spM K 2 false m__law_pick) := fn_ok Z.F__law_pick sc__law_pick rfl 2 rfl fun cdv A outer s H E hr => ⟨_,
    (dss_one (ds_ret (de_ix K (de_var 1) (de_call K (ok__law_take Z) (takes_of rfl rfl rfl rfl) (hr.mono (by decide)) rfl Z.g__law_take Z.F__law_take.kp Z.b__law_take .nil (fun _ _ => rfl) (da_cons (de_var 0) (da_cons (de_callB (call_lenK K) sim_len rfl Z.z_len (by decide +kernel) (da_cons (de_var 1) da_nil)) da_nil))))))⟩
theorem ok__law_equal (Z : Zs K mg) : ∀ n : Nat, FnOk P w K mg base (L2.CX P w) (1 + n) Z.f__law_equal Z.fd__law_equal ["_law_first", "_law_second"] (spM K 2 false (m__law_equal n))
  | 0 => FunD.ok Z.F__law_equal sc__law_equal (fun vs H Q E z => z.1) (fun cdv A outer s H vs Q E hr z => by obtain ⟨_, α, hp, ss, R, Xp, _, _, m, _⟩ := z; exact m.elim)
  | n + 1 => fn_ok (k := 1 + n) Z.F__law_equal sc__law_equal rfl 3 rfl fun cdv A outer s H E hr => ⟨_,
    (dss_cons (ds_if (dt_val (de_callB (call_isiK' K) sim_isi rfl Z.z_isinstance (by decide +kernel) (da_cons (de_var 0) (da_cons (de_tup (da_cons (de_ty rfl Z.z_list (by decide +kernel)) (da_cons (de_ty rfl Z.z_tuple (by decide +kernel)) da_nil))) da_nil)))) (dss_cons (ds_if (dt_w (dw_or (dt_cmp (op_neK K hr) sim_ne (de_callB (call_isiK' K) sim_isi rfl Z.z_isinstance (by decide +kernel) (da_cons (de_var 0) (da_cons (de_ty rfl Z.z_list (by decide +kernel)) da_nil))) (de_callB (call_isiK' K) sim_isi rfl Z.z_isinstance (by decide +kernel) (da_cons (de_var 1) (da_cons (de_ty rfl Z.z_list (by decide +kernel)) da_nil))) (nomark _)) (dw_or1 (dt_cmp (op_neK K hr) sim_ne (de_callB (call_isiK' K) sim_isi rfl Z.z_isinstance (by decide +kernel) (da_cons (de_var 0) (da_cons (de_ty rfl Z.z_tuple (by decide +kernel)) da_nil))) (de_callB (call_isiK' K) sim_isi rfl Z.z_isinstance (by decide +kernel) (da_cons (de_var 1) (da_cons (de_ty rfl Z.z_tuple (by decide +kernel)) da_nil))) (nomark _))))) (dss_one (ds_ret de_bl)) dss_nil)
    (dss_cons (ds_if (dt_cmp (op_neK K hr) sim_ne (de_callB (call_lenK K) sim_len rfl Z.z_len (by decide +kernel) (da_cons (de_var 0) da_nil)) (de_callB (call_lenK K) sim_len rfl Z.z_len (by decide +kernel) (da_cons (de_var 1) da_nil)) (nomark _)) (dss_one (ds_ret de_bl)) dss_nil)
    (dss_cons (ds_for (passes_of rfl) rfl (di_r1 rfl Z.z_range (da_cons (de_callB (call_lenK K) sim_len rfl Z.z_len (by decide +kernel) (da_cons (de_var 0) da_nil)) da_nil)) (dg_name 2 sc__law_equal.nd) (dss_one (ds_if (dt_not (dt_val (de_call K (ok__law_equal Z n) (takes_of rfl rfl rfl rfl) (hr.mono (by omega)) rfl Z.g__law_equal Z.F__law_equal.kp Z.b__law_equal .nil (fun _ _ => rfl) (da_cons (de_ix K (de_var 0) (de_var 2)) (da_cons (de_ix K (de_var 1) (de_var 2)) da_nil))))) (dss_one (ds_ret de_bl)) dss_nil)))
    (dss_one (ds_ret de_bl))))) dss_nil)
    (dss_cons (ds_if (dt_val (de_callB (call_isiK' K) sim_isi rfl Z.z_isinstance (by decide +kernel) (da_cons (de_var 1) (da_cons (de_tup (da_cons (de_ty rfl Z.z_list (by decide +kernel)) (da_cons (de_ty rfl Z.z_tuple (by decide +kernel)) da_nil))) da_nil)))) (dss_one (ds_ret de_bl)) dss_nil)
    (dss_cons (ds_if (dt_w (dw_or (dt_cmp op_isN sim_isN (de_var 0) de_non (nomark _)) (dw_or1 (dt_cmp op_isN sim_isN (de_var 1) de_non (nomark _))))) (dss_one (ds_ret (de_and (de_cmp op_isN sim_isN (de_var 0) de_non (nomark _)) (de_one (de_cmp op_isN sim_isN (de_var 1) de_non (nomark _)))))) dss_nil)
    (dss_cons (ds_if (dt_w (dw_or (dt_val (de_callB (call_isiK' K) sim_isi rfl Z.z_isinstance (by decide +kernel) (da_cons (de_var 0) (da_cons (de_ty rfl Z.z_bool (by decide +kernel)) da_nil)))) (dw_or1 (dt_val (de_callB (call_isiK' K) sim_isi rfl Z.z_isinstance (by decide +kernel) (da_cons (de_var 1) (da_cons (de_ty rfl Z.z_bool (by decide +kernel)) da_nil))))))) (dss_one (ds_ret (de_and (de_callB (call_isiK' K) sim_isi rfl Z.z_isinstance (by decide +kernel) (da_cons (de_var 0) (da_cons (de_ty rfl Z.z_bool (by decide +kernel)) da_nil))) (de_and (de_callB (call_isiK' K) sim_isi rfl Z.z_isinstance (by decide +kernel) (da_cons (de_var 1) (da_cons (de_ty rfl Z.z_bool (by decide +kernel)) da_nil))) (de_one (de_cmp (op_eqK K hr) sim_eq (de_var 0) (de_var 1) (nomark _))))))) dss_nil)
    (dss_cons (ds_if (dt_w (dw_or (dt_val (de_callB (call_isiK' K) sim_isi rfl Z.z_isinstance (by decide +kernel) (da_cons (de_var 0) (da_cons (de_ty rfl Z.z_str (by decide +kernel)) da_nil)))) (dw_or1 (dt_val (de_callB (call_isiK' K) sim_isi rfl Z.z_isinstance (by decide +kernel) (da_cons (de_var 1) (da_cons (de_ty rfl Z.z_str (by decide +kernel)) da_nil))))))) (dss_one (ds_ret (de_and (de_callB (call_isiK' K) sim_isi rfl Z.z_isinstance (by decide +kernel) (da_cons (de_var 0) (da_cons (de_ty rfl Z.z_str (by decide +kernel)) da_nil))) (de_and (de_callB (call_isiK' K) sim_isi rfl Z.z_isinstance (by decide +kernel) (da_cons (de_var 1) (da_cons (de_ty rfl Z.z_str (by decide +kernel)) da_nil))) (de_one (de_cmp (op_eqK K hr) sim_eq (de_var 0) (de_var 1) (nomark _))))))) dss_nil)
    (dss_one (ds_ret (de_and (de_callB (call_isiK' K) sim_isi rfl Z.z_isinstance (by decide +kernel) (da_cons (de_var 0) (da_cons (de_ty rfl Z.z_int (by decide +kernel)) da_nil))) (de_and (de_callB (call_isiK' K) sim_isi rfl Z.z_isinstance (by decide +kernel) (da_cons (de_var 1) (da_cons (de_ty rfl Z.z_int (by decide +kernel)) da_nil))) (de_one (de_cmp (op_eqK K hr) sim_eq (de_var 0) (de_var 1) (nomark _))))))))))))⟩
theorem ok__law_clamp (Z : Zs K mg) : FnOk P w K mg base (L2.CX P w) 1 Z.f__law_clamp Z.fd__law_clamp ["_law_number", "_law_low", "_law_high"] (spM K 3 false m__law_clamp) := fn_ok Z.F__law_clamp sc__law_clamp rfl 3 rfl fun cdv A outer s H E hr => ⟨_,
    (dss_one (ds_ret (de_callB (call_max2 rfl) (sim_MM (g := (fun i j => if j > i then j else i))) rfl Z.z_max (by decide +kernel) (da_cons (de_var 1) (da_cons (de_callB (call_min2 rfl) (sim_MM (g := (fun i j => if j < i then j else i))) rfl Z.z_min (by decide +kernel) (da_cons (de_var 2) (da_cons (de_var 0) da_nil))) da_nil)))))⟩
theorem ok__law_loose_pairs (Z : Zs K mg) : FnOk P w K mg base (L2.CX P w) 4 Z.f__law_loose_pairs Z.fd__law_loose_pairs ["_law_store_here", "_law_many"] (spM K 2 true m__law_loose_pairs) := fn_ok Z.F__law_loose_pairs sc__law_loose_pairs rfl 9 rfl fun cdv A outer s H E hr => ⟨_,
    (dss_cons (ds_set 2 sc__law_loose_pairs.nd (de_op op_mulA sim_mul (de_op op_mulA sim_mul (de_op op_pow (sim_I fun _ _ _ _ => rfl) de_int de_int) (de_op op_pow (sim_I fun _ _ _ _ => rfl) de_int de_int)) de_int))
    (dss_cons (ds_set 3 sc__law_loose_pairs.nd (de_call K (ok__law_pick Z) (takes_of rfl rfl rfl rfl) (hr.mono (by decide)) rfl Z.g__law_pick Z.F__law_pick.kp Z.b__law_pick .nil (fun _ _ => rfl) (da_cons (de_var 0) (da_cons (de_lst (da_cons de_int (da_cons de_int (da_cons (de_neg de_int) (da_cons (de_op op_pow (sim_I fun _ _ _ _ => rfl) de_int de_int) (da_cons (de_neg (de_op op_pow (sim_I fun _ _ _ _ => rfl) de_int de_int)) (da_cons (de_op op_sub (sim_I0 fun _ _ _ _ => rfl) (de_var 2) de_int) (da_cons (de_neg (de_var 2)) da_nil)))))))) da_nil))))
    (dss_cons (ds_set 4 sc__law_loose_pairs.nd (de_lstM da_nil))
    (dss_cons (ds_for (passes_of rfl) rfl (di_r1 rfl Z.z_range (da_cons (de_call K (ok__law_take Z) (takes_of rfl rfl rfl rfl) (hr.mono (by decide)) rfl Z.g__law_take Z.F__law_take.kp Z.b__law_take .nil (fun _ _ => rfl) (da_cons (de_var 0) (da_cons (de_op (op_addK K) sim_add (de_var 1) de_int) da_nil))) da_nil)) (dg_name 5 sc__law_loose_pairs.nd) (dss_cons (ds_set 6 sc__law_loose_pairs.nd (de_op (op_addK K) sim_add (de_var 3) (de_call K (ok__law_take Z) (takes_of rfl rfl rfl rfl) (hr.mono (by decide)) rfl Z.g__law_take Z.F__law_take.kp Z.b__law_take .nil (fun _ _ => rfl) (da_cons (de_var 0) (da_cons de_int da_nil)))))
    (dss_cons (ds_set 7 sc__law_loose_pairs.nd (de_call K (ok__law_take Z) (takes_of rfl rfl rfl rfl) (hr.mono (by decide)) rfl Z.g__law_take Z.F__law_take.kp Z.b__law_take .nil (fun _ _ => rfl) (da_cons (de_var 0) (da_cons de_int da_nil))))
    (dss_cons (ds_set 8 sc__law_loose_pairs.nd (de_op op_sub (sim_I0 fun _ _ _ _ => rfl) (de_op (op_addK K) sim_add (de_var 6) (de_var 7)) de_int))
    (dss_cons (ds_if (dt_cmp (op_eqK K hr) sim_eq (de_var 7) de_int (nomark _)) (dss_one (ds_set 8 sc__law_loose_pairs.nd (de_op (op_addK K) sim_add (de_var 6) (de_call K (ok__law_take Z) (takes_of rfl rfl rfl rfl) (hr.mono (by decide)) rfl Z.g__law_take Z.F__law_take.kp Z.b__law_take .nil (fun _ _ => rfl) (da_cons (de_var 0) (da_cons (de_op op_pow (sim_I fun _ _ _ _ => rfl) de_int de_int) da_nil)))))) dss_nil)
    (dss_cons (ds_if (dt_w (dw_and (dt_cmp (op_eqK K hr) sim_eq (de_var 7) de_int (nomark _)) (dw_and1 (dt_cmp op_gt (sim_I0 fun _ _ _ _ => rfl) (de_callB (call_lenK K) sim_len rfl Z.z_len (by decide +kernel) (da_cons (de_var 4) da_nil)) de_int (nomark _))))) (dss_cons (ds_set 6 sc__law_loose_pairs.nd (de_op (op_addK K) sim_add (de_ix K (de_ix K (de_var 4) (de_neg de_int)) de_int) de_int))
    (dss_one (ds_set 8 sc__law_loose_pairs.nd (de_op (op_addK K) sim_add (de_var 6) (de_call K (ok__law_take Z) (takes_of rfl rfl rfl rfl) (hr.mono (by decide)) rfl Z.g__law_take Z.F__law_take.kp Z.b__law_take .nil (fun _ _ => rfl) (da_cons (de_var 0) (da_cons de_int da_nil))))))) dss_nil)
    (dss_cons (ds_if (dt_w (dw_and (dt_cmp (op_eqK K hr) sim_eq (de_var 7) de_int (nomark _)) (dw_and1 (dt_cmp op_gt (sim_I0 fun _ _ _ _ => rfl) (de_callB (call_lenK K) sim_len rfl Z.z_len (by decide +kernel) (da_cons (de_var 4) da_nil)) de_int (nomark _))))) (dss_cons (ds_set 6 sc__law_loose_pairs.nd (de_ix K (de_ix K (de_var 4) de_int) de_int))
    (dss_one (ds_set 8 sc__law_loose_pairs.nd (de_ix K (de_ix K (de_var 4) de_int) de_int)))) dss_nil)
    (dss_one (ds_expr (de_bm K PySem.F.plainAttrs_list PySem.F.slot_list_append PySem.F.type_list_append mt_append sim_append (de_var 4) (da_cons (de_tup (da_cons (de_call K (ok__law_clamp Z) (takes_of rfl rfl rfl rfl) (hr.mono (by decide)) rfl Z.g__law_clamp Z.F__law_clamp.kp Z.b__law_clamp .nil (fun _ _ => rfl) (da_cons (de_var 6) (da_cons (de_neg (de_var 2)) (da_cons (de_var 2) da_nil)))) (da_cons (de_call K (ok__law_clamp Z) (takes_of rfl rfl rfl rfl) (hr.mono (by decide)) rfl Z.g__law_clamp Z.F__law_clamp.kp Z.b__law_clamp .nil (fun _ _ => rfl) (da_cons (de_var 8) (da_cons (de_neg (de_var 2)) (da_cons (de_var 2) da_nil)))) da_nil))) da_nil)))))))))))
    (dss_one (ds_ret (de_var 4)))))))⟩
theorem ok__law_spread (Z : Zs K mg) : FnOk P w K mg base (L2.CX P w) 4 Z.f__law_spread Z.fd__law_spread ["_law_store_here", "_law_many"] (spM K 2 true m__law_spread) := fn_ok Z.F__law_spread sc__law_spread rfl 8 rfl fun cdv A outer s H E hr => ⟨_,
    (dss_cons (ds_set 2 sc__law_spread.nd (de_call K (ok__law_pick Z) (takes_of rfl rfl rfl rfl) (hr.mono (by decide)) rfl Z.g__law_pick Z.F__law_pick.kp Z.b__law_pick .nil (fun _ _ => rfl) (da_cons (de_var 0) (da_cons (de_lst (da_cons (de_neg de_int) (da_cons de_int (da_cons de_int (da_cons (de_neg de_int) (da_cons (de_op op_pow (sim_I fun _ _ _ _ => rfl) de_int de_int) da_nil)))))) da_nil))))
    (dss_cons (ds_set 3 sc__law_spread.nd (de_op (op_addK K) sim_add de_int (de_call K (ok__law_take Z) (takes_of rfl rfl rfl rfl) (hr.mono (by decide)) rfl Z.g__law_take Z.F__law_take.kp Z.b__law_take .nil (fun _ _ => rfl) (da_cons (de_var 0) (da_cons de_int da_nil)))))
    (dss_cons (ds_set 4 sc__law_spread.nd (de_call K (ok__law_take Z) (takes_of rfl rfl rfl rfl) (hr.mono (by decide)) rfl Z.g__law_take Z.F__law_take.kp Z.b__law_take .nil (fun _ _ => rfl) (da_cons (de_var 0) (da_cons (de_op (op_addK K) sim_add (de_var 3) de_int) da_nil))))
    (dss_cons (ds_setLcM 5 (vs := [6]) [("_law_k", 6)] rfl rfl sc__law_spread.nd (di_r1 rfl Z.z_range (da_cons (de_var 1) da_nil)) (blkOk_by (N := n__law_spread) (sc := defScope s__law_spread) (by decide +kernel)) (fun _ _ _ _ _ => (dg_name 6 sc__law_spread.nd)) (fun _ _ _ _ _ => pts_nil) sim_yes (fun _ _ _ _ _ => (de_tup (da_cons (de_op (op_addK K) sim_add (de_var 2) (de_op op_mulA sim_mul (de_var 6) (de_var 3))) (da_cons (de_op op_sub (sim_I0 fun _ _ _ _ => rfl) (de_op (op_addK K) sim_add (de_op (op_addK K) sim_add (de_var 2) (de_op op_mulA sim_mul (de_var 6) (de_var 3))) (de_var 4)) de_int) da_nil)))) (by decide) rfl (sw_true rfl rfl rfl (by decide +kernel)))
    (dss_cons (ds_set 7 sc__law_spread.nd (de_call K (ok__law_take Z) (takes_of rfl rfl rfl rfl) (hr.mono (by decide)) rfl Z.g__law_take Z.F__law_take.kp Z.b__law_take .nil (fun _ _ => rfl) (da_cons (de_var 0) (da_cons (de_var 1) da_nil))))
    (dss_cons (ds_asg (de_tup (da_cons (de_op (op_addK K) sim_add (de_var 2) (de_call K (ok__law_take Z) (takes_of rfl rfl rfl rfl) (hr.mono (by decide)) rfl Z.g__law_take Z.F__law_take.kp Z.b__law_take .nil (fun _ _ => rfl) (da_cons (de_var 0) (da_cons (de_op op_mulA sim_mul (de_var 3) (de_var 1)) da_nil)))) (da_cons (de_op (op_addK K) sim_add (de_var 2) (de_call K (ok__law_take Z) (takes_of rfl rfl rfl rfl) (hr.mono (by decide)) rfl Z.g__law_take Z.F__law_take.kp Z.b__law_take .nil (fun _ _ => rfl) (da_cons (de_var 0) (da_cons (de_op op_mulA sim_mul (de_var 3) (de_var 1)) da_nil)))) da_nil))) (dg_sb (W := W00) (de_var 5) (de_var 7)))
    (dss_one (ds_ret (de_addM K (de_sl K (de_var 5) (do_some (de_var 7)) do_none) (de_rev K (de_sl K (de_var 5) do_none (do_some (de_var 7)))))))))))))⟩
theorem ok__law_some_pairs (Z : Zs K mg) : FnOk P w K mg base (L2.CX P w) 5 Z.f__law_some_pairs Z.fd__law_some_pairs ["_law_store_here"] (spM K 1 true m__law_some_pairs) := fn_ok Z.F__law_some_pairs sc__law_some_pairs rfl 1 rfl fun cdv A outer s H E hr => ⟨_,
    (dss_cons (ds_if (dt_cmp (op_eqK K hr) sim_eq (de_call K (ok__law_take Z) (takes_of rfl rfl rfl rfl) (hr.mono (by decide)) rfl Z.g__law_take Z.F__law_take.kp Z.b__law_take .nil (fun _ _ => rfl) (da_cons (de_var 0) (da_cons de_int da_nil))) de_int (nomark _)) (dss_one (ds_ret (de_callM K (ok__law_spread Z) (takes_of rfl rfl rfl rfl) (hr.mono (by decide)) rfl Z.g__law_spread Z.F__law_spread.kp Z.b__law_spread .nil (fun _ _ => rfl) (da_cons (de_var 0) (da_cons (de_call K (ok__law_pick Z) (takes_of rfl rfl rfl rfl) (hr.mono (by decide)) rfl Z.g__law_pick Z.F__law_pick.kp Z.b__law_pick .nil (fun _ _ => rfl) (da_cons (de_var 0) (da_cons (de_lst (da_cons de_int (da_cons de_int (da_cons de_int (da_cons de_int (da_cons de_int da_nil)))))) da_nil))) da_nil))))) dss_nil)
    (dss_one (ds_ret (de_callM K (ok__law_loose_pairs Z) (takes_of rfl rfl rfl rfl) (hr.mono (by decide)) rfl Z.g__law_loose_pairs Z.F__law_loose_pairs.kp Z.b__law_loose_pairs .nil (fun _ _ => rfl) (da_cons (de_var 0) (da_cons (de_call K (ok__law_pick Z) (takes_of rfl rfl rfl rfl) (hr.mono (by decide)) rfl Z.g__law_pick Z.F__law_pick.kp Z.b__law_pick .nil (fun _ _ => rfl) (da_cons (de_var 0) (da_cons (de_lst (da_cons de_int (da_cons de_int (da_cons de_int (da_cons de_int (da_cons de_int (da_cons de_int (da_cons de_int da_nil)))))))) da_nil))) da_nil))))))⟩
theorem ok__law_shuffled (Z : Zs K mg) : FnOk P w K mg base (L2.CX P w) 3 Z.f__law_shuffled Z.fd__law_shuffled ["_law_store_here", "_law_row"] (spM K 2 true m__law_shuffled) := fn_ok Z.F__law_shuffled sc__law_shuffled rfl 5 rfl fun cdv A outer s H E hr => ⟨_,
    (dss_cons (ds_set 2 sc__law_shuffled.nd (de_listM K rfl Z.z_list (by decide +kernel) (da_cons (de_var 1) da_nil)))
    (dss_cons (ds_set 3 sc__law_shuffled.nd (de_lstM da_nil))
    (dss_cons (ds_for (passes_of rfl) rfl (di_r1 rfl Z.z_range (da_cons (de_callB (call_lenK K) sim_len rfl Z.z_len (by decide +kernel) (da_cons (de_var 1) da_nil)) da_nil)) (dg_name 4 sc__law_shuffled.nd) (dss_one (ds_expr (de_bm K PySem.F.plainAttrs_list PySem.F.slot_list_append PySem.F.type_list_append mt_append sim_append (de_var 3) (da_cons (de_bm K PySem.F.plainAttrs_list PySem.F.slot_list_pop PySem.F.type_list_pop mt_popAt sim_popAt (de_var 2) (da_cons (de_call K (ok__law_take Z) (takes_of rfl rfl rfl rfl) (hr.mono (by decide)) rfl Z.g__law_take Z.F__law_take.kp Z.b__law_take .nil (fun _ _ => rfl) (da_cons (de_var 0) (da_cons (de_callB (call_lenK K) sim_len rfl Z.z_len (by decide +kernel) (da_cons (de_var 2) da_nil)) da_nil))) da_nil)) da_nil)))))
    (dss_one (ds_ret (de_var 3))))))⟩
theorem ok__law_some (Z : Zs K mg) : FnOk P w K mg base (L2.CX P w) 3 Z.f__law_some Z.fd__law_some ["_law_store_here", "_law_row"] (spM K 2 true m__law_some) := fn_ok Z.F__law_some sc__law_some rfl 5 rfl fun cdv A outer s H E hr => ⟨_,
    (dss_cons (ds_set 2 sc__law_some.nd (de_call K (ok__law_take Z) (takes_of rfl rfl rfl rfl) (hr.mono (by decide)) rfl Z.g__law_take Z.F__law_take.kp Z.b__law_take .nil (fun _ _ => rfl) (da_cons (de_var 0) (da_cons de_int da_nil))))
    (dss_cons (ds_if (dt_cmp (op_eqK K hr) sim_eq (de_var 2) de_int (nomark _)) (dss_one (ds_ret (de_listM K rfl Z.z_list (by decide +kernel) (da_cons (de_var 1) da_nil)))) dss_nil)
    (dss_cons (ds_if (dt_cmp (op_eqK K hr) sim_eq (de_var 2) de_int (nomark _)) (dss_one (ds_ret (de_lstM da_nil))) dss_nil)
    (dss_cons (ds_set 3 sc__law_some.nd (de_lstM da_nil))
    (dss_cons (ds_for (passes_of rfl) rfl (di_sq K (de_var 1)) (dg_name 4 sc__law_some.nd) (dss_one (ds_if (dt_cmp (op_eqK K hr) sim_eq (de_call K (ok__law_take Z) (takes_of rfl rfl rfl rfl) (hr.mono (by decide)) rfl Z.g__law_take Z.F__law_take.kp Z.b__law_take .nil (fun _ _ => rfl) (da_cons (de_var 0) (da_cons de_int da_nil))) de_int (nomark _)) (dss_one (ds_expr (de_bm K PySem.F.plainAttrs_list PySem.F.slot_list_append PySem.F.type_list_append mt_append sim_append (de_var 3) (da_cons (de_var 4) da_nil)))) dss_nil)))
    (dss_one (ds_ret (de_var 3))))))))⟩
theorem ok__law_beside (Z : Zs K mg) : FnOk P w K mg base (L2.CX P w) 4 Z.f__law_beside Z.fd__law_beside ["_law_store_here", "_law_pairs"] (spM K 2 true m__law_beside) := fn_ok Z.F__law_beside sc__law_beside rfl 7 rfl fun cdv A outer s H E hr => ⟨_,
    (dss_cons (ds_set 2 sc__law_beside.nd (de_op op_mulA sim_mul (de_op op_mulA sim_mul (de_op op_pow (sim_I fun _ _ _ _ => rfl) de_int de_int) (de_op op_pow (sim_I fun _ _ _ _ => rfl) de_int de_int)) de_int))
    (dss_cons (ds_set 3 sc__law_beside.nd (de_lstM da_nil))
    (dss_cons (ds_for (passes_of rfl) rfl (di_sq K (de_call K (ok__law_some Z) (takes_of rfl rfl rfl rfl) (hr.mono (by decide)) rfl Z.g__law_some Z.F__law_some.kp Z.b__law_some .nil (fun _ _ => rfl) (da_cons (de_var 0) (da_cons (de_var 1) da_nil)))) (dg_name 4 sc__law_beside.nd) (dss_cons (ds_set 5 sc__law_beside.nd (de_op op_sub (sim_I0 fun _ _ _ _ => rfl) (de_op (op_addK K) sim_add (de_ix K (de_var 4) de_int) (de_call K (ok__law_take Z) (takes_of rfl rfl rfl rfl) (hr.mono (by decide)) rfl Z.g__law_take Z.F__law_take.kp Z.b__law_take .nil (fun _ _ => rfl) (da_cons (de_var 0) (da_cons de_int da_nil)))) de_int))
    (dss_cons (ds_set 6 sc__law_beside.nd (de_op op_sub (sim_I0 fun _ _ _ _ => rfl) (de_op (op_addK K) sim_add (de_ix K (de_var 4) de_int) (de_call K (ok__law_take Z) (takes_of rfl rfl rfl rfl) (hr.mono (by decide)) rfl Z.g__law_take Z.F__law_take.kp Z.b__law_take .nil (fun _ _ => rfl) (da_cons (de_var 0) (da_cons de_int da_nil)))) de_int))
    (dss_one (ds_expr (de_bm K PySem.F.plainAttrs_list PySem.F.slot_list_append PySem.F.type_list_append mt_append sim_append (de_var 3) (da_cons (de_tup (da_cons (de_call K (ok__law_clamp Z) (takes_of rfl rfl rfl rfl) (hr.mono (by decide)) rfl Z.g__law_clamp Z.F__law_clamp.kp Z.b__law_clamp .nil (fun _ _ => rfl) (da_cons (de_var 5) (da_cons (de_neg (de_var 2)) (da_cons (de_var 2) da_nil)))) (da_cons (de_call K (ok__law_clamp Z) (takes_of rfl rfl rfl rfl) (hr.mono (by decide)) rfl Z.g__law_clamp Z.F__law_clamp.kp Z.b__law_clamp .nil (fun _ _ => rfl) (da_cons (de_var 6) (da_cons (de_neg (de_var 2)) (da_cons (de_var 2) da_nil)))) da_nil))) da_nil)))))))
    (dss_one (ds_ret (de_callM K (ok__law_shuffled Z) (takes_of rfl rfl rfl rfl) (hr.mono (by decide)) rfl Z.g__law_shuffled Z.F__law_shuffled.kp Z.b__law_shuffled .nil (fun _ _ => rfl) (da_cons (de_var 0) (da_cons (de_var 3) da_nil))))))))⟩
theorem ok__law_mark (Z : Zs K mg) : FnOk P w K mg base (L2.CX P w) 1 Z.f__law_mark Z.fd__law_mark ["_law_steps", "_law_pairs", "_law_side"] (spM K 3 false m__law_mark) := fn_ok Z.F__law_mark sc__law_mark rfl 7 rfl fun cdv A outer s H E hr => ⟨_,
    (dss_one (ds_for (passes_of rfl) rfl (di_sq K (de_var 1)) (dg_name 3 sc__law_mark.nd) (dss_one (ds_if (dt_cmp op_le (sim_I0 fun _ _ _ _ => rfl) (de_ix K (de_var 3) de_int) (de_ix K (de_var 3) de_int) (nomark _)) (dss_one (ds_for (passes_of rfl) rfl (di_sq K (de_tup (da_cons (de_tup (da_cons (de_ix K (de_var 3) de_int) (da_cons de_int da_nil))) (da_cons (de_tup (da_cons (de_op (op_addK K) sim_add (de_ix K (de_var 3) de_int) de_int) (da_cons (de_neg de_int) da_nil))) da_nil)))) (dg_tup K rfl (dgs_cons (dg_name 4 sc__law_mark.nd) (dgs_cons (dg_name 5 sc__law_mark.nd) dgs_nil))) (dss_cons (ds_set 6 sc__law_mark.nd (de_dsetdG (de_var 0) (de_var 4) (de_lstM (da_cons de_int (da_cons de_int da_nil)))))
    (dss_one (ds_asg (de_op (op_addK K) sim_add (de_ix K (de_var 6) (de_var 2)) (de_var 5)) (dg_sbG (W := W00) (de_var 6) (de_var 2))))))) dss_nil))))⟩
theorem ok__law_stretches (Z : Zs K mg) : FnOk P w K mg base (L2.CX P w) 2 Z.f__law_stretches Z.fd__law_stretches ["_law_one", "_law_two"] (spM K 2 true m__law_stretches) := fn_ok Z.F__law_stretches sc__law_stretches rfl 7 rfl fun cdv A outer s H E hr => ⟨_,
    (dss_cons (ds_set 2 sc__law_stretches.nd de_dnewG)
    (dss_cons (ds_expr (de_call K (ok__law_mark Z) (takes_of rfl rfl rfl rfl) (hr.mono (by decide)) rfl Z.g__law_mark Z.F__law_mark.kp Z.b__law_mark .nil (fun _ _ => rfl) (da_cons (de_var 2) (da_cons (de_var 0) (da_cons de_int da_nil)))))
    (dss_cons (ds_expr (de_call K (ok__law_mark Z) (takes_of rfl rfl rfl rfl) (hr.mono (by decide)) rfl Z.g__law_mark Z.F__law_mark.kp Z.b__law_mark .nil (fun _ _ => rfl) (da_cons (de_var 2) (da_cons (de_var 1) (da_cons de_int da_nil)))))
    (dss_cons (ds_set 3 sc__law_stretches.nd (de_callB (call_sorted K hr) sim_sort rfl Z.z_sorted (by decide +kernel) (da_cons (de_listKG rfl rfl Z.z_list (de_var 2)) da_nil)))
    (dss_cons (ds_set 4 sc__law_stretches.nd (de_lst (da_cons de_int (da_cons de_int da_nil))))
    (dss_cons (ds_set 5 sc__law_stretches.nd (de_lstM da_nil))
    (dss_cons (ds_for (passes_of rfl) rfl (di_r1 rfl Z.z_range (da_cons (de_op op_sub (sim_I0 fun _ _ _ _ => rfl) (de_callB (call_lenK K) sim_len rfl Z.z_len (by decide +kernel) (da_cons (de_var 3) da_nil)) de_int) da_nil)) (dg_name 6 sc__law_stretches.nd) (dss_cons (ds_set 4 sc__law_stretches.nd (de_lst (da_cons (de_op (op_addK K) sim_add (de_ix K (de_var 4) de_int) (de_ix K (de_dgetG (u1 hr) (de_var 2) (de_ix K (de_var 3) (de_var 6))) de_int)) (da_cons (de_op (op_addK K) sim_add (de_ix K (de_var 4) de_int) (de_ix K (de_dgetG (u1 hr) (de_var 2) (de_ix K (de_var 3) (de_var 6))) de_int)) da_nil))))
    (dss_one (ds_expr (de_bm K PySem.F.plainAttrs_list PySem.F.slot_list_append PySem.F.type_list_append mt_append sim_append (de_var 5) (da_cons (de_tup (da_cons (de_ix K (de_var 3) (de_var 6)) (da_cons (de_op op_sub (sim_I0 fun _ _ _ _ => rfl) (de_ix K (de_var 3) (de_op (op_addK K) sim_add (de_var 6) de_int)) de_int) (da_cons (de_cmp op_gt (sim_I0 fun _ _ _ _ => rfl) (de_ix K (de_var 4) de_int) de_int (nomark _)) (da_cons (de_cmp op_gt (sim_I0 fun _ _ _ _ => rfl) (de_ix K (de_var 4) de_int) de_int (nomark _)) da_nil))))) da_nil))))))
    (dss_one (ds_ret (de_var 5))))))))))⟩
theorem ok__law_chosen (Z : Zs K mg) : FnOk P w K mg base (L2.CX P w) 1 Z.f__law_chosen Z.fd__law_chosen ["_law_rows", "_law_deed"] (spM K 2 false m__law_chosen) := fn_ok Z.F__law_chosen sc__law_chosen rfl 8 rfl fun cdv A outer s H E hr => ⟨_,
    (dss_cons (ds_set 2 sc__law_chosen.nd (de_lstM da_nil))
    (dss_cons (ds_for (passes_of rfl) rfl (di_sq K (de_var 0)) (dg_tup K rfl (dgs_cons (dg_name 3 sc__law_chosen.nd) (dgs_cons (dg_name 4 sc__law_chosen.nd) (dgs_cons (dg_name 5 sc__law_chosen.nd) (dgs_cons (dg_name 6 sc__law_chosen.nd) dgs_nil))))) (dss_cons (ds_set 7 sc__law_chosen.nd (de_and (de_var 5) (de_one (de_var 6))))
    (dss_cons (ds_if (dt_cmp (op_eqK K hr) sim_eq (de_var 1) de_str (nomark _)) (dss_one (ds_set 7 sc__law_chosen.nd (de_or (de_var 5) (de_one (de_var 6))))) dss_nil)
    (dss_cons (ds_if (dt_cmp (op_eqK K hr) sim_eq (de_var 1) de_str (nomark _)) (dss_one (ds_set 7 sc__law_chosen.nd (de_and (de_var 5) (de_one (de_not (de_var 6)))))) dss_nil)
    (dss_cons (ds_if (dt_cmp (op_eqK K hr) sim_eq (de_var 1) de_str (nomark _)) (dss_one (ds_set 7 sc__law_chosen.nd (de_var 5))) dss_nil)
    (dss_cons (ds_if (dt_cmp (op_eqK K hr) sim_eq (de_var 1) de_str (nomark _)) (dss_one (ds_set 7 sc__law_chosen.nd (de_var 6))) dss_nil)
    (dss_one (ds_if (dt_w (dw_and (dt_val (de_var 7)) (dw_and (dt_cmp op_gt (sim_I0 fun _ _ _ _ => rfl) (de_callB (call_lenK K) sim_len rfl Z.z_len (by decide +kernel) (da_cons (de_var 2) da_nil)) de_int (nomark _)) (dw_and1 (dt_cmp (op_eqK K hr) sim_eq (de_op (op_addK K) sim_add (de_ix K (de_ix K (de_var 2) (de_neg de_int)) de_int) de_int) (de_var 3) (nomark _)))))) (dss_one (ds_asg (de_tup (da_cons (de_ix K (de_ix K (de_var 2) (de_neg de_int)) de_int) (da_cons (de_var 4) da_nil))) (dg_sb (W := W00) (de_var 2) (de_neg de_int)))) (dss_one (ds_if (dt_val (de_var 7)) (dss_one (ds_expr (de_bm K PySem.F.plainAttrs_list PySem.F.slot_list_append PySem.F.type_list_append mt_append sim_append (de_var 2) (da_cons (de_tup (da_cons (de_var 3) (da_cons (de_var 4) da_nil))) da_nil)))) dss_nil))))))))))
    (dss_one (ds_ret (de_callTy (call_tupleK K) sim_tuple rfl Z.z_tuple (by decide +kernel) (da_cons (de_var 2) da_nil))))))⟩
theorem ok__law_within (Z : Zs K mg) : FnOk P w K mg base (L2.CX P w) 1 Z.f__law_within Z.fd__law_within ["_law_pairs", "_law_number"] (spM K 2 false m__law_within) := fn_ok Z.F__law_within sc__law_within rfl 3 rfl fun cdv A outer s H E hr => ⟨_,
    (dss_cons (ds_for (passes_of rfl) rfl (di_sq K (de_var 0)) (dg_name 2 sc__law_within.nd) (dss_one (ds_if (dt_w (dw_and (dt_cmp op_le (sim_I0 fun _ _ _ _ => rfl) (de_ix K (de_var 2) de_int) (de_var 1) (nomark _)) (dw_and1 (dt_cmp op_le (sim_I0 fun _ _ _ _ => rfl) (de_var 1) (de_ix K (de_var 2) de_int) (nomark _))))) (dss_one (ds_ret de_bl)) dss_nil)))
    (dss_one (ds_ret de_bl)))⟩
theorem ok__law_members (Z : Zs K mg) : FnOk P w K mg base (L2.CX P w) 1 Z.f__law_members Z.fd__law_members ["_law_pairs"] (spM K 1 false m__law_members) := fn_ok Z.F__law_members sc__law_members rfl 3 rfl fun cdv A outer s H E hr => ⟨_,
    (dss_cons (ds_set 1 sc__law_members.nd de_int)
    (dss_cons (ds_for (passes_of rfl) rfl (di_sq K (de_var 0)) (dg_name 2 sc__law_members.nd) (dss_one (ds_set 1 sc__law_members.nd (de_op (op_addK K) sim_add (de_op op_sub (sim_I0 fun _ _ _ _ => rfl) (de_op (op_addK K) sim_add (de_var 1) (de_ix K (de_var 2) de_int)) (de_ix K (de_var 2) de_int)) de_int))))
    (dss_one (ds_ret (de_var 1)))))⟩
theorem ok_Ranges_pairs (Z : Zs K mg) : FnOk P w K mg base (L2.CX P w) 1 Z.f_Ranges_pairs Z.fd_Ranges_pairs ["self"] (spM K 1 false m_Ranges_pairs) := fn_ok Z.F_Ranges_pairs sc_Ranges_pairs rfl 1 rfl fun cdv A outer s H E hr => ⟨_,
    (dss_one (ds_ret (de_fldO K (f := "spans") Z.c_Ranges Z.na_Ranges_spans (de_var 0))))⟩
theorem ok_Ranges_many (Z : Zs K mg) : FnOk P w K mg base (L2.CX P w) 1 Z.f_Ranges_many Z.fd_Ranges_many ["self"] (spM K 1 false m_Ranges_many) := fn_ok Z.F_Ranges_many sc_Ranges_many rfl 3 rfl fun cdv A outer s H E hr => ⟨_,
    (dss_one (ds_ret (de_callB (call_sumK K rfl) sim_sum rfl Z.z_sum (by decide +kernel) (da_cons (de_lc (vs := [1, 2]) [("low", 1), ("high", 2)] rfl rfl sc_Ranges_many.nd (di_sq K (de_fldO K (f := "spans") Z.c_Ranges Z.na_Ranges_spans (de_var 0))) (blkOk_by (N := n_Ranges_many) (sc := defScope s_Ranges_many) (by decide +kernel)) (fun _ _ _ _ _ => (dg_tup K rfl (dgs_cons (dg_name 1 sc_Ranges_many.nd) (dgs_cons (dg_name 2 sc_Ranges_many.nd) dgs_nil)))) (fun _ _ _ _ _ => pts_nil) sim_yes (fun _ _ _ _ _ => (de_op (op_addK K) sim_add (de_op op_sub (sim_I0 fun _ _ _ _ => rfl) (de_var 2) (de_var 1)) de_int)) (by decide)) da_nil))))⟩
theorem ok_Ranges___contains__ (Z : Zs K mg) : FnOk P w K mg base (L2.CX P w) 1 Z.f_Ranges___contains__ Z.fd_Ranges___contains__ ["self", "n"] (spM K 2 false m_Ranges___contains__) := fn_ok Z.F_Ranges___contains__ sc_Ranges___contains__ rfl 4 rfl fun cdv A outer s H E hr => ⟨_,
    (dss_one (ds_ret (de_callB (call_any K rfl) sim_q rfl Z.z_any (by decide +kernel) (da_cons (de_lc (vs := [2, 3]) [("low", 2), ("high", 3)] rfl rfl sc_Ranges___contains__.nd (di_sq K (de_fldO K (f := "spans") Z.c_Ranges Z.na_Ranges_spans (de_var 0))) (blkOk_by (N := n_Ranges___contains__) (sc := defScope s_Ranges___contains__) (by decide +kernel)) (fun _ _ _ _ _ => (dg_tup K rfl (dgs_cons (dg_name 2 sc_Ranges___contains__.nd) (dgs_cons (dg_name 3 sc_Ranges___contains__.nd) dgs_nil)))) (fun _ _ _ _ _ => pts_nil) sim_yes (fun _ _ _ _ _ => (de_chain op_le (sim_I0 fun _ _ _ _ => rfl) op_le (sim_I0 fun _ _ _ _ => rfl) (de_var 2) (de_var 1) (de_var 3))) (by decide)) da_nil))))⟩
theorem ok__law_is_right (Z : Zs K mg) : FnOk P w K mg base (L2.CX P w) 6 Z.f__law_is_right Z.fd__law_is_right ["_law_told", "_law_due", "_law_probes"] (spM K 3 false m__law_is_right) := fn_ok Z.F__law_is_right sc__law_is_right rfl 5 rfl fun cdv A outer s H E hr => ⟨_,
    (dss_cons (ds_if (dt_w (dw_or (dt_not (dt_val (de_call K (ok__law_equal Z 4) (takes_of rfl rfl rfl rfl) (hr.mono (by decide)) rfl Z.g__law_equal Z.F__law_equal.kp Z.b__law_equal .nil (fun _ _ => rfl) (da_cons (de_propO K Z.c_Ranges Z.p_Ranges_pairs (ok_Ranges_pairs Z) (hr.mono (by decide)) Z.b_Ranges_pairs (de_var 0)) (da_cons (de_var 1) da_nil))))) (dw_or1 (dt_not (dt_val (de_call K (ok__law_equal Z 4) (takes_of rfl rfl rfl rfl) (hr.mono (by decide)) rfl Z.g__law_equal Z.F__law_equal.kp Z.b__law_equal .nil (fun _ _ => rfl) (da_cons (de_lc (vs := [3]) [("_law_pair", 3)] rfl rfl sc__law_is_right.nd (di_own K (F := "spans") (itc_Ranges Z) (hr.mono (by decide)) (de_var 0)) (blkOk_by (N := n__law_is_right) (sc := defScope s__law_is_right) (by decide +kernel)) (fun _ _ _ _ _ => (dg_name 3 sc__law_is_right.nd)) (fun _ _ _ _ _ => pts_nil) sim_yes (fun _ _ _ _ _ => (de_var 3)) (by decide)) (da_cons (de_callTy (call_listK K) sim_list rfl Z.z_list (by decide +kernel) (da_cons (de_var 1) da_nil)) da_nil)))))))) (dss_one (ds_ret de_bl)) dss_nil)
    (dss_cons (ds_if (dt_not (dt_val (de_call K (ok__law_equal Z 4) (takes_of rfl rfl rfl rfl) (hr.mono (by decide)) rfl Z.g__law_equal Z.F__law_equal.kp Z.b__law_equal .nil (fun _ _ => rfl) (da_cons (de_propO K Z.c_Ranges Z.p_Ranges_many (ok_Ranges_many Z) (hr.mono (by decide)) Z.b_Ranges_many (de_var 0)) (da_cons (de_call K (ok__law_members Z) (takes_of rfl rfl rfl rfl) (hr.mono (by decide)) rfl Z.g__law_members Z.F__law_members.kp Z.b__law_members .nil (fun _ _ => rfl) (da_cons (de_var 1) da_nil)) da_nil))))) (dss_one (ds_ret de_bl)) dss_nil)
    (dss_cons (ds_for (passes_of rfl) rfl (di_sq K (de_var 2)) (dg_name 4 sc__law_is_right.nd) (dss_one (ds_if (dt_cmp (op_neK K hr) sim_ne (de_dunI K Z.me_Ranges___contains__ (ok_Ranges___contains__ Z) (hr.mono (by decide)) Z.b_Ranges___contains__ (de_var 4) (de_var 0)) (de_call K (ok__law_within Z) (takes_of rfl rfl rfl rfl) (hr.mono (by decide)) rfl Z.g__law_within Z.F__law_within.kp Z.b__law_within .nil (fun _ _ => rfl) (da_cons (de_var 1) (da_cons (de_var 4) da_nil))) (nomark _)) (dss_one (ds_ret de_bl)) dss_nil)))
    (dss_one (ds_ret de_bl)))))⟩
theorem ok_shared (Z : Zs K mg) : FnOk P w K mg base (L2.CX P w) 1 Z.f_shared Z.fd_shared ["first", "second"] (spM K 2 true m_shared) := fn_ok Z.F_shared sc_shared rfl 7 rfl fun cdv A outer s H E hr => ⟨_,
    (dss_cons (ds_set 2 sc_shared.nd (de_lstM da_nil))
    (dss_cons (ds_set 3 sc_shared.nd de_int)
    (dss_cons (ds_set 4 sc_shared.nd de_int)
    (dss_cons (ds_while (passes_of rfl) (dt_w (dw_and (dt_cmp op_lt (sim_I0 fun _ _ _ _ => rfl) (de_var 3) (de_callB (call_lenK K) sim_len rfl Z.z_len (by decide +kernel) (da_cons (de_var 0) da_nil)) (nomark _)) (dw_and1 (dt_cmp op_lt (sim_I0 fun _ _ _ _ => rfl) (de_var 4) (de_callB (call_lenK K) sim_len rfl Z.z_len (by decide +kernel) (da_cons (de_var 1) da_nil)) (nomark _))))) (dss_cons (ds_set 5 sc_shared.nd (de_callB (call_max2 rfl) (sim_MM (g := (fun i j => if j > i then j else i))) rfl Z.z_max (by decide +kernel) (da_cons (de_ix K (de_ix K (de_var 0) (de_var 3)) de_int) (da_cons (de_ix K (de_ix K (de_var 1) (de_var 4)) de_int) da_nil))))
    (dss_cons (ds_set 6 sc_shared.nd (de_callB (call_min2 rfl) (sim_MM (g := (fun i j => if j < i then j else i))) rfl Z.z_min (by decide +kernel) (da_cons (de_ix K (de_ix K (de_var 0) (de_var 3)) de_int) (da_cons (de_ix K (de_ix K (de_var 1) (de_var 4)) de_int) da_nil))))
    (dss_cons (ds_if (dt_cmp op_le (sim_I0 fun _ _ _ _ => rfl) (de_var 5) (de_var 6) (nomark _)) (dss_one (ds_expr (de_bm K PySem.F.plainAttrs_list PySem.F.slot_list_append PySem.F.type_list_append mt_append sim_append (de_var 2) (da_cons (de_tup (da_cons (de_var 5) (da_cons (de_var 6) da_nil))) da_nil)))) dss_nil)
    (dss_one (ds_if (dt_cmp op_lt (sim_I0 fun _ _ _ _ => rfl) (de_ix K (de_ix K (de_var 0) (de_var 3)) de_int) (de_ix K (de_ix K (de_var 1) (de_var 4)) de_int) (nomark _)) (dss_one (ds_aug 3 sc_shared.nd de_int ip_add)) (dss_one (ds_aug 4 sc_shared.nd de_int ip_add))))))))
    (dss_one (ds_ret (de_var 2)))))))⟩
theorem ok_merged (Z : Zs K mg) : FnOk P w K mg base (L2.CX P w) 1 Z.f_merged Z.fd_merged ["pairs"] (spM K 1 false m_merged) := fn_ok Z.F_merged sc_merged rfl 5 rfl fun cdv A outer s H E hr => ⟨_,
    (dss_cons (ds_set 1 sc_merged.nd (de_lstM da_nil))
    (dss_cons (ds_for (passes_of rfl) rfl (di_sq K (de_callB (call_sorted K hr) sim_sort rfl Z.z_sorted (by decide +kernel) (da_cons (de_lci (vs := [4]) [("pair", 4)] rfl rfl sc_merged.nd (di_sq K (de_var 0)) (blkOk_by (N := n_merged) (sc := defScope s_merged) (by decide +kernel)) (fun _ _ _ _ _ => (dg_name 4 sc_merged.nd)) (fun _ _ _ _ _ => (dt_cmp op_le (sim_I0 fun _ _ _ _ => rfl) (de_ix K (de_var 4) de_int) (de_ix K (de_var 4) de_int) (nomark _))) (fun _ _ _ _ _ => (de_var 4)) (by decide)) da_nil))) (dg_tup K rfl (dgs_cons (dg_name 2 sc_merged.nd) (dgs_cons (dg_name 3 sc_merged.nd) dgs_nil))) (dss_one (ds_if (dt_w (dw_and (dt_tru K (de_var 1)) (dw_and1 (dt_cmp op_le (sim_I0 fun _ _ _ _ => rfl) (de_var 2) (de_op (op_addK K) sim_add (de_ix K (de_ix K (de_var 1) (de_neg de_int)) de_int) de_int) (nomark _))))) (dss_one (ds_asg (de_tup (da_cons (de_ix K (de_ix K (de_var 1) (de_neg de_int)) de_int) (da_cons (de_callB (call_max2 rfl) (sim_MM (g := (fun i j => if j > i then j else i))) rfl Z.z_max (by decide +kernel) (da_cons (de_ix K (de_ix K (de_var 1) (de_neg de_int)) de_int) (da_cons (de_var 3) da_nil))) da_nil))) (dg_sb (W := W00) (de_var 1) (de_neg de_int)))) (dss_one (ds_expr (de_bm K PySem.F.plainAttrs_list PySem.F.slot_list_append PySem.F.type_list_append mt_append sim_append (de_var 1) (da_cons (de_tup (da_cons (de_var 2) (da_cons (de_var 3) da_nil))) da_nil)))))))
    (dss_one (ds_ret (de_callTy (call_tupleK K) sim_tuple rfl Z.z_tuple (by decide +kernel) (da_cons (de_var 1) da_nil))))))⟩
theorem ok_Ranges___init__ (Z : Zs K mg) : FnOk P w K mg base (L2.CX P w) 2 Z.f_Ranges___init__ Z.fd_Ranges___init__ ["self", "pairs"] (spM K 2 false m_Ranges___init__) := fn_ok Z.F_Ranges___init__ sc_Ranges___init__ rfl 2 rfl fun cdv A outer s H E hr => ⟨_,
    (dss_one (ds_setF K (f := "spans") Z.c_Ranges Z.na_Ranges_spans (de_var 0) (de_call K (ok_merged Z) (takes_of rfl rfl rfl rfl) (hr.mono (by decide)) rfl Z.g_merged Z.F_merged.kp Z.b_merged .nil (fun _ _ => rfl) (da_cons (de_var 1) da_nil)) rfl))⟩
theorem ok_Ranges___and__ (Z : Zs K mg) : FnOk P w K mg base (L2.CX P w) 4 Z.f_Ranges___and__ Z.fd_Ranges___and__ ["self", "other"] (spM K 2 false m_Ranges___and__) := fn_ok Z.F_Ranges___and__ sc_Ranges___and__ rfl 2 rfl fun cdv A outer s H E hr => ⟨_,
    (dss_one (ds_ret (de_makeO K Z.mk_Ranges (ok_Ranges___init__ Z) (hr.mono (by decide)) rfl Z.g_Ranges Z.b_Ranges___init___2.choose_spec.2 Z.b_Ranges___init___2.choose_spec.1 (fun _ _ => rfl) (da_cons (de_call K (ok_shared Z) (takes_of rfl rfl rfl rfl) (hr.mono (by decide)) rfl Z.g_shared Z.F_shared.kp Z.b_shared .nil (fun _ _ => rfl) (da_cons (de_fldO K (f := "spans") Z.c_Ranges Z.na_Ranges_spans (de_var 0)) (da_cons (de_fldO K (f := "spans") Z.c_Ranges Z.na_Ranges_spans (de_var 1)) da_nil))) da_nil))))⟩
theorem ok_Ranges___or__ (Z : Zs K mg) : FnOk P w K mg base (L2.CX P w) 4 Z.f_Ranges___or__ Z.fd_Ranges___or__ ["self", "other"] (spM K 2 false m_Ranges___or__) := fn_ok Z.F_Ranges___or__ sc_Ranges___or__ rfl 2 rfl fun cdv A outer s H E hr => ⟨_,
    (dss_one (ds_ret (de_makeO K Z.mk_Ranges (ok_Ranges___init__ Z) (hr.mono (by decide)) rfl Z.g_Ranges Z.b_Ranges___init___2.choose_spec.2 Z.b_Ranges___init___2.choose_spec.1 (fun _ _ => rfl) (da_cons (de_op (op_addK K) sim_add (de_fldO K (f := "spans") Z.c_Ranges Z.na_Ranges_spans (de_var 0)) (de_fldO K (f := "spans") Z.c_Ranges Z.na_Ranges_spans (de_var 1))) da_nil))))⟩
theorem ok_remaining (Z : Zs K mg) : FnOk P w K mg base (L2.CX P w) 1 Z.f_remaining Z.fd_remaining ["first", "second"] (spM K 2 true m_remaining) := fn_ok Z.F_remaining sc_remaining rfl 8 rfl fun cdv A outer s H E hr => ⟨_,
    (dss_cons (ds_set 2 sc_remaining.nd (de_lstM da_nil))
    (dss_cons (ds_set 3 sc_remaining.nd de_int)
    (dss_cons (ds_for (passes_of rfl) rfl (di_sq K (de_var 0)) (dg_tup K rfl (dgs_cons (dg_name 4 sc_remaining.nd) (dgs_cons (dg_name 5 sc_remaining.nd) dgs_nil))) (dss_cons (ds_while (passes_of rfl) (dt_w (dw_and (dt_cmp op_lt (sim_I0 fun _ _ _ _ => rfl) (de_var 3) (de_callB (call_lenK K) sim_len rfl Z.z_len (by decide +kernel) (da_cons (de_var 1) da_nil)) (nomark _)) (dw_and1 (dt_cmp op_lt (sim_I0 fun _ _ _ _ => rfl) (de_ix K (de_ix K (de_var 1) (de_var 3)) de_int) (de_var 4) (nomark _))))) (dss_one (ds_aug 3 sc_remaining.nd de_int ip_add)))
    (dss_cons (ds_set 6 sc_remaining.nd (de_var 4))
    (dss_cons (ds_set 7 sc_remaining.nd (de_var 3))
    (dss_cons (ds_while (passes_of rfl) (dt_w (dw_and (dt_cmp op_lt (sim_I0 fun _ _ _ _ => rfl) (de_var 7) (de_callB (call_lenK K) sim_len rfl Z.z_len (by decide +kernel) (da_cons (de_var 1) da_nil)) (nomark _)) (dw_and1 (dt_cmp op_le (sim_I0 fun _ _ _ _ => rfl) (de_ix K (de_ix K (de_var 1) (de_var 7)) de_int) (de_var 5) (nomark _))))) (dss_cons (ds_if (dt_cmp op_lt (sim_I0 fun _ _ _ _ => rfl) (de_var 6) (de_ix K (de_ix K (de_var 1) (de_var 7)) de_int) (nomark _)) (dss_one (ds_expr (de_bm K PySem.F.plainAttrs_list PySem.F.slot_list_append PySem.F.type_list_append mt_append sim_append (de_var 2) (da_cons (de_tup (da_cons (de_var 6) (da_cons (de_op op_sub (sim_I0 fun _ _ _ _ => rfl) (de_ix K (de_ix K (de_var 1) (de_var 7)) de_int) de_int) da_nil))) da_nil)))) dss_nil)
    (dss_cons (ds_set 6 sc_remaining.nd (de_op (op_addK K) sim_add (de_ix K (de_ix K (de_var 1) (de_var 7)) de_int) de_int))
    (dss_one (ds_aug 7 sc_remaining.nd de_int ip_add)))))
    (dss_one (ds_if (dt_cmp op_le (sim_I0 fun _ _ _ _ => rfl) (de_var 6) (de_var 5) (nomark _)) (dss_one (ds_expr (de_bm K PySem.F.plainAttrs_list PySem.F.slot_list_append PySem.F.type_list_append mt_append sim_append (de_var 2) (da_cons (de_tup (da_cons (de_var 6) (da_cons (de_var 5) da_nil))) da_nil)))) dss_nil)))))))
    (dss_one (ds_ret (de_var 2))))))⟩
theorem ok_Ranges___sub__ (Z : Zs K mg) : FnOk P w K mg base (L2.CX P w) 4 Z.f_Ranges___sub__ Z.fd_Ranges___sub__ ["self", "other"] (spM K 2 false m_Ranges___sub__) := fn_ok Z.F_Ranges___sub__ sc_Ranges___sub__ rfl 2 rfl fun cdv A outer s H E hr => ⟨_,
    (dss_one (ds_ret (de_makeO K Z.mk_Ranges (ok_Ranges___init__ Z) (hr.mono (by decide)) rfl Z.g_Ranges Z.b_Ranges___init___2.choose_spec.2 Z.b_Ranges___init___2.choose_spec.1 (fun _ _ => rfl) (da_cons (de_call K (ok_remaining Z) (takes_of rfl rfl rfl rfl) (hr.mono (by decide)) rfl Z.g_remaining Z.F_remaining.kp Z.b_remaining .nil (fun _ _ => rfl) (da_cons (de_fldO K (f := "spans") Z.c_Ranges Z.na_Ranges_spans (de_var 0)) (da_cons (de_fldO K (f := "spans") Z.c_Ranges Z.na_Ranges_spans (de_var 1)) da_nil))) da_nil))))⟩
theorem ok__law_all_right (Z : Zs K mg) : FnOk P w K mg base (L2.CX P w) 7 Z.f__law_all_right Z.fd__law_all_right ["_law_first", "_law_second", "_law_rows", "_law_probes"] (spM K 4 false m__law_all_right) := fn_ok Z.F__law_all_right sc__law_all_right rfl 7 rfl fun cdv A outer s H E hr => ⟨_,
    (dss_cons (ds_set 4 sc__law_all_right.nd (de_lst (da_cons (de_call K (ok__law_chosen Z) (takes_of rfl rfl rfl rfl) (hr.mono (by decide)) rfl Z.g__law_chosen Z.F__law_chosen.kp Z.b__law_chosen .nil (fun _ _ => rfl) (da_cons (de_var 2) (da_cons de_str da_nil))) (da_cons (de_call K (ok__law_chosen Z) (takes_of rfl rfl rfl rfl) (hr.mono (by decide)) rfl Z.g__law_chosen Z.F__law_chosen.kp Z.b__law_chosen .nil (fun _ _ => rfl) (da_cons (de_var 2) (da_cons de_str da_nil))) (da_cons (de_call K (ok__law_chosen Z) (takes_of rfl rfl rfl rfl) (hr.mono (by decide)) rfl Z.g__law_chosen Z.F__law_chosen.kp Z.b__law_chosen .nil (fun _ _ => rfl) (da_cons (de_var 2) (da_cons de_str da_nil))) (da_cons (de_call K (ok__law_chosen Z) (takes_of rfl rfl rfl rfl) (hr.mono (by decide)) rfl Z.g__law_chosen Z.F__law_chosen.kp Z.b__law_chosen .nil (fun _ _ => rfl) (da_cons (de_var 2) (da_cons de_str da_nil))) da_nil))))))
    (dss_cons (ds_set 5 sc__law_all_right.nd (de_lst (da_cons (de_var 0) (da_cons (de_var 1) (da_cons (de_dunB K Z.own_Ranges Z.me_Ranges___and__ (ok_Ranges___and__ Z) (hr.mono (by decide)) Z.b_Ranges___and__ (de_var 0) (de_var 1)) (da_cons (de_dunB K Z.own_Ranges Z.me_Ranges___or__ (ok_Ranges___or__ Z) (hr.mono (by decide)) Z.b_Ranges___or__ (de_var 0) (de_var 1)) da_nil))))))
    (dss_cons (ds_for (passes_of rfl) rfl (di_r1 rfl Z.z_range (da_cons de_int da_nil)) (dg_name 6 sc__law_all_right.nd) (dss_one (ds_if (dt_not (dt_val (de_call K (ok__law_is_right Z) (takes_of rfl rfl rfl rfl) (hr.mono (by decide)) rfl Z.g__law_is_right Z.F__law_is_right.kp Z.b__law_is_right .nil (fun _ _ => rfl) (da_cons (de_ix K (de_var 5) (de_var 6)) (da_cons (de_ix K (de_var 4) (de_var 6)) (da_cons (de_var 3) da_nil)))))) (dss_one (ds_ret de_bl)) dss_nil)))
    (dss_one (ds_ret (de_call K (ok__law_is_right Z) (takes_of rfl rfl rfl rfl) (hr.mono (by decide)) rfl Z.g__law_is_right Z.F__law_is_right.kp Z.b__law_is_right .nil (fun _ _ => rfl) (da_cons (de_dunB K Z.own_Ranges Z.me_Ranges___sub__ (ok_Ranges___sub__ Z) (hr.mono (by decide)) Z.b_Ranges___sub__ (de_var 0) (de_var 1)) (da_cons (de_call K (ok__law_chosen Z) (takes_of rfl rfl rfl rfl) (hr.mono (by decide)) rfl Z.g__law_chosen Z.F__law_chosen.kp Z.b__law_chosen .nil (fun _ _ => rfl) (da_cons (de_var 2) (da_cons de_str da_nil))) (da_cons (de_var 3) da_nil)))))))))⟩
theorem ok_Ranges___eq__ (Z : Zs K mg) : FnOk P w K mg base (L2.CX P w) 1 Z.f_Ranges___eq__ Z.fd_Ranges___eq__ ["self", "other"] (spM K 2 false m_Ranges___eq__) := fn_ok Z.F_Ranges___eq__ sc_Ranges___eq__ rfl 2 rfl fun cdv A outer s H E hr => ⟨_,
    (dss_one (ds_ret (de_and (de_isiO K Z.own_Ranges rfl Z.z_isinstance rfl Z.g_Ranges (de_var 1)) (de_one (de_cmp (op_eqK K hr) sim_eq (de_fldO K (f := "spans") Z.c_Ranges Z.na_Ranges_spans (de_var 0)) (de_fldO K (f := "spans") Z.c_Ranges Z.na_Ranges_spans (de_var 1)) (nomark _))))))⟩
theorem ok__law_equals_right (Z : Zs K mg) : FnOk P w K mg base (L2.CX P w) 6 Z.f__law_equals_right Z.fd__law_equals_right ["_law_first", "_law_second", "_law_rows"] (spM K 3 false m__law_equals_right) := fn_ok Z.F__law_equals_right sc__law_equals_right rfl 8 rfl fun cdv A outer s H E hr => ⟨_,
    (dss_cons (ds_set 3 sc__law_equals_right.nd (de_call K (ok__law_chosen Z) (takes_of rfl rfl rfl rfl) (hr.mono (by decide)) rfl Z.g__law_chosen Z.F__law_chosen.kp Z.b__law_chosen .nil (fun _ _ => rfl) (da_cons (de_var 2) (da_cons de_str da_nil))))
    (dss_cons (ds_set 4 sc__law_equals_right.nd (de_call K (ok__law_chosen Z) (takes_of rfl rfl rfl rfl) (hr.mono (by decide)) rfl Z.g__law_chosen Z.F__law_chosen.kp Z.b__law_chosen .nil (fun _ _ => rfl) (da_cons (de_var 2) (da_cons de_str da_nil))))
    (dss_cons (ds_set 5 sc__law_equals_right.nd (de_dunB K Z.own_Ranges Z.me_Ranges___and__ (ok_Ranges___and__ Z) (hr.mono (by decide)) Z.b_Ranges___and__ (de_var 0) (de_var 1)))
    (dss_cons (ds_set 6 sc__law_equals_right.nd (de_dunB K Z.own_Ranges Z.me_Ranges___sub__ (ok_Ranges___sub__ Z) (hr.mono (by decide)) Z.b_Ranges___sub__ (de_var 0) (de_var 1)))
    (dss_cons (ds_if (dt_w (dw_or (dt_not (dt_dunE K Z.own_Ranges Z.me_Ranges___eq__ (ok_Ranges___eq__ Z) (hr.mono (by decide)) Z.b_Ranges___eq__ (de_var 0) (de_makeO K Z.mk_Ranges (ok_Ranges___init__ Z) (hr.mono (by decide)) rfl Z.g_Ranges Z.b_Ranges___init___2.choose_spec.2 Z.b_Ranges___init___2.choose_spec.1 (fun _ _ => rfl) (da_cons (de_rev K (de_callTy (call_listK K) sim_list rfl Z.z_list (by decide +kernel) (da_cons (de_var 3) da_nil))) da_nil)))) (dw_or (dt_not (dt_dunE K Z.own_Ranges Z.me_Ranges___eq__ (ok_Ranges___eq__ Z) (hr.mono (by decide)) Z.b_Ranges___eq__ (de_var 0) (de_dunB K Z.own_Ranges Z.me_Ranges___or__ (ok_Ranges___or__ Z) (hr.mono (by decide)) Z.b_Ranges___or__ (de_var 6) (de_var 5)))) (dw_or1 (dt_not (dt_dunE K Z.own_Ranges Z.me_Ranges___eq__ (ok_Ranges___eq__ Z) (hr.mono (by decide)) Z.b_Ranges___eq__ (de_var 5) (de_dunB K Z.own_Ranges Z.me_Ranges___and__ (ok_Ranges___and__ Z) (hr.mono (by decide)) Z.b_Ranges___and__ (de_var 1) (de_var 0)))))))) (dss_one (ds_ret de_bl)) dss_nil)
    (dss_cons (ds_if (dt_w (dw_or (dt_cmp (op_neK K hr) sim_ne (de_dunE K Z.own_Ranges Z.me_Ranges___eq__ (ok_Ranges___eq__ Z) (hr.mono (by decide)) Z.b_Ranges___eq__ (de_var 0) (de_var 1)) (de_call K (ok__law_equal Z 4) (takes_of rfl rfl rfl rfl) (hr.mono (by decide)) rfl Z.g__law_equal Z.F__law_equal.kp Z.b__law_equal .nil (fun _ _ => rfl) (da_cons (de_var 3) (da_cons (de_var 4) da_nil))) (nomark _)) (dw_or1 (dt_cmp (op_neK K hr) sim_ne (de_dunE K Z.own_Ranges Z.me_Ranges___eq__ (ok_Ranges___eq__ Z) (hr.mono (by decide)) Z.b_Ranges___eq__ (de_var 6) (de_var 0)) (de_cmp (op_eqK K hr) sim_eq (de_callB (call_lenK K) sim_len rfl Z.z_len (by decide +kernel) (da_cons (de_call K (ok__law_chosen Z) (takes_of rfl rfl rfl rfl) (hr.mono (by decide)) rfl Z.g__law_chosen Z.F__law_chosen.kp Z.b__law_chosen .nil (fun _ _ => rfl) (da_cons (de_var 2) (da_cons de_str da_nil))) da_nil)) de_int (nomark _)) (nomark _))))) (dss_one (ds_ret de_bl)) dss_nil)
    (dss_cons (ds_set 7 sc__law_equals_right.nd (de_op op_sub (sim_I0 fun _ _ _ _ => rfl) (de_op op_mulA sim_mul (de_op op_mulA sim_mul (de_op op_pow (sim_I fun _ _ _ _ => rfl) de_int de_int) (de_op op_pow (sim_I fun _ _ _ _ => rfl) de_int de_int)) de_int) de_int))
    (dss_cons (ds_if (dt_cmp (op_neK K hr) sim_ne (de_dunE K Z.own_Ranges Z.me_Ranges___eq__ (ok_Ranges___eq__ Z) (hr.mono (by decide)) Z.b_Ranges___eq__ (de_var 0) (de_dunB K Z.own_Ranges Z.me_Ranges___or__ (ok_Ranges___or__ Z) (hr.mono (by decide)) Z.b_Ranges___or__ (de_var 0) (de_makeO K Z.mk_Ranges (ok_Ranges___init__ Z) (hr.mono (by decide)) rfl Z.g_Ranges Z.b_Ranges___init___2.choose_spec.2 Z.b_Ranges___init___2.choose_spec.1 (fun _ _ => rfl) (da_cons (de_lst (da_cons (de_tup (da_cons (de_var 7) (da_cons (de_var 7) da_nil))) da_nil)) da_nil)))) (de_call K (ok__law_within Z) (takes_of rfl rfl rfl rfl) (hr.mono (by decide)) rfl Z.g__law_within Z.F__law_within.kp Z.b__law_within .nil (fun _ _ => rfl) (da_cons (de_var 3) (da_cons (de_var 7) da_nil))) (nomark _)) (dss_one (ds_ret de_bl)) dss_nil)
    (dss_one (ds_ret (de_and (de_not (de_dunE K Z.own_Ranges Z.me_Ranges___eq__ (ok_Ranges___eq__ Z) (hr.mono (by decide)) Z.b_Ranges___eq__ (de_var 0) de_int)) (de_and (de_not (de_dunE K Z.own_Ranges Z.me_Ranges___eq__ (ok_Ranges___eq__ Z) (hr.mono (by decide)) Z.b_Ranges___eq__ (de_var 0) (de_var 3))) (de_and (de_not (de_dunE K Z.own_Ranges Z.me_Ranges___eq__ (ok_Ranges___eq__ Z) (hr.mono (by decide)) Z.b_Ranges___eq__ (de_var 0) (de_callTy (call_listK K) sim_list rfl Z.z_list (by decide +kernel) (da_cons (de_var 3) da_nil)))) (de_one (de_not (de_dunE K Z.own_Ranges Z.me_Ranges___eq__ (ok_Ranges___eq__ Z) (hr.mono (by decide)) Z.b_Ranges___eq__ (de_var 0) de_str))))))))))))))))⟩
theorem ok_law (Z : Zs K mg) : FnOk P w K mg base (L2.CX P w) 8 Z.f_law Z.fd_law ["_law_script"] (spM K 1 false m_law) := fn_ok Z.F_law sc_law rfl 17 rfl fun cdv A outer s H E hr => ⟨_,
    (dss_cons (ds_set 1 sc_law.nd (de_call K (ok__law_store Z) (takes_of rfl rfl rfl rfl) (hr.mono (by decide)) rfl Z.g__law_store Z.F__law_store.kp Z.b__law_store .nil (fun _ _ => rfl) (da_cons (de_var 0) da_nil)))
    (dss_cons (ds_set 2 sc_law.nd (de_op op_mulA sim_mul (de_op op_mulA sim_mul (de_op op_pow (sim_I fun _ _ _ _ => rfl) de_int de_int) (de_op op_pow (sim_I fun _ _ _ _ => rfl) de_int de_int)) de_int))
    (dss_cons (ds_set 3 sc_law.nd (de_call K (ok__law_some_pairs Z) (takes_of rfl rfl rfl rfl) (hr.mono (by decide)) rfl Z.g__law_some_pairs Z.F__law_some_pairs.kp Z.b__law_some_pairs .nil (fun _ _ => rfl) (da_cons (de_var 1) da_nil)))
    (dss_cons (ds_set 4 sc_law.nd (de_call K (ok__law_some_pairs Z) (takes_of rfl rfl rfl rfl) (hr.mono (by decide)) rfl Z.g__law_some_pairs Z.F__law_some_pairs.kp Z.b__law_some_pairs .nil (fun _ _ => rfl) (da_cons (de_var 1) da_nil)))
    (dss_cons (ds_if (dt_cmp (op_eqK K hr) sim_eq (de_call K (ok__law_take Z) (takes_of rfl rfl rfl rfl) (hr.mono (by decide)) rfl Z.g__law_take Z.F__law_take.kp Z.b__law_take .nil (fun _ _ => rfl) (da_cons (de_var 1) (da_cons de_int da_nil))) de_int (nomark _)) (dss_one (ds_set 4 sc_law.nd (de_call K (ok__law_beside Z) (takes_of rfl rfl rfl rfl) (hr.mono (by decide)) rfl Z.g__law_beside Z.F__law_beside.kp Z.b__law_beside .nil (fun _ _ => rfl) (da_cons (de_var 1) (da_cons (de_var 3) da_nil))))) dss_nil)
    (dss_cons (ds_set 5 sc_law.nd (de_call K (ok__law_stretches Z) (takes_of rfl rfl rfl rfl) (hr.mono (by decide)) rfl Z.g__law_stretches Z.F__law_stretches.kp Z.b__law_stretches .nil (fun _ _ => rfl) (da_cons (de_var 3) (da_cons (de_var 4) da_nil))))
    (dss_cons (ds_set 6 sc_law.nd (de_lstM (da_cons de_int (da_cons (de_var 2) (da_cons (de_neg (de_var 2)) da_nil)))))
    (dss_cons (ds_for (passes_of rfl) rfl (di_r1 rfl Z.z_range (da_cons de_int da_nil)) (dg_name 7 sc_law.nd) (dss_one (ds_if (dt_cmp op_gt (sim_I0 fun _ _ _ _ => rfl) (de_callB (call_lenK K) sim_len rfl Z.z_len (by decide +kernel) (da_cons (de_var 5) da_nil)) de_int (nomark _)) (dss_cons (ds_set 8 sc_law.nd (de_call K (ok__law_pick Z) (takes_of rfl rfl rfl rfl) (hr.mono (by decide)) rfl Z.g__law_pick Z.F__law_pick.kp Z.b__law_pick .nil (fun _ _ => rfl) (da_cons (de_var 1) (da_cons (de_sl K (de_call K (ok__law_pick Z) (takes_of rfl rfl rfl rfl) (hr.mono (by decide)) rfl Z.g__law_pick Z.F__law_pick.kp Z.b__law_pick .nil (fun _ _ => rfl) (da_cons (de_var 1) (da_cons (de_var 5) da_nil))) do_none (do_some de_int)) da_nil))))
    (dss_one (ds_expr (de_bm K PySem.F.plainAttrs_list PySem.F.slot_list_append PySem.F.type_list_append mt_append sim_append (de_var 6) (da_cons (de_call K (ok__law_clamp Z) (takes_of rfl rfl rfl rfl) (hr.mono (by decide)) rfl Z.g__law_clamp Z.F__law_clamp.kp Z.b__law_clamp .nil (fun _ _ => rfl) (da_cons (de_op op_sub (sim_I0 fun _ _ _ _ => rfl) (de_op (op_addK K) sim_add (de_var 8) (de_call K (ok__law_take Z) (takes_of rfl rfl rfl rfl) (hr.mono (by decide)) rfl Z.g__law_take Z.F__law_take.kp Z.b__law_take .nil (fun _ _ => rfl) (da_cons (de_var 1) (da_cons de_int da_nil)))) de_int) (da_cons (de_neg (de_var 2)) (da_cons (de_var 2) da_nil)))) da_nil))))) dss_nil)))
    (dss_cons (ds_set 9 sc_law.nd (de_listM K rfl Z.z_list (by decide +kernel) (da_cons (de_var 3) da_nil)))
    (dss_cons (ds_set 10 sc_law.nd (de_makeO K Z.mk_Ranges (ok_Ranges___init__ Z) (hr.mono (by decide)) rfl Z.g_Ranges Z.b_Ranges___init___2.choose_spec.2 Z.b_Ranges___init___2.choose_spec.1 (fun _ _ => rfl) (da_cons (de_var 9) da_nil)))
    (dss_cons (ds_set 11 sc_law.nd (de_makeO K Z.mk_Ranges (ok_Ranges___init__ Z) (hr.mono (by decide)) rfl Z.g_Ranges Z.b_Ranges___init___2.choose_spec.2 Z.b_Ranges___init___2.choose_spec.1 (fun _ _ => rfl) (da_cons (de_callTy (call_tupleK K) sim_tuple rfl Z.z_tuple (by decide +kernel) (da_cons (de_var 4) da_nil)) da_nil)))
    (dss_cons (ds_if (dt_cmp (op_eqK K hr) sim_eq (de_callB (call_lenK K) sim_len rfl Z.z_len (by decide +kernel) (da_cons (de_var 3) da_nil)) de_int (nomark _)) (dss_one (ds_set 10 sc_law.nd (de_makeO0 K Z.mk_Ranges (ok_Ranges___init__ Z) (hr.mono (by decide)) rfl Z.g_Ranges Z.b_Ranges___init___1.choose_spec.2 Z.b_Ranges___init___1.choose_spec.1 (fun _ _ => ⟨_, _, rfl, ⟨_, [], rfl, .inr Z.e_0, rfl⟩, rfl⟩)))) dss_nil)
    (dss_cons (ds_if (dt_w (dw_or (dt_not (dt_val (de_call K (ok__law_all_right Z) (takes_of rfl rfl rfl rfl) (hr.mono (by decide)) rfl Z.g__law_all_right Z.F__law_all_right.kp Z.b__law_all_right .nil (fun _ _ => rfl) (da_cons (de_var 10) (da_cons (de_var 11) (da_cons (de_var 5) (da_cons (de_var 6) da_nil))))))) (dw_or1 (dt_not (dt_val (de_call K (ok__law_equal Z 4) (takes_of rfl rfl rfl rfl) (hr.mono (by decide)) rfl Z.g__law_equal Z.F__law_equal.kp Z.b__law_equal .nil (fun _ _ => rfl) (da_cons (de_var 9) (da_cons (de_var 3) da_nil)))))))) (dss_one (ds_ret de_bl)) dss_nil)
    (dss_cons (ds_expr (de_bm K PySem.F.plainAttrs_list PySem.F.slot_list_append PySem.F.type_list_append mt_append sim_append (de_var 9) (da_cons (de_tup (da_cons (de_neg (de_var 2)) (da_cons (de_var 2) da_nil))) da_nil)))
    (dss_cons (ds_asg (de_tup (da_cons de_int (da_cons de_int da_nil))) (dg_sb (W := W00) (de_var 9) de_int))
    (dss_cons (ds_if (dt_w (dw_or (dt_not (dt_val (de_call K (ok__law_equals_right Z) (takes_of rfl rfl rfl rfl) (hr.mono (by decide)) rfl Z.g__law_equals_right Z.F__law_equals_right.kp Z.b__law_equals_right .nil (fun _ _ => rfl) (da_cons (de_var 10) (da_cons (de_var 11) (da_cons (de_var 5) da_nil)))))) (dw_or1 (dt_not (dt_val (de_call K (ok__law_all_right Z) (takes_of rfl rfl rfl rfl) (hr.mono (by decide)) rfl Z.g__law_all_right Z.F__law_all_right.kp Z.b__law_all_right .nil (fun _ _ => rfl) (da_cons (de_var 10) (da_cons (de_var 11) (da_cons (de_var 5) (da_cons (de_var 6) da_nil)))))))))) (dss_one (ds_ret de_bl)) dss_nil)
    (dss_cons (ds_if (dt_cmp op_gt (sim_I0 fun _ _ _ _ => rfl) (de_callB (call_lenK K) sim_len rfl Z.z_len (by decide +kernel) (da_cons (de_var 5) da_nil)) de_int (nomark _)) (dss_one (ds_ret de_bl)) dss_nil)
    (dss_cons (ds_setLc 12 (vs := [13, 14, 15, 16]) [("_law_low", 13), ("_law_high", 14), ("_law_one_in", 15), ("_law_two_in", 16)] rfl rfl sc_law.nd (di_sq K (de_var 5)) (blkOk_by (N := n_law) (sc := defScope s_law) (by decide +kernel)) (fun _ _ _ _ _ => (dg_tup K rfl (dgs_cons (dg_name 13 sc_law.nd) (dgs_cons (dg_name 14 sc_law.nd) (dgs_cons (dg_name 15 sc_law.nd) (dgs_cons (dg_name 16 sc_law.nd) dgs_nil)))))) (fun _ _ _ _ _ => pts_nil) sim_yes (fun _ _ _ _ _ => (de_tup (da_cons (de_var 13) (da_cons (de_var 14) (da_cons (de_var 16) (da_cons (de_var 15) da_nil)))))) (by decide) rfl (sw_true rfl rfl rfl (by decide +kernel)))
    (dss_one (ds_ret (de_call K (ok__law_all_right Z) (takes_of rfl rfl rfl rfl) (hr.mono (by decide)) rfl Z.g__law_all_right Z.F__law_all_right.kp Z.b__law_all_right .nil (fun _ _ => rfl) (da_cons (de_var 11) (da_cons (de_var 10) (da_cons (de_var 12) (da_cons (de_var 6) da_nil)))))))))))))))))))))))))⟩
end
def d__law_mix : He.DefD := ⟨("_law_mix", none), "_law_mix", "_law_mix", defArgs s__law_mix, defBody s__law_mix, defScope s__law_mix, [], []⟩
def d__law_store : He.DefD := ⟨("_law_store", none), "_law_store", "_law_store", defArgs s__law_store, defBody s__law_store, defScope s__law_store, [], []⟩
def d__law_take : He.DefD := ⟨("_law_take", none), "_law_take", "_law_take", defArgs s__law_take, defBody s__law_take, defScope s__law_take, [], []⟩
def d__law_pick : He.DefD := ⟨("_law_pick", none), "_law_pick", "_law_pick", defArgs s__law_pick, defBody s__law_pick, defScope s__law_pick, [], []⟩
def d__law_equal : He.DefD := ⟨("_law_equal", none), "_law_equal", "_law_equal", defArgs s__law_equal, defBody s__law_equal, defScope s__law_equal, [], []⟩
def d__law_clamp : He.DefD := ⟨("_law_clamp", none), "_law_clamp", "_law_clamp", defArgs s__law_clamp, defBody s__law_clamp, defScope s__law_clamp, [], []⟩
def d__law_loose_pairs : He.DefD := ⟨("_law_loose_pairs", none), "_law_loose_pairs", "_law_loose_pairs", defArgs s__law_loose_pairs, defBody s__law_loose_pairs, defScope s__law_loose_pairs, [], []⟩
def d__law_spread : He.DefD := ⟨("_law_spread", none), "_law_spread", "_law_spread", defArgs s__law_spread, defBody s__law_spread, defScope s__law_spread, [], []⟩
def d__law_some_pairs : He.DefD := ⟨("_law_some_pairs", none), "_law_some_pairs", "_law_some_pairs", defArgs s__law_some_pairs, defBody s__law_some_pairs, defScope s__law_some_pairs, [], []⟩
def d__law_shuffled : He.DefD := ⟨("_law_shuffled", none), "_law_shuffled", "_law_shuffled", defArgs s__law_shuffled, defBody s__law_shuffled, defScope s__law_shuffled, [], []⟩
def d__law_some : He.DefD := ⟨("_law_some", none), "_law_some", "_law_some", defArgs s__law_some, defBody s__law_some, defScope s__law_some, [], []⟩
def d__law_beside : He.DefD := ⟨("_law_beside", none), "_law_beside", "_law_beside", defArgs s__law_beside, defBody s__law_beside, defScope s__law_beside, [], []⟩
def d__law_mark : He.DefD := ⟨("_law_mark", none), "_law_mark", "_law_mark", defArgs s__law_mark, defBody s__law_mark, defScope s__law_mark, [], []⟩
def d__law_stretches : He.DefD := ⟨("_law_stretches", none), "_law_stretches", "_law_stretches", defArgs s__law_stretches, defBody s__law_stretches, defScope s__law_stretches, [], []⟩
def d__law_chosen : He.DefD := ⟨("_law_chosen", none), "_law_chosen", "_law_chosen", defArgs s__law_chosen, defBody s__law_chosen, defScope s__law_chosen, [], []⟩
def d__law_within : He.DefD := ⟨("_law_within", none), "_law_within", "_law_within", defArgs s__law_within, defBody s__law_within, defScope s__law_within, [], []⟩
def d__law_members : He.DefD := ⟨("_law_members", none), "_law_members", "_law_members", defArgs s__law_members, defBody s__law_members, defScope s__law_members, [], []⟩
def d_Ranges___contains__ : He.DefD := ⟨("Ranges", some "__contains__"), "__contains__", "Ranges.__contains__", defArgs s_Ranges___contains__, defBody s_Ranges___contains__, defScope s_Ranges___contains__, [], []⟩
def d_Ranges___iter__ : He.DefD := ⟨("Ranges", some "__iter__"), "__iter__", "Ranges.__iter__", defArgs s_Ranges___iter__, defBody s_Ranges___iter__, defScope s_Ranges___iter__, [], []⟩
def d__law_is_right : He.DefD := ⟨("_law_is_right", none), "_law_is_right", "_law_is_right", defArgs s__law_is_right, defBody s__law_is_right, defScope s__law_is_right, [], []⟩
def d_shared : He.DefD := ⟨("shared", none), "shared", "shared", defArgs s_shared, defBody s_shared, defScope s_shared, [], []⟩
def d_merged : He.DefD := ⟨("merged", none), "merged", "merged", defArgs s_merged, defBody s_merged, defScope s_merged, [], []⟩
def d_Ranges___init__ : He.DefD := ⟨("Ranges", some "__init__"), "__init__", "Ranges.__init__", defArgs s_Ranges___init__, defBody s_Ranges___init__, defScope s_Ranges___init__, [.adr (He.dflAt ("Ranges", some "__init__") 0)], []⟩
def d_Ranges___and__ : He.DefD := ⟨("Ranges", some "__and__"), "__and__", "Ranges.__and__", defArgs s_Ranges___and__, defBody s_Ranges___and__, defScope s_Ranges___and__, [], []⟩
def d_Ranges___or__ : He.DefD := ⟨("Ranges", some "__or__"), "__or__", "Ranges.__or__", defArgs s_Ranges___or__, defBody s_Ranges___or__, defScope s_Ranges___or__, [], []⟩
def d_remaining : He.DefD := ⟨("remaining", none), "remaining", "remaining", defArgs s_remaining, defBody s_remaining, defScope s_remaining, [], []⟩
def d_Ranges___sub__ : He.DefD := ⟨("Ranges", some "__sub__"), "__sub__", "Ranges.__sub__", defArgs s_Ranges___sub__, defBody s_Ranges___sub__, defScope s_Ranges___sub__, [], []⟩
def d__law_all_right : He.DefD := ⟨("_law_all_right", none), "_law_all_right", "_law_all_right", defArgs s__law_all_right, defBody s__law_all_right, defScope s__law_all_right, [], []⟩
def d_Ranges___eq__ : He.DefD := ⟨("Ranges", some "__eq__"), "__eq__", "Ranges.__eq__", defArgs s_Ranges___eq__, defBody s_Ranges___eq__, defScope s_Ranges___eq__, [], []⟩
def d__law_equals_right : He.DefD := ⟨("_law_equals_right", none), "_law_equals_right", "_law_equals_right", defArgs s__law_equals_right, defBody s__law_equals_right, defScope s__law_equals_right, [], []⟩
def d_law : He.DefD := ⟨("law", none), "law", "law", defArgs s_law, defBody s_law, defScope s_law, [], []⟩
def d_Ranges_pairs : PrD := ⟨"Ranges", "pairs", "Ranges.pairs", s_Ranges_pairs⟩
def d_Ranges_many : PrD := ⟨"Ranges", "many", "Ranges.many", s_Ranges_many⟩
def fn : List He.DefD := [d__law_mix, d__law_store, d__law_take, d__law_pick, d__law_equal, d__law_clamp, d__law_loose_pairs, d__law_spread, d__law_some_pairs, d__law_shuffled, d__law_some, d__law_beside, d__law_mark, d__law_stretches, d__law_chosen, d__law_within, d__law_members, d_Ranges___contains__, d_Ranges___iter__, d__law_is_right, d_shared, d_merged, d_Ranges___init__, d_Ranges___and__, d_Ranges___or__, d_remaining, d_Ranges___sub__, d__law_all_right, d_Ranges___eq__, d__law_equals_right, d_law]
def prs : List PrD := [d_Ranges_pairs, d_Ranges_many]
def fa : List He.Fa := [.glo "_law_mix", .glo "_law_store", .glo "_law_take", .glo "_law_pick", .glo "_law_equal", .glo "_law_clamp", .glo "_law_loose_pairs", .glo "_law_spread", .glo "_law_some_pairs", .glo "_law_shuffled", .glo "_law_some", .glo "_law_beside", .glo "_law_mark", .glo "_law_stretches", .glo "_law_chosen", .glo "_law_within", .glo "_law_members", .meth "Ranges" "__contains__", .meth "Ranges" "__iter__", .glo "_law_is_right", .glo "shared", .glo "merged", .meth "Ranges" "__and__", .meth "Ranges" "__or__", .glo "remaining", .meth "Ranges" "__sub__", .glo "_law_all_right", .meth "Ranges" "__eq__", .glo "_law_equals_right", .glo "law", .glo "Ranges", .mkr "Ranges", .cls "Ranges", .noat "Ranges" "spans", .free "sorted", .free "max", .free "tuple", .free "len", .free "min", .free "int", .free "list", .free "abs", .free "range", .free "isinstance", .free "bool", .free "str", .free "iter", .free "sum", .free "any"]
theorem zs {w : World} {K : PySem.W.Frag} {h : Heap} {mg : Str → Option Value} (X : K.In h) (G : h.Ns mainGlobals mg) (c : SaysZ P fa fn xs bs prs tabs w K) : ∃ Z : Zs K mg, True := by
  have cz := c
  replace c := c.y
  have cp := c
  replace c := c.x
  obtain ⟨fd__law_mix, F__law_mix⟩ := c.def_ 0 (d := d__law_mix) rfl
  have b__law_mix : Binds K fd__law_mix ["_law_first", "_law_second"] [] := FunD.bindsN F__law_mix fun _ _ _ _ _ _ us hl => match us, hl with | [_, _], _ => rfl
  obtain ⟨fd__law_store, F__law_store⟩ := c.def_ 1 (d := d__law_store) rfl
  have b__law_store : Binds K fd__law_store ["_law_script"] [] := FunD.bindsN F__law_store fun _ _ _ _ _ _ us hl => match us, hl with | [_], _ => rfl
  obtain ⟨fd__law_take, F__law_take⟩ := c.def_ 2 (d := d__law_take) rfl
  have b__law_take : Binds K fd__law_take ["_law_store_here", "_law_many"] [] := FunD.bindsN F__law_take fun _ _ _ _ _ _ us hl => match us, hl with | [_, _], _ => rfl
  obtain ⟨fd__law_pick, F__law_pick⟩ := c.def_ 3 (d := d__law_pick) rfl
  have b__law_pick : Binds K fd__law_pick ["_law_store_here", "_law_row"] [] := FunD.bindsN F__law_pick fun _ _ _ _ _ _ us hl => match us, hl with | [_, _], _ => rfl
  obtain ⟨fd__law_equal, F__law_equal⟩ := c.def_ 4 (d := d__law_equal) rfl
  have b__law_equal : Binds K fd__law_equal ["_law_first", "_law_second"] [] := FunD.bindsN F__law_equal fun _ _ _ _ _ _ us hl => match us, hl with | [_, _], _ => rfl
  obtain ⟨fd__law_clamp, F__law_clamp⟩ := c.def_ 5 (d := d__law_clamp) rfl
  have b__law_clamp : Binds K fd__law_clamp ["_law_number", "_law_low", "_law_high"] [] := FunD.bindsN F__law_clamp fun _ _ _ _ _ _ us hl => match us, hl with | [_, _, _], _ => rfl
  obtain ⟨fd__law_loose_pairs, F__law_loose_pairs⟩ := c.def_ 6 (d := d__law_loose_pairs) rfl
  have b__law_loose_pairs : Binds K fd__law_loose_pairs ["_law_store_here", "_law_many"] [] := FunD.bindsN F__law_loose_pairs fun _ _ _ _ _ _ us hl => match us, hl with | [_, _], _ => rfl
  obtain ⟨fd__law_spread, F__law_spread⟩ := c.def_ 7 (d := d__law_spread) rfl
  have b__law_spread : Binds K fd__law_spread ["_law_store_here", "_law_many"] [] := FunD.bindsN F__law_spread fun _ _ _ _ _ _ us hl => match us, hl with | [_, _], _ => rfl
  obtain ⟨fd__law_some_pairs, F__law_some_pairs⟩ := c.def_ 8 (d := d__law_some_pairs) rfl
  have b__law_some_pairs : Binds K fd__law_some_pairs ["_law_store_here"] [] := FunD.bindsN F__law_some_pairs fun _ _ _ _ _ _ us hl => match us, hl with | [_], _ => rfl
  obtain ⟨fd__law_shuffled, F__law_shuffled⟩ := c.def_ 9 (d := d__law_shuffled) rfl
  have b__law_shuffled : Binds K fd__law_shuffled ["_law_store_here", "_law_row"] [] := FunD.bindsN F__law_shuffled fun _ _ _ _ _ _ us hl => match us, hl with | [_, _], _ => rfl
  obtain ⟨fd__law_some, F__law_some⟩ := c.def_ 10 (d := d__law_some) rfl
  have b__law_some : Binds K fd__law_some ["_law_store_here", "_law_row"] [] := FunD.bindsN F__law_some fun _ _ _ _ _ _ us hl => match us, hl with | [_, _], _ => rfl
  obtain ⟨fd__law_beside, F__law_beside⟩ := c.def_ 11 (d := d__law_beside) rfl
  have b__law_beside : Binds K fd__law_beside ["_law_store_here", "_law_pairs"] [] := FunD.bindsN F__law_beside fun _ _ _ _ _ _ us hl => match us, hl with | [_, _], _ => rfl
  obtain ⟨fd__law_mark, F__law_mark⟩ := c.def_ 12 (d := d__law_mark) rfl
  have b__law_mark : Binds K fd__law_mark ["_law_steps", "_law_pairs", "_law_side"] [] := FunD.bindsN F__law_mark fun _ _ _ _ _ _ us hl => match us, hl with | [_, _, _], _ => rfl
  obtain ⟨fd__law_stretches, F__law_stretches⟩ := c.def_ 13 (d := d__law_stretches) rfl
  have b__law_stretches : Binds K fd__law_stretches ["_law_one", "_law_two"] [] := FunD.bindsN F__law_stretches fun _ _ _ _ _ _ us hl => match us, hl with | [_, _], _ => rfl
  obtain ⟨fd__law_chosen, F__law_chosen⟩ := c.def_ 14 (d := d__law_chosen) rfl
  have b__law_chosen : Binds K fd__law_chosen ["_law_rows", "_law_deed"] [] := FunD.bindsN F__law_chosen fun _ _ _ _ _ _ us hl => match us, hl with | [_, _], _ => rfl
  obtain ⟨fd__law_within, F__law_within⟩ := c.def_ 15 (d := d__law_within) rfl
  have b__law_within : Binds K fd__law_within ["_law_pairs", "_law_number"] [] := FunD.bindsN F__law_within fun _ _ _ _ _ _ us hl => match us, hl with | [_, _], _ => rfl
  obtain ⟨fd__law_members, F__law_members⟩ := c.def_ 16 (d := d__law_members) rfl
  have b__law_members : Binds K fd__law_members ["_law_pairs"] [] := FunD.bindsN F__law_members fun _ _ _ _ _ _ us hl => match us, hl with | [_], _ => rfl
  obtain ⟨p_Ranges_pairs, fd_Ranges_pairs, F_Ranges_pairs⟩ := cp.prop 0 (d := d_Ranges_pairs) rfl
  have b_Ranges_pairs : Binds K fd_Ranges_pairs ["self"] [] := FunD.bindsN F_Ranges_pairs fun _ _ _ _ _ _ us hl => match us, hl with | [_], _ => rfl
  obtain ⟨p_Ranges_many, fd_Ranges_many, F_Ranges_many⟩ := cp.prop 1 (d := d_Ranges_many) rfl
  have b_Ranges_many : Binds K fd_Ranges_many ["self"] [] := FunD.bindsN F_Ranges_many fun _ _ _ _ _ _ us hl => match us, hl with | [_], _ => rfl
  obtain ⟨fd_Ranges___contains__, F_Ranges___contains__⟩ := c.def_ 17 (d := d_Ranges___contains__) rfl
  have b_Ranges___contains__ : Binds K fd_Ranges___contains__ ["self", "n"] [] := FunD.bindsN F_Ranges___contains__ fun _ _ _ _ _ _ us hl => match us, hl with | [_, _], _ => rfl
  obtain ⟨fd_Ranges___iter__, F_Ranges___iter__⟩ := c.def_ 18 (d := d_Ranges___iter__) rfl
  have b_Ranges___iter__ : Binds K fd_Ranges___iter__ ["self"] [] := FunD.bindsN F_Ranges___iter__ fun _ _ _ _ _ _ us hl => match us, hl with | [_], _ => rfl
  obtain ⟨fd__law_is_right, F__law_is_right⟩ := c.def_ 19 (d := d__law_is_right) rfl
  have b__law_is_right : Binds K fd__law_is_right ["_law_told", "_law_due", "_law_probes"] [] := FunD.bindsN F__law_is_right fun _ _ _ _ _ _ us hl => match us, hl with | [_, _, _], _ => rfl
  obtain ⟨fd_shared, F_shared⟩ := c.def_ 20 (d := d_shared) rfl
  have b_shared : Binds K fd_shared ["first", "second"] [] := FunD.bindsN F_shared fun _ _ _ _ _ _ us hl => match us, hl with | [_, _], _ => rfl
  obtain ⟨fd_merged, F_merged⟩ := c.def_ 21 (d := d_merged) rfl
  have b_merged : Binds K fd_merged ["pairs"] [] := FunD.bindsN F_merged fun _ _ _ _ _ _ us hl => match us, hl with | [_], _ => rfl
  obtain ⟨fd_Ranges___init__, F_Ranges___init__⟩ := c.def_ 22 (d := d_Ranges___init__) rfl
  have b_Ranges___init___1 := FunD.binds1 (ps := ["self", "pairs"]) F_Ranges___init__ 1 0 (by intro z; have z1 : (_ :: _ : List V) = [] := z; cases z1) (by rfl) fun T kV doc pm an cdv ct us its h1 h2 => match us, its, h1, h2 with | [_], [_], _, _ => ⟨_, rfl, rfl⟩
  have b_Ranges___init___2 := FunD.binds1 (ps := ["self", "pairs"]) F_Ranges___init__ 2 1 (by intro z; have z1 : (_ :: _ : List V) = [] := z; cases z1) (by rfl) fun T kV doc pm an cdv ct us its h1 h2 => match us, its, h1, h2 with | [_, _], [_], _, _ => ⟨_, rfl, rfl⟩
  obtain ⟨fd_Ranges___and__, F_Ranges___and__⟩ := c.def_ 23 (d := d_Ranges___and__) rfl
  have b_Ranges___and__ : Binds K fd_Ranges___and__ ["self", "other"] [] := FunD.bindsN F_Ranges___and__ fun _ _ _ _ _ _ us hl => match us, hl with | [_, _], _ => rfl
  obtain ⟨fd_Ranges___or__, F_Ranges___or__⟩ := c.def_ 24 (d := d_Ranges___or__) rfl
  have b_Ranges___or__ : Binds K fd_Ranges___or__ ["self", "other"] [] := FunD.bindsN F_Ranges___or__ fun _ _ _ _ _ _ us hl => match us, hl with | [_, _], _ => rfl
  obtain ⟨fd_remaining, F_remaining⟩ := c.def_ 25 (d := d_remaining) rfl
  have b_remaining : Binds K fd_remaining ["first", "second"] [] := FunD.bindsN F_remaining fun _ _ _ _ _ _ us hl => match us, hl with | [_, _], _ => rfl
  obtain ⟨fd_Ranges___sub__, F_Ranges___sub__⟩ := c.def_ 26 (d := d_Ranges___sub__) rfl
  have b_Ranges___sub__ : Binds K fd_Ranges___sub__ ["self", "other"] [] := FunD.bindsN F_Ranges___sub__ fun _ _ _ _ _ _ us hl => match us, hl with | [_, _], _ => rfl
  obtain ⟨fd__law_all_right, F__law_all_right⟩ := c.def_ 27 (d := d__law_all_right) rfl
  have b__law_all_right : Binds K fd__law_all_right ["_law_first", "_law_second", "_law_rows", "_law_probes"] [] := FunD.bindsN F__law_all_right fun _ _ _ _ _ _ us hl => match us, hl with | [_, _, _, _], _ => rfl
  obtain ⟨fd_Ranges___eq__, F_Ranges___eq__⟩ := c.def_ 28 (d := d_Ranges___eq__) rfl
  have b_Ranges___eq__ : Binds K fd_Ranges___eq__ ["self", "other"] [] := FunD.bindsN F_Ranges___eq__ fun _ _ _ _ _ _ us hl => match us, hl with | [_, _], _ => rfl
  obtain ⟨fd__law_equals_right, F__law_equals_right⟩ := c.def_ 29 (d := d__law_equals_right) rfl
  have b__law_equals_right : Binds K fd__law_equals_right ["_law_first", "_law_second", "_law_rows"] [] := FunD.bindsN F__law_equals_right fun _ _ _ _ _ _ us hl => match us, hl with | [_, _, _], _ => rfl
  obtain ⟨fd_law, F_law⟩ := c.def_ 30 (d := d_law) rfl
  have b_law : Binds K fd_law ["_law_script"] [] := FunD.bindsN F_law fun _ _ _ _ _ _ us hl => match us, hl with | [_], _ => rfl
  exact ⟨⟨_, fd__law_mix, F__law_mix, He.glo_ok X G (c.fact 0 (f := .glo "_law_mix") rfl), b__law_mix, _, fd__law_store, F__law_store, He.glo_ok X G (c.fact 1 (f := .glo "_law_store") rfl), b__law_store, _, fd__law_take, F__law_take, He.glo_ok X G (c.fact 2 (f := .glo "_law_take") rfl), b__law_take, _, fd__law_pick, F__law_pick, He.glo_ok X G (c.fact 3 (f := .glo "_law_pick") rfl), b__law_pick, _, fd__law_equal, F__law_equal, He.glo_ok X G (c.fact 4 (f := .glo "_law_equal") rfl), b__law_equal, _, fd__law_clamp, F__law_clamp, He.glo_ok X G (c.fact 5 (f := .glo "_law_clamp") rfl), b__law_clamp, _, fd__law_loose_pairs, F__law_loose_pairs, He.glo_ok X G (c.fact 6 (f := .glo "_law_loose_pairs") rfl), b__law_loose_pairs, _, fd__law_spread, F__law_spread, He.glo_ok X G (c.fact 7 (f := .glo "_law_spread") rfl), b__law_spread, _, fd__law_some_pairs, F__law_some_pairs, He.glo_ok X G (c.fact 8 (f := .glo "_law_some_pairs") rfl), b__law_some_pairs, _, fd__law_shuffled, F__law_shuffled, He.glo_ok X G (c.fact 9 (f := .glo "_law_shuffled") rfl), b__law_shuffled, _, fd__law_some, F__law_some, He.glo_ok X G (c.fact 10 (f := .glo "_law_some") rfl), b__law_some, _, fd__law_beside, F__law_beside, He.glo_ok X G (c.fact 11 (f := .glo "_law_beside") rfl), b__law_beside, _, fd__law_mark, F__law_mark, He.glo_ok X G (c.fact 12 (f := .glo "_law_mark") rfl), b__law_mark, _, fd__law_stretches, F__law_stretches, He.glo_ok X G (c.fact 13 (f := .glo "_law_stretches") rfl), b__law_stretches, _, fd__law_chosen, F__law_chosen, He.glo_ok X G (c.fact 14 (f := .glo "_law_chosen") rfl), b__law_chosen, _, fd__law_within, F__law_within, He.glo_ok X G (c.fact 15 (f := .glo "_law_within") rfl), b__law_within, _, fd__law_members, F__law_members, He.glo_ok X G (c.fact 16 (f := .glo "_law_members") rfl), b__law_members, _, fd_Ranges_pairs, F_Ranges_pairs, b_Ranges_pairs, p_Ranges_pairs, _, fd_Ranges_many, F_Ranges_many, b_Ranges_many, p_Ranges_many, _, fd_Ranges___contains__, F_Ranges___contains__, b_Ranges___contains__, He.meth_ok (c.fact 17 (f := .meth "Ranges" "__contains__") rfl), _, fd_Ranges___iter__, F_Ranges___iter__, b_Ranges___iter__, He.meth_ok (c.fact 18 (f := .meth "Ranges" "__iter__") rfl), _, fd__law_is_right, F__law_is_right, He.glo_ok X G (c.fact 19 (f := .glo "_law_is_right") rfl), b__law_is_right, _, fd_shared, F_shared, He.glo_ok X G (c.fact 20 (f := .glo "shared") rfl), b_shared, _, fd_merged, F_merged, He.glo_ok X G (c.fact 21 (f := .glo "merged") rfl), b_merged, _, fd_Ranges___init__, F_Ranges___init__, b_Ranges___init___1, b_Ranges___init___2, _, fd_Ranges___and__, F_Ranges___and__, b_Ranges___and__, He.meth_ok (c.fact 22 (f := .meth "Ranges" "__and__") rfl), _, fd_Ranges___or__, F_Ranges___or__, b_Ranges___or__, He.meth_ok (c.fact 23 (f := .meth "Ranges" "__or__") rfl), _, fd_remaining, F_remaining, He.glo_ok X G (c.fact 24 (f := .glo "remaining") rfl), b_remaining, _, fd_Ranges___sub__, F_Ranges___sub__, b_Ranges___sub__, He.meth_ok (c.fact 25 (f := .meth "Ranges" "__sub__") rfl), _, fd__law_all_right, F__law_all_right, He.glo_ok X G (c.fact 26 (f := .glo "_law_all_right") rfl), b__law_all_right, _, fd_Ranges___eq__, F_Ranges___eq__, b_Ranges___eq__, He.meth_ok (c.fact 27 (f := .meth "Ranges" "__eq__") rfl), _, fd__law_equals_right, F__law_equals_right, He.glo_ok X G (c.fact 28 (f := .glo "_law_equals_right") rfl), b__law_equals_right, _, fd_law, F_law, He.glo_ok X G (c.fact 29 (f := .glo "law") rfl), b_law, He.glo_ok X G (c.fact 30 (f := .glo "Ranges") rfl), He.mkr_ok (c.fact 31 (f := .mkr "Ranges") rfl), He.cls_ok (c.fact 32 (f := .cls "Ranges") rfl), He.noat_ok (c.fact 33 (f := .noat "Ranges" "spans") rfl), He.free_ok X G (c.fact 34 (f := .free "sorted") rfl), He.free_ok X G (c.fact 35 (f := .free "max") rfl), He.free_ok X G (c.fact 36 (f := .free "tuple") rfl), He.free_ok X G (c.fact 37 (f := .free "len") rfl), He.free_ok X G (c.fact 38 (f := .free "min") rfl), He.free_ok X G (c.fact 39 (f := .free "int") rfl), He.free_ok X G (c.fact 40 (f := .free "list") rfl), He.free_ok X G (c.fact 41 (f := .free "abs") rfl), He.free_ok X G (c.fact 42 (f := .free "range") rfl), He.free_ok X G (c.fact 43 (f := .free "isinstance") rfl), He.free_ok X G (c.fact 44 (f := .free "bool") rfl), He.free_ok X G (c.fact 45 (f := .free "str") rfl), He.free_ok X G (c.fact 46 (f := .free "iter") rfl), He.free_ok X G (c.fact 47 (f := .free "sum") rfl), He.free_ok X G (c.fact 48 (f := .free "any") rfl), ownB_ok (c.test 0 (b := ownB "Ranges") rfl) (He.cls_ok (c.fact 32 (f := .cls "Ranges") rfl)), emB_ok (c.test 1 (b := emB (He.dflAt ("Ranges", some "__init__") 0)) rfl)⟩, trivial⟩
end Qk14
namespace Rg
abbrev Pss := List (Int × Int)
def Mem (l : Pss) (x : Int) : Prop := ∃ p ∈ l, p.1 ≤ x ∧ x ≤ p.2
def Nrm : Pss → Prop
  | [] => True
  | p :: r => p.1 ≤ p.2 ∧ (∀ q ∈ r, p.2 + 1 < q.1) ∧ Nrm r
theorem mem_nil {x : Int} : ¬ Mem [] x := fun ⟨_, h, _⟩ => nomatch h
theorem mem_cons {p : Int × Int} {r : Pss} {x : Int} : Mem (p :: r) x ↔ (p.1 ≤ x ∧ x ≤ p.2) ∨ Mem r x := by
  constructor
  · rintro ⟨q, h, h1⟩
    rcases List.mem_cons.mp h with rfl | h
    · exact .inl h1
    · exact .inr ⟨q, h, h1⟩
  · rintro (h | ⟨q, h, h1⟩)
    · exact ⟨p, List.mem_cons_self, h⟩
    · exact ⟨q, List.mem_cons_of_mem _ h, h1⟩
theorem mem_app {l m : Pss} {x : Int} : Mem (l ++ m) x ↔ Mem l x ∨ Mem m x := by
  constructor
  · rintro ⟨q, h, h1⟩
    rcases List.mem_append.mp h with h | h
    · exact .inl ⟨q, h, h1⟩
    · exact .inr ⟨q, h, h1⟩
  · rintro (⟨q, h, h1⟩ | ⟨q, h, h1⟩)
    · exact ⟨q, List.mem_append_left _ h, h1⟩
    · exact ⟨q, List.mem_append_right _ h, h1⟩
theorem Nrm.le : ∀ {l : Pss}, Nrm l → ∀ p ∈ l, p.1 ≤ p.2
  | [], _, _, h => nomatch h
  | q :: r, n, p, h => by
    rcases List.mem_cons.mp h with rfl | h
    · exact n.1
    · exact n.2.2.le p h
theorem Nrm.above {p : Int × Int} {r : Pss} (n : Nrm (p :: r)) {x : Int} (h : Mem r x) : p.2 + 1 < x := by
  obtain ⟨q, hq, h1, h2⟩ := h
  have := n.2.1 q hq
  omega
theorem nrm_uniq : ∀ {l m : Pss}, Nrm l → Nrm m → (∀ x, Mem l x ↔ Mem m x) → l = m
  | [], [], _, _, _ => rfl
  | [], p :: r, _, n, h => absurd ((h p.1).mpr (mem_cons.mpr (.inl ⟨Int.le_refl _, n.1⟩))) mem_nil
  | p :: r, [], n, _, h => absurd ((h p.1).mp (mem_cons.mpr (.inl ⟨Int.le_refl _, n.1⟩))) mem_nil
  | (a, b) :: r, (c, d) :: t, n, m, h => by
    have n1 : a ≤ b := n.1
    have m1 : c ≤ d := m.1
    have key : ∀ (a b c d : Int) (r t : Pss), Nrm ((a, b) :: r) → Nrm ((c, d) :: t) → (∀ x, Mem ((a, b) :: r) x ↔ Mem ((c, d) :: t) x) → c ≤ a := by
      intro a b c d r t n m h
      have n1 : a ≤ b := n.1
      rcases mem_cons.mp ((h a).mp (mem_cons.mpr (.inl ⟨Int.le_refl _, n1⟩))) with q | q
      · exact q.1
      · have := m.above q
        have m1 : c ≤ d := m.1
        simp only at this
        omega
    have e1 : a = c := Int.le_antisymm (key c d a b t r m n fun x => (h x).symm) (key a b c d r t n m h)
    subst e1
    have key2 : ∀ (b d : Int) (r t : Pss), Nrm ((a, b) :: r) → Nrm ((a, d) :: t) → (∀ x, Mem ((a, b) :: r) x ↔ Mem ((a, d) :: t) x) → d ≤ b := by
      intro b d r t n m h
      have n1 : a ≤ b := n.1
      have m1 : a ≤ d := m.1
      by_cases hc : d ≤ b
      · exact hc
      · rcases mem_cons.mp ((h (b + 1)).mpr (mem_cons.mpr (.inl ⟨by show a ≤ b + 1; omega, by show b + 1 ≤ d; omega⟩))) with q | q
        · have := q.2; simp only at this; omega
        · have := n.above q; simp only at this; omega
    have e2 : b = d := Int.le_antisymm (key2 d b t r m n fun x => (h x).symm) (key2 b d r t n m h)
    subst e2
    have e3 : r = t := nrm_uniq n.2.2 m.2.2 fun x => by
      have hx := h x
      rw [mem_cons, mem_cons] at hx
      constructor
      · intro q
        have := n.above q
        rcases hx.mp (.inr q) with z | z
        · simp only at this z; omega
        · exact z
      · intro q
        have := m.above q
        rcases hx.mpr (.inr q) with z | z
        · simp only at this z; omega
        · exact z
    rw [e3]
def mrg1 (acc : Pss) (p : Int × Int) : Pss := match acc with
  | q :: r => if p.1 ≤ q.2 + 1 then (q.1, max q.2 p.2) :: r else p :: q :: r
  | [] => [p]
def mrgL (acc : Pss) (l : Pss) : Pss := l.foldl mrg1 acc
def Asc : Pss → Prop
  | [] => True
  | p :: r => (∀ q ∈ r, p.1 ≤ q.1) ∧ Asc r
def RNrm : Pss → Prop
  | [] => True
  | p :: r => p.1 ≤ p.2 ∧ (∀ q ∈ r, q.2 + 1 < p.1) ∧ RNrm r
theorem mrg1_ok {acc : Pss} {p : Int × Int} (n : RNrm acc) (hp : p.1 ≤ p.2) (ha : ∀ q ∈ acc, q.1 ≤ p.1) : RNrm (mrg1 acc p) ∧ (∀ x, Mem (mrg1 acc p) x ↔ Mem acc x ∨ (p.1 ≤ x ∧ x ≤ p.2)) ∧ ∀ q ∈ mrg1 acc p, q.1 ≤ p.1 := by
  cases acc with
  | nil =>
    refine ⟨⟨hp, (fun _ h => (nomatch h)), trivial⟩, fun x => ?_, fun q h => ?_⟩
    · show Mem [p] x ↔ _
      rw [mem_cons]
      constructor
      · rintro (h | h)
        · exact .inr h
        · exact .inl h
      · rintro (h | h)
        · exact .inr h
        · exact .inl h
    · rw [List.mem_singleton.mp h]; exact Int.le_refl _
  | cons q r =>
    have hq : q.1 ≤ p.1 := ha q List.mem_cons_self
    have n1 := n.1
    by_cases c : p.1 ≤ q.2 + 1
    · have e : mrg1 (q :: r) p = (q.1, max q.2 p.2) :: r := if_pos c
      rw [e]
      refine ⟨⟨by show q.1 ≤ max q.2 p.2; omega, n.2.1, n.2.2⟩, fun x => ?_, fun z h => ?_⟩
      · rw [mem_cons, mem_cons]
        constructor
        · rintro (⟨h1, h2⟩ | h)
          · simp only at h1 h2
            by_cases h3 : x ≤ q.2
            · exact .inl (.inl ⟨h1, h3⟩)
            · exact .inr ⟨by omega, by omega⟩
          · exact .inl (.inr h)
        · rintro ((⟨h1, h2⟩ | h) | ⟨h1, h2⟩)
          · exact .inl ⟨h1, by show x ≤ max q.2 p.2; omega⟩
          · exact .inr h
          · exact .inl ⟨by show q.1 ≤ x; omega, by show x ≤ max q.2 p.2; omega⟩
      · rcases List.mem_cons.mp h with rfl | h
        · exact hq
        · exact ha z (List.mem_cons_of_mem _ h)
    · have e : mrg1 (q :: r) p = p :: q :: r := if_neg c
      rw [e]
      refine ⟨⟨hp, fun z h => ?_, n⟩, fun x => ?_, fun z h => ?_⟩
      · rcases List.mem_cons.mp h with rfl | h
        · omega
        · have := n.2.1 z h
          omega
      · rw [mem_cons]
        constructor
        · rintro (h | h)
          · exact .inr h
          · exact .inl h
        · rintro (h | h)
          · exact .inr h
          · exact .inl h
      · rcases List.mem_cons.mp h with rfl | h
        · exact Int.le_refl _
        · exact ha z h
theorem mrgL_ok : ∀ {l acc : Pss}, RNrm acc → (∀ p ∈ l, p.1 ≤ p.2) → Asc l → (∀ q ∈ acc, ∀ p ∈ l, q.1 ≤ p.1) → RNrm (mrgL acc l) ∧ ∀ x, Mem (mrgL acc l) x ↔ Mem acc x ∨ Mem l x
  | [], acc, n, _, _, _ => ⟨n, fun x => ⟨.inl, fun h => h.elim id fun h => absurd h mem_nil⟩⟩
  | p :: l, acc, n, hp, ha, hb => by
    obtain ⟨n1, m1, b1⟩ := mrg1_ok n (hp p List.mem_cons_self) fun q h => hb q h p List.mem_cons_self
    obtain ⟨n2, m2⟩ := mrgL_ok (l := l) (acc := mrg1 acc p) n1 (fun q h => hp q (List.mem_cons_of_mem _ h)) ha.2 fun q h r hr => Int.le_trans (b1 q h) (ha.1 r hr)
    refine ⟨n2, fun x => (m2 x).trans ?_⟩
    rw [m1, mem_cons]
    constructor
    · rintro ((h | h) | h)
      · exact .inl h
      · exact .inr (.inl h)
      · exact .inr (.inr h)
    · rintro (h | (h | h))
      · exact .inl (.inl h)
      · exact .inl (.inr h)
      · exact .inr h
theorem nrm_snoc : ∀ {l : Pss} {p : Int × Int}, Nrm l → p.1 ≤ p.2 → (∀ q ∈ l, q.2 + 1 < p.1) → Nrm (l ++ [p])
  | [], p, _, h, _ => ⟨h, (fun _ h => (nomatch h)), trivial⟩
  | q :: r, p, n, h, b => ⟨n.1, fun z hz => by
    rcases List.mem_append.mp hz with hz | hz
    · exact n.2.1 z hz
    · rw [List.mem_singleton.mp hz]; exact b q List.mem_cons_self, nrm_snoc n.2.2 h fun z hz => b z (List.mem_cons_of_mem _ hz)⟩
theorem RNrm.rev : ∀ {l : Pss}, RNrm l → Nrm l.reverse
  | [], _ => trivial
  | p :: r, n => by
    rw [List.reverse_cons]
    exact nrm_snoc n.2.2.rev n.1 fun q h => n.2.1 q (List.mem_reverse.mp h)
theorem mem_rev {l : Pss} {x : Int} : Mem l.reverse x ↔ Mem l x := by
  constructor
  · rintro ⟨q, h, h1⟩; exact ⟨q, List.mem_reverse.mp h, h1⟩
  · rintro ⟨q, h, h1⟩; exact ⟨q, List.mem_reverse.mpr h, h1⟩
def ind (b : Prop) [Decidable b] : Int := if b then 1 else 0
theorem ind_t {b : Prop} [Decidable b] (h : b) : ind b = 1 := if_pos h
theorem ind_f {b : Prop} [Decidable b] (h : ¬ b) : ind b = 0 := if_neg h
def stp : Pss → Int → Int
  | [], _ => 0
  | p :: r, n => ind (p.1 = n) - ind (p.2 + 1 = n) + stp r n
def cov : Pss → Int → Int
  | [], _ => 0
  | p :: r, x => ind (p.1 ≤ x) - ind (p.2 + 1 ≤ x) + cov r x
theorem cov_pos : ∀ {l : Pss} {x : Int}, (∀ p ∈ l, p.1 ≤ p.2) → 0 ≤ cov l x ∧ (0 < cov l x ↔ Mem l x)
  | [], x, _ => ⟨Int.le_refl _, (fun h => absurd h (by simp [cov])), fun h => absurd h mem_nil⟩
  | p :: r, x, h => by
    have hp := h p List.mem_cons_self
    obtain ⟨i1, i2⟩ := cov_pos (l := r) (x := x) fun q hq => h q (List.mem_cons_of_mem _ hq)
    show 0 ≤ ind (p.1 ≤ x) - ind (p.2 + 1 ≤ x) + cov r x ∧ (0 < ind (p.1 ≤ x) - ind (p.2 + 1 ≤ x) + cov r x ↔ _)
    rw [mem_cons]
    by_cases c1 : p.1 ≤ x
    · by_cases c2 : p.2 + 1 ≤ x
      · rw [ind_t c1, ind_t c2]
        refine ⟨by omega, ?_⟩
        rw [show (1 : Int) - 1 + cov r x = cov r x by omega, i2]
        exact ⟨.inr, fun z => z.elim (fun z => by omega) id⟩
      · rw [ind_t c1, ind_f c2]
        exact ⟨by omega, fun _ => .inl ⟨c1, by omega⟩, fun _ => by omega⟩
    · have c2 : ¬ p.2 + 1 ≤ x := by omega
      rw [ind_f c1, ind_f c2]
      refine ⟨by omega, ?_⟩
      rw [show (0 : Int) - 0 + cov r x = cov r x by omega, i2]
      exact ⟨.inr, fun z => z.elim (fun z => by omega) id⟩
theorem ind_iff {a b : Prop} [Decidable a] [Decidable b] (h : a ↔ b) : ind a = ind b := by
  by_cases c : a
  · rw [ind_t c, ind_t (h.mp c)]
  · rw [ind_f c, ind_f fun z => c (h.mpr z)]
theorem cov_same : ∀ {l : Pss} {k x : Int}, k ≤ x → (∀ p ∈ l, ¬ (k < p.1 ∧ p.1 ≤ x) ∧ ¬ (k < p.2 + 1 ∧ p.2 + 1 ≤ x)) → cov l x = cov l k
  | [], _, _, _, _ => rfl
  | p :: r, k, x, hk, h => by
    have h1 := h p List.mem_cons_self
    show ind (p.1 ≤ x) - ind (p.2 + 1 ≤ x) + cov r x = ind (p.1 ≤ k) - ind (p.2 + 1 ≤ k) + cov r k
    rw [cov_same hk fun q hq => h q (List.mem_cons_of_mem _ hq), ind_iff (a := p.1 ≤ x) (b := p.1 ≤ k) (by omega), ind_iff (a := p.2 + 1 ≤ x) (b := p.2 + 1 ≤ k) (by omega)]
theorem ind_split {a b c : Prop} [Decidable a] [Decidable b] [Decidable c] (h : a ↔ b ∨ c) (n : ¬ (b ∧ c)) : ind a = ind b + ind c := by
  by_cases cb : b
  · rw [ind_t (h.mpr (.inl cb)), ind_t cb, ind_f fun z => n ⟨cb, z⟩]; rfl
  · by_cases cc : c
    · rw [ind_t (h.mpr (.inr cc)), ind_f cb, ind_t cc]; rfl
    · rw [ind_f fun z => (h.mp z).elim cb cc, ind_f cb, ind_f cc]; rfl
theorem cov_step : ∀ {l : Pss} {k x : Int}, k < x → (∀ p ∈ l, ¬ (k < p.1 ∧ p.1 < x) ∧ ¬ (k < p.2 + 1 ∧ p.2 + 1 < x)) → cov l x = cov l k + stp l x
  | [], _, _, _, _ => rfl
  | p :: r, k, x, hk, h => by
    have h1 := h p List.mem_cons_self
    show ind (p.1 ≤ x) - ind (p.2 + 1 ≤ x) + cov r x = ind (p.1 ≤ k) - ind (p.2 + 1 ≤ k) + cov r k + (ind (p.1 = x) - ind (p.2 + 1 = x) + stp r x)
    rw [cov_step hk fun q hq => h q (List.mem_cons_of_mem _ hq), ind_split (a := p.1 ≤ x) (b := p.1 ≤ k) (c := p.1 = x) (by omega) (by omega), ind_split (a := p.2 + 1 ≤ x) (b := p.2 + 1 ≤ k) (c := p.2 + 1 = x) (by omega) (by omega)]
    omega
def AscI : List Int → Prop
  | [] => True
  | k :: r => (∀ j ∈ r, k < j) ∧ AscI r
theorem below : ∀ (ks : List Int), ∃ b : Int, ∀ k ∈ ks, b < k
  | [] => ⟨0, fun _ h => nomatch h⟩
  | k :: r => by
    obtain ⟨b, h⟩ := below r
    refine ⟨min b (k - 1), fun j hj => ?_⟩
    rcases List.mem_cons.mp hj with rfl | hj
    · omega
    · have := h j hj; omega
def tot : Pss → Int
  | [] => 0
  | p :: r => p.2 - p.1 + 1 + tot r
end Rg
set_option Elab.async false
set_option linter.all false
set_option maxRecDepth 100000
set_option maxHeartbeats 4000000
namespace Pl
open PySem PySem.Spec PyProof.Rows L2 Mp
end Pl
set_option Elab.async false
set_option linter.all false
set_option maxRecDepth 100000
set_option maxHeartbeats 400000
namespace Pl
open PySem PySem.Spec PyProof.Rows L2 Mp
section
variable {hp : List O} {n : Nat} {o : O} {R : S → List O → Prop} {Xp : MX}
end
end Pl
set_option Elab.async false
set_option linter.all false
set_option maxRecDepth 100000
set_option maxHeartbeats 400000
namespace Pl
open PySem PySem.Spec PyProof.Rows L2 Mp
section
variable {hp : List O} {n : Nat} {o : O} {R : S → List O → Prop} {Xp : MX}
theorem at0 {g : List Int} {a : Nat} (h : a < g.length) : atI g (a : Int) = some g[a] := by
  rw [atI_nat (by omega) (by omega)]
  simp only [Int.toNat_natCast]
theorem at_last {τ : Type} {xs : List τ} {y : τ} : atI (xs ++ [y]) (-1) = some y := by
  unfold atI
  rw [ixN_last (by simp)]
  simp
theorem retN {m k : Nat} {A : Prop} {hp1 : List O} {X : Option O} {t1 : Tg R} {t2 : Tg (A, retO m R hp1 X t1)} {ds : List D} (hk : ¬ k < m) (q : X = some (.lst ds)) (h : R (.d (.lst ds)) (hp1.take m)) : brH (decide (k < m)) A (retO m R hp1 X t1) t2 := by
  subst q
  exact brH_of (fun hz => absurd (of_decide_eq_true hz) hk) fun _ => h
end
end Pl
set_option Elab.async false
set_option linter.all false
set_option maxRecDepth 100000
set_option maxHeartbeats 400000
namespace Mp
open PySem PySem.Spec PyProof.Rows L2
theorem chars_inj : ∀ {xs ys : List Char}, xs.map Char.toNat = ys.map Char.toNat → xs = ys
  | [], [], _ => rfl
  | [], _ :: _, h => by cases h
  | _ :: _, [], h => by cases h
  | x :: xs, y :: ys, h => by
    simp only [List.map_cons, List.cons.injEq] at h
    rw [chars_inj h.2, Char.toNat_inj.mp h.1]
theorem ofS_inj {a b : String} : Str.ofString a = Str.ofString b ↔ a = b := by
  constructor
  · intro h
    rw [Str.ofString_eq_toList, Str.ofString_eq_toList] at h
    have h1 := congrArg (fun z : Str => z.cps.toList) h
    simp only at h1
    exact String.ext (chars_inj h1)
  · intro h; rw [h]
@[simp] theorem ofS_beq {a b : String} : (Str.ofString a == Str.ofString b) = decide (a = b) := by
  by_cases h : a = b
  · subst h; simp
  · simp [h, ofS_inj]
theorem shD_s {s : Str} : shD (.str s) = PyData.strOk s := by simp [shD, SeqAt.shaped, D.py, PyData.canLay0, PyData.depth]
@[simp] theorem ofS_ok {a : String} : PyData.strOk (Str.ofString a) = true := by
  rw [Str.ofString_eq_toList]
  simp only [PyData.strOk, List.all_toArray, List.all_map, List.all_eq_true]
  intro c _
  have := c.valid
  simp only [Function.comp, decide_eq_true_eq]
  rcases this with h | h
  · show c.val.toNat < _; omega
  · show c.val.toNat < _; omega
@[simp] theorem shD_str {a : String} : shD (.str (Str.ofString a)) = true := by rw [shD_s]; exact ofS_ok
@[simp] theorem isNon_non : isNon .non = true := rfl
@[simp] theorem isNon_tup {x : List D} : isNon (.tup x) = false := rfl
@[simp] theorem isNon_lst {x : List D} : isNon (.lst x) = false := rfl
@[simp] theorem isNon_int {x : Int} : isNon (.int x) = false := rfl
@[simp] theorem isNon_str {x : Str} : isNon (.str x) = false := rfl
@[simp] theorem isNon_bl {x : Bool} : isNon (.bl x) = false := rfl
end Mp
namespace Tb
open PySem PySem.Spec PyProof.Rows L2 Mp Pl
abbrev T2 := Int × Int
def ipD (p : Int × Int) : D := .tup [.int p.1, .int p.2]
abbrev tagD (t : T2) : D := ipD t
structure Prt where
  nm : Str
  ix : Nat
  w : Str
  df : D
def prD (p : Prt) : D := .tup [.str p.nm, .int p.ix, .str p.w, p.df]
def pairsD (ps : List (Int × Int)) : D := .tup (ps.map ipD)
def entD (p : Str × Int) : D := .tup [.str p.1, .int p.2]
def altD (p : Str × Nat) : D := .tup [.str p.1, .int (p.2 : Int)]
def optD {τ : Type} (f : τ → D) : Option (List τ) → D
  | none => .non
  | some l => .tup (l.map f)
def grpD (g : List Prt) : D := .tup (g.map prD)
inductive UK | boolean | nothing
inductive SK | bits | octets | path
inductive RK | sequence | set
inductive WK | row | bag
def UK.s : UK → Str | .boolean => "boolean" | .nothing => "nothing"
def SK.s : SK → Str | .bits => "bits" | .octets => "octets" | .path => "path"
def RK.s : RK → Str | .sequence => "sequence" | .set => "set"
def WK.s : WK → Str | .row => "row" | .bag => "bag"
inductive Nod where
  | un (k : UK) (t : T2)
  | nu (t : T2) (rs : List (Int × Int))
  | na (t : T2) (root : List (Str × Int)) (added : Option (List (Str × Int)))
  | si (k : SK) (t : T2) (sz : List (Int × Int))
  | te (t : T2) (ls : Str) (sz : List (Int × Int))
  | rc (k : RK) (t : T2) (ps : List Prt) (gs : Option (List (List Prt)))
  | rw (k : WK) (t : T2) (e : Nat) (sz : List (Int × Int))
  | ch (as : List (Str × Nat)) (ad : Option (List (Str × Nat)))
  | wr (t : T2) (e : Nat)
def nodD : Nod → D
  | .un k t => .tup [.str k.s, tagD t]
  | .nu t rs => .tup [.str "number", tagD t, pairsD rs]
  | .na t r a => .tup [.str "names", tagD t, .tup (r.map entD), optD entD a]
  | .si k t sz => .tup [.str k.s, tagD t, pairsD sz]
  | .te t ls sz => .tup [.str "text", tagD t, .str ls, pairsD sz]
  | .rc k t ps gs => .tup [.str k.s, tagD t, .tup (ps.map prD), optD grpD gs]
  | .rw k t e sz => .tup [.str k.s, tagD t, .int e, pairsD sz]
  | .ch as ad => .tup [.str "choice", .non, .tup (as.map altD), optD altD ad]
  | .wr t e => .tup [.str "wrapped", tagD t, .int e]
def allP (ps : List Prt) (gs : Option (List (List Prt))) : List Prt := ps ++ (gs.getD []).flatten
def refs : Nod → List Nat
  | .rc _ _ ps gs => (allP ps gs).map (·.ix)
  | .rw _ _ e _ => [e]
  | .ch as ad => (as ++ ad.getD []).map (·.2)
  | .wr _ e => [e]
  | _ => []
def tg : Nod → Option T2
  | .un _ t => some t
  | .nu t _ => some t
  | .na t _ _ => some t
  | .si _ t _ => some t
  | .te t _ _ => some t
  | .rc _ t _ _ => some t
  | .rw _ t _ _ => some t
  | .ch _ _ => none
  | .wr t _ => some t
def small : Nod → Prop
  | .rc _ _ ps gs => ps.length ≤ 1000 ∧ (gs.getD []).length ≤ 1000 ∧ (allP ps gs).length ≤ 1000
  | .ch as ad => (as ++ ad.getD []).length ≤ 1000
  | _ => True
structure NodOk (n : Nat) (x : Nod) : Prop where
  ref : ∀ i ∈ refs x, i < n
  tag : ∀ t, tg x = some t → (0 ≤ t.1 ∧ t.1 ≤ 3) ∧ 0 ≤ t.2 ∧ t.2 ≤ 16383
  sm : small x
section
variable {hp : List O} {i n : Nat} {o : O} {R : S → List O → Prop} {Xp : MX} {T : List Nod}
end
end Tb
set_option Elab.async false
set_option linter.all false
set_option maxRecDepth 100000
set_option maxHeartbeats 400000
namespace Tb
open PySem PySem.Spec PyProof.Rows L2 Mp Pl
inductive Rch (nx : Nat → List Nat) (st : List Nat) : Nat → Prop
  | base {s : Nat} (h : s ∈ st) : Rch nx st s
  | step {x y : Nat} (h : Rch nx st x) (g : y ∈ nx x) : Rch nx st y
structure Dfs (nx : Nat → List Nat) (st : List Nat) (n : Nat) (W : List Nat) (M : List Bool) : Prop where
  len : M.length = n
  wlt : ∀ x ∈ W, x < n
  wr : ∀ x ∈ W, Rch nx st x
  mr : ∀ x, M[x]? = some true → Rch nx st x
  st : ∀ s ∈ st, s ∈ W ∨ M[s]? = some true
  cl : ∀ x, M[x]? = some true → ∀ y ∈ nx x, y ∈ W ∨ M[y]? = some true
section
variable {nx : Nat → List Nat} {st : List Nat} {n : Nat} {W : List Nat} {M : List Bool} {a : Nat}
theorem Dfs.start (h : ∀ s ∈ st, s < n) : Dfs nx st n st (List.replicate n false) where
  len := List.length_replicate ..
  wlt := h
  wr := fun x hx => .base hx
  mr := fun x hx => by
    rw [List.getElem?_replicate] at hx
    split at hx <;> simp at hx
  st := fun s hs => .inl hs
  cl := fun x hx => by
    rw [List.getElem?_replicate] at hx
    split at hx <;> simp at hx
theorem Dfs.old (D : Dfs nx st n (W ++ [a]) M) (h : M[a]? = some true) : Dfs nx st n W M where
  len := D.len
  wlt := fun x hx => D.wlt x (List.mem_append_left _ hx)
  wr := fun x hx => D.wr x (List.mem_append_left _ hx)
  mr := D.mr
  st := fun s hs => by
    rcases D.st s hs with q | q
    · rcases List.mem_append.mp q with q | q
      · exact .inl q
      · rw [List.mem_singleton.mp q]; exact .inr h
    · exact .inr q
  cl := fun x hx y hy => by
    rcases D.cl x hx y hy with q | q
    · rcases List.mem_append.mp q with q | q
      · exact .inl q
      · rw [List.mem_singleton.mp q]; exact .inr h
    · exact .inr q
theorem set_true {x : Nat} (h : (M.set a true)[x]? = some true) : x = a ∨ M[x]? = some true := by
  by_cases e : a = x
  · exact .inl e.symm
  · rw [List.getElem?_set_ne e] at h; exact .inr h
theorem set_keep {x : Nat} (h : M[x]? = some true) : (M.set a true)[x]? = some true := by
  by_cases e : a = x
  · subst e
    rw [List.getElem?_set_self (List.getElem?_eq_some_iff.mp h).1]
  · rw [List.getElem?_set_ne e]; exact h
theorem Dfs.new (D : Dfs nx st n (W ++ [a]) M) (hn : ∀ y ∈ nx a, y < n) : Dfs nx st n (W ++ nx a) (M.set a true) := by
  have ha : a < n := D.wlt a (by simp)
  have hs : (M.set a true)[a]? = some true := by rw [List.getElem?_set_self (by rw [D.len]; exact ha)]
  have hr : Rch nx st a := D.wr a (by simp)
  refine ⟨by rw [List.length_set]; exact D.len, fun x hx => ?_, fun x hx => ?_, fun x hx => ?_, fun s hs' => ?_, fun x hx y hy => ?_⟩
  · rcases List.mem_append.mp hx with q | q
    · exact D.wlt x (List.mem_append_left _ q)
    · exact hn x q
  · rcases List.mem_append.mp hx with q | q
    · exact D.wr x (List.mem_append_left _ q)
    · exact .step hr q
  · rcases set_true hx with rfl | q
    · exact hr
    · exact D.mr x q
  · rcases D.st s hs' with q | q
    · rcases List.mem_append.mp q with q | q
      · exact .inl (List.mem_append_left _ q)
      · rw [List.mem_singleton.mp q]; exact .inr hs
    · exact .inr (set_keep q)
  · rcases set_true hx with rfl | q
    · exact .inl (List.mem_append_right _ hy)
    · rcases D.cl x q y hy with q | q
      · rcases List.mem_append.mp q with q | q
        · exact .inl (List.mem_append_left _ q)
        · rw [List.mem_singleton.mp q]; exact .inr hs
      · exact .inr (set_keep q)
theorem Dfs.fin (D : Dfs nx st n [] M) {x : Nat} : M[x]? = some true ↔ Rch nx st x := by
  refine ⟨D.mr x, fun h => ?_⟩
  induction h with
  | base h => exact (D.st _ h).elim (fun q => by cases q) id
  | step h g ih => exact (D.cl _ ih _ g).elim (fun q => by cases q) id
inductive RchN (nx : Nat → List Nat) (st : List Nat) : Nat → Nat → Prop
  | base {s d : Nat} (h : s ∈ st) : RchN nx st d s
  | step {x y d : Nat} (h : RchN nx st d x) (g : y ∈ nx x) : RchN nx st (d + 1) y
theorem RchN.mono {d e x : Nat} (h : RchN nx st d x) (le : d ≤ e) : RchN nx st e x := by
  induction h generalizing e with
  | base h => exact .base h
  | step h g ih =>
    obtain ⟨e', rfl⟩ : ∃ e', e = e' + 1 := ⟨e - 1, by omega⟩
    exact .step (ih (by omega)) g
end
section
variable {τ : Type} [DecidableEq τ]
def uniq (l : List τ) : List τ := l.foldl (fun acc x => if x ∈ acc then acc else acc ++ [x]) []
theorem uniq_gen : ∀ (l acc : List τ), acc.Nodup → (l.foldl (fun acc x => if x ∈ acc then acc else acc ++ [x]) acc).Nodup ∧ (∀ x, x ∈ l.foldl (fun acc x => if x ∈ acc then acc else acc ++ [x]) acc ↔ x ∈ acc ∨ x ∈ l) ∧ (l.foldl (fun acc x => if x ∈ acc then acc else acc ++ [x]) acc).length ≤ acc.length + l.length
  | [], acc, h => ⟨h, fun x => by simp, by simp⟩
  | y :: l, acc, h => by
    simp only [List.foldl_cons]
    by_cases c : y ∈ acc
    · rw [if_pos c]
      obtain ⟨h1, h2, h3⟩ := uniq_gen l acc h
      refine ⟨h1, fun x => ?_, by simp only [List.length_cons]; omega⟩
      rw [h2 x]
      simp only [List.mem_cons]
      constructor
      · rintro (q | q)
        · exact .inl q
        · exact .inr (.inr q)
      · rintro (q | rfl | q)
        · exact .inl q
        · exact .inl c
        · exact .inr q
    · rw [if_neg c]
      obtain ⟨h1, h2, h3⟩ := uniq_gen l (acc ++ [y]) (by
        rw [List.nodup_append]
        refine ⟨h, by simp, fun a ha b hb => ?_⟩
        simp at hb
        subst hb
        exact fun z => c (z ▸ ha))
      refine ⟨h1, fun x => ?_, by simp only [List.length_cons, List.length_append, List.length_nil] at *; omega⟩
      rw [h2 x]
      simp only [List.mem_append, List.mem_cons, List.mem_singleton, List.not_mem_nil, or_false]
      constructor
      · rintro ((q | q) | q)
        · exact .inl q
        · exact .inr (.inl q)
        · exact .inr (.inr q)
      · rintro (q | q | q)
        · exact .inl (.inl q)
        · exact .inl (.inr q)
        · exact .inr q
theorem uniq_nodup (l : List τ) : (uniq l).Nodup := (uniq_gen l [] .nil).1
theorem mem_uniq {l : List τ} {x : τ} : x ∈ uniq l ↔ x ∈ l := by
  have := (uniq_gen l [] .nil).2.1 x
  unfold uniq
  simpa using this
theorem uniq_len (l : List τ) : (uniq l).length ≤ l.length := by
  have := (uniq_gen l [] .nil).2.2
  unfold uniq
  simpa using this
theorem uniq_snoc {l : List τ} {x : τ} : uniq (l ++ [x]) = if x ∈ uniq l then uniq l else uniq l ++ [x] := by
  unfold uniq
  rw [List.foldl_append]
  rfl
end
theorem strict_eq {τ : Type} {lt : τ → τ → Prop} (irr : ∀ a, ¬ lt a a) (tr : ∀ a b c, lt a b → lt b c → lt a c) : ∀ {l m : List τ}, l.Pairwise lt → m.Pairwise lt → (∀ x, x ∈ l ↔ x ∈ m) → l = m
  | [], [], _, _, _ => rfl
  | [], y :: m, _, _, h => absurd ((h y).mpr (by simp)) (by simp)
  | x :: l, [], _, _, h => absurd ((h x).mp (by simp)) (by simp)
  | x :: l, y :: m, hl, hm, h => by
    obtain ⟨h1, h2⟩ := List.pairwise_cons.mp hl
    obtain ⟨h3, h4⟩ := List.pairwise_cons.mp hm
    have exy : x = y := by
      rcases List.mem_cons.mp ((h x).mp (by simp)) with q | q
      · exact q
      · rcases List.mem_cons.mp ((h y).mpr (by simp)) with r | r
        · exact r.symm
        · exact absurd (tr _ _ _ (h3 x q) (h1 y r)) (irr y)
    subst exy
    rw [strict_eq irr tr h2 h4 fun z => ?_]
    constructor
    · intro hz
      rcases List.mem_cons.mp ((h z).mp (List.mem_cons_of_mem _ hz)) with q | q
      · subst q; exact absurd (h1 z hz) (irr z)
      · exact q
    · intro hz
      rcases List.mem_cons.mp ((h z).mpr (List.mem_cons_of_mem _ hz)) with q | q
      · subst q; exact absurd (h3 z hz) (irr z)
      · exact q
def tlt (a b : T2) : Prop := a.1 < b.1 ∨ (a.1 = b.1 ∧ a.2 < b.2)
def tle (a b : T2) : Bool := decide (a.1 < b.1 ∨ (a.1 = b.1 ∧ a.2 ≤ b.2))
theorem tlt_irr (a : T2) : ¬ tlt a a := by unfold tlt; omega
theorem tlt_tr (a b c : T2) : tlt a b → tlt b c → tlt a c := by unfold tlt; omega
def Sd (l : List T2) : Prop := l.Pairwise tlt
theorem sd_eq {l m : List T2} (h1 : Sd l) (h2 : Sd m) (h : ∀ x, x ∈ l ↔ x ∈ m) : l = m := strict_eq tlt_irr tlt_tr h1 h2 h
theorem leD_pair {a b : T2} : leD (ipD a) (ipD b) = tle a b := by
  have := congrFun (congrFun (PySem.W.dataLe_ii (β := T2) (fun p => p.1) (fun p => p.2)) a) b
  have e : ∀ p : T2, (ipD p).py = .tuple [.int p.1, .int p.2] := fun p => by simp [ipD, D.py, D.pyL]
  show (PySem.W.dataLe false D.py (ipD a) (ipD b)) = _
  have e2 : PySem.W.dataLe false D.py (ipD a) (ipD b) = PySem.W.dataLe false (fun p : T2 => PyData.tuple [.int p.1, .int p.2]) a b := by
    show (!PySem.W.dataLt (ipD b).py (ipD a).py) = (!PySem.W.dataLt _ _)
    rw [e, e]
  rw [e2, this]
  rfl
theorem leD_int {a b : Int} : leD (.int a) (.int b) = decide (a ≤ b) := by
  have := congrFun (congrFun (PySem.W.dataLe_int (β := Int) (fun p => p)) a) b
  have e2 : PySem.W.dataLe false D.py (.int a) (.int b) = PySem.W.dataLe false (fun p : Int => PyData.int p) a b := by
    show (!PySem.W.dataLt (D.int b).py (D.int a).py) = (!PySem.W.dataLt _ _)
    simp [D.py]
  exact e2.trans this
theorem tle_tr (a b c : T2) : tle a b = true → tle b c = true → tle a c = true := by simp only [tle, decide_eq_true_eq]; omega
theorem tle_tot (a b : T2) : (tle a b || tle b a) = true := by simp only [tle, Bool.or_eq_true, decide_eq_true_eq]; omega
def srtN (l : List Int) : List Int := (uniq l).mergeSort fun a b => decide (a ≤ b)
theorem sortD_ints {l : List Int} : sortD (iL (uniq l)) = iL (srtN l) := by
  unfold sortD srtN iL
  rw [List.map_mergeSort (s := leD)]
  exact fun a _ b _ => (leD_int).symm
theorem srtN_lt (l : List Int) : (srtN l).Pairwise (· < ·) := by
  have hn : (srtN l).Nodup := (List.mergeSort_perm (uniq l) _).nodup_iff.mpr (uniq_nodup l)
  have hp : (srtN l).Pairwise fun a b => decide (a ≤ b) = true := List.pairwise_mergeSort (by simp; omega) (by simp; omega) (uniq l)
  generalize srtN l = m at *
  induction m with
  | nil => exact .nil
  | cons a r ih =>
    obtain ⟨h1, h2⟩ := List.pairwise_cons.mp hp
    obtain ⟨n1, n2⟩ := List.nodup_cons.mp hn
    refine List.pairwise_cons.mpr ⟨fun b hb => ?_, ih n2 h2⟩
    have h3 := h1 b hb
    simp at h3
    have : a ≠ b := fun z => n1 (z ▸ hb)
    omega
theorem mem_srtN {l : List Int} {x : Int} : x ∈ srtN l ↔ x ∈ l := by rw [srtN, List.mem_mergeSort, mem_uniq]
end Tb
set_option Elab.async false
set_option linter.all false
set_option maxRecDepth 100000
set_option maxHeartbeats 400000
namespace Tb
open PySem PySem.Spec PyProof.Rows L2 Mp Pl
def nxC (T : List Nod) (x : Nat) : List Nat := match T[x]? with
  | some (.ch as ad) => refs (.ch as ad)
  | _ => []
def tgN (T : List Nod) (x : Nat) : Option T2 := T[x]?.bind tg
def TagsOf (T : List Nod) (st : List Nat) (l : List T2) : Prop := Sd l ∧ ∀ t, t ∈ l ↔ ∃ x, Rch (nxC T) st x ∧ tgN T x = some t
theorem TagsOf.eq {T : List Nod} {st : List Nat} {l m : List T2} (h1 : TagsOf T st l) (h2 : TagsOf T st m) : l = m := sd_eq h1.1 h2.1 fun t => (h1.2 t).trans (h2.2 t).symm
def nL (W : List Nat) : List D := W.map fun x : Nat => D.int (x : Int)
@[simp] theorem nL_len {V : List Nat} : (nL V).length = V.length := List.length_map ..
@[simp] theorem nL_nil : nL [] = [] := rfl
@[simp] theorem nL_emp {V : List Nat} : (nL V).isEmpty = V.isEmpty := by cases V <;> rfl
def bL (l : List Bool) : List D := l.map D.bl
@[simp] theorem bL_len {l : List Bool} : (bL l).length = l.length := List.length_map ..
@[simp] theorem atI_bL {l : List Bool} {i : Int} : atI (bL l) i = (atI l i).map D.bl := atI_map
@[simp] theorem bL_set {l : List Bool} {b : Bool} {j : Nat} : (bL l).set j (D.bl b) = bL (l.set j b) := (List.map_set ..).symm
section
variable {hp : List O} {i n : Nat} {o : O} {R : S → List O → Prop} {Xp : MX} {T : List Nod}
end
end Tb
set_option Elab.async false
set_option linter.all false
set_option maxRecDepth 100000
set_option maxHeartbeats 400000
namespace Tb
open PySem PySem.Spec PyProof.Rows L2 Mp Pl
section
variable {hp : List O} {i n : Nat} {o : O} {R : S → List O → Prop} {Xp : MX} {T : List Nod}
end
end Tb
set_option Elab.async false
set_option linter.all false
set_option maxRecDepth 100000
set_option maxHeartbeats 400000
namespace Tb
open PySem PySem.Spec PyProof.Rows L2 Mp Pl
@[simp] theorem eqD_pair {a b : Int × Int} : eqD (ipD a) (ipD b) = decide (a = b) := by
  obtain ⟨a1, a2⟩ := a
  obtain ⟨b1, b2⟩ := b
  simp only [eqD, ipD, D.py, D.pyL, PyData.eqv, PyData.eqvAll, Prod.mk.injEq]
  by_cases h1 : a1 = b1 <;> by_cases h2 : a2 = b2 <;> simp [h1, h2]
@[simp] theorem shD_ip {a : Int × Int} : shD (ipD a) = true := by
  simp [shD, SeqAt.shaped, ipD, D.py, D.pyL, PyData.canLay0, PyData.canLayAll0, PyData.depth, PyData.depthAll]
structure Apt {τ : Type} [DecidableEq τ] (f : τ → D) : Prop where
  eq : ∀ a b, eqD (f a) (f b) = decide (a = b)
  sh : ∀ a, shD (f a) = true
  al : ∀ a b, PySem.W.alike (f a).py (f b).py = true
  so : (∀ a, ∃ x r, (f a).py = .tuple (x :: r)) ∨ ∀ a, (f a).py ≠ .none ∧ ∀ xs, (f a).py ≠ .tuple xs
theorem apt_pair : Apt (τ := T2) ipD where
  eq _ _ := eqD_pair
  sh _ := shD_ip
  al a b := by simp [ipD, D.py, D.pyL, PySem.W.alike, PySem.W.alikeAll]
  so := .inl fun a => ⟨.int a.1, [.int a.2], by simp [ipD, D.py, D.pyL]⟩
theorem apt_int : Apt (τ := Int) D.int where
  eq _ _ := eqD_int
  sh _ := shD_int
  al a b := by simp [D.py, PySem.W.alike]
  so := .inr fun a => ⟨by simp [D.py], fun xs => by simp [D.py]⟩
section
variable {τ : Type} [DecidableEq τ] {f : τ → D}
theorem alike_map (hf : Apt f) (l : List τ) : PySem.W.AllAlike ((l.map f).map D.py) := by
  intro d hd d' hd'
  rw [List.map_map] at hd hd'
  obtain ⟨a, _, rfl⟩ := List.mem_map.mp hd
  obtain ⟨b, _, rfl⟩ := List.mem_map.mp hd'
  exact hf.al a b
theorem sortable_map (hf : Apt f) (l : List τ) : PySem.W.Sortable ((l.map f).map D.py) := by
  rw [List.map_map]
  rcases hf.so with h | h
  · refine .inl fun d hd => ?_
    obtain ⟨a, _, rfl⟩ := List.mem_map.mp hd
    exact h a
  · refine .inr fun d hd => ?_
    obtain ⟨a, _, rfl⟩ := List.mem_map.mp hd
    exact h a
variable {hp : List O} {i n : Nat} {o : O} {R : S → List O → Prop} {Xp : MX} {T : List Nod}
end
end Tb
set_option Elab.async false
set_option linter.all false
set_option maxRecDepth 100000
set_option maxHeartbeats 1600000
namespace Rn
open PySem PySem.Spec PyProof.Rows L2 Mp Pl Tb Rg
abbrev pD (p : Int × Int) : D := .tup [.int p.1, .int p.2]
abbrev psD (l : Pss) : List D := l.map pD
abbrev rgD (l : Pss) : D := .obj "Ranges" ["spans"] [.tup (psD l)]
def has (l : Pss) (x : Int) : Bool := l.any fun p => decide (p.1 ≤ x) && decide (x ≤ p.2)
theorem has_iff {l : Pss} {x : Int} : has l x = true ↔ Mem l x := by
  unfold has Mem
  simp [List.any_eq_true]
@[simp] theorem lk_spans {t : D} : List.lookup ("spans" : Str) [(("spans" : Str), t)] = some t := by simp [List.lookup]
section
variable {hp : List O} {R : S → List O → Prop} {Xp : MX}
theorem sp_clamp {a b c : Int} {tg : Tg (m__law_clamp, R, Xp)} (h : R (.d (.int (max b (min c a)))) hp) : mfH m__law_clamp hp [.d (.int a), .d (.int b), .d (.int c)] R Xp tg := by
  refine mfH_of ?_
  unfold m__law_clamp
  simp
  rw [show (if b < if a < c then a else c then if a < c then a else c else b) = max b (min c a) by split <;> split <;> omega]
  exact h
theorem sp_within {l : Pss} {x : Int} {s : S} {tg : Tg (m__law_within, R, Xp)} (hv : s = .d (.tup (psD l)) ∨ s = .d (.lst (psD l))) (h : R (.d (.bl (has l x))) hp) : mfH m__law_within hp [s, .d (.int x)] R Xp tg := by
  refine mfH_of ?_
  unfold m__law_within
  rcases hv with rfl | rfl
  all_goals
    simp
    refine forH_of (fun rest hp' env' => ∃ (r : Pss) (y : Option S), rest = psD r ∧ hp = hp' ∧ has l x = has r x ∧ env' = [some _, some (.d (.int x)), y]) ⟨l, none, rfl, rfl, rfl, rfl⟩ ?_ ?_
    · rintro d rest _ _ N ⟨r, y, er, rfl, e, rfl⟩ hN
      cases r with
      | nil => cases er
      | cons p r =>
        cases er
        simp
        by_cases c1 : p.1 ≤ x
        · by_cases c2 : x ≤ p.2
          · simp [c1, c2]
            rw [show has l x = true by rw [e]; simp [has, c1, c2]] at h
            exact h
          · simp [c1, c2]
            exact hN _ _ trivial ⟨r, _, rfl, rfl, by rw [e]; simp [has, c2], rfl⟩
        · simp [c1]
          exact hN _ _ trivial ⟨r, _, rfl, rfl, by rw [e]; simp [has, c1], rfl⟩
    · rintro _ _ ⟨r, y, er, rfl, e, rfl⟩
      have : r = [] := by cases r with | nil => rfl | cons _ _ => cases er
      subst this
      simp
      rw [e] at h
      exact h
theorem sp_members {l : Pss} {s : S} {tg : Tg (m__law_members, R, Xp)} (hv : s = .d (.tup (psD l)) ∨ s = .d (.lst (psD l))) (h : R (.d (.int (tot l))) hp) : mfH m__law_members hp [s] R Xp tg := by
  refine mfH_of ?_
  unfold m__law_members
  rcases hv with rfl | rfl
  all_goals
    simp
    refine forH_of (fun rest hp' env' => ∃ (r : Pss) (a : Int) (y : Option S), rest = psD r ∧ hp = hp' ∧ tot l = a + tot r ∧ env' = [some _, some (.d (.int a)), y]) ⟨l, 0, none, rfl, rfl, by omega, rfl⟩ ?_ ?_
    · rintro d rest _ _ N ⟨r, a, y, er, rfl, e, rfl⟩ hN
      cases r with
      | nil => cases er
      | cons p r =>
        cases er
        simp
        refine hN _ _ trivial ⟨r, _, _, rfl, rfl, ?_, rfl⟩
        rw [e]
        show a + (p.2 - p.1 + 1 + tot r) = _
        omega
    · rintro _ _ ⟨r, a, y, er, rfl, e, rfl⟩
      have : r = [] := by cases r with | nil => rfl | cons _ _ => cases er
      subst this
      simp
      rw [e] at h
      simpa [tot] using h
theorem sp_pairs {l : Pss} {tg : Tg (m_Ranges_pairs, R, Xp)} (h : R (.d (.tup (psD l))) hp) : mfH m_Ranges_pairs hp [.d (rgD l)] R Xp tg := by
  refine mfH_of ?_
  unfold m_Ranges_pairs
  simp
  exact h
theorem ints_sum {l : Pss} : intsS (l.map fun p => D.int (p.2 - p.1 + 1)) = some (l.map fun p => p.2 - p.1 + 1) := by
  induction l with
  | nil => rfl
  | cons p r ih =>
    show ((intsS (r.map fun p => D.int (p.2 - p.1 + 1))).bind fun l => some ((p.2 - p.1 + 1) :: l)) = _
    rw [ih]
    rfl
theorem tot_sum : ∀ {l : Pss}, (l.map fun p => p.2 - p.1 + 1).sum = tot l
  | [] => rfl
  | p :: r => by rw [List.map_cons, List.sum_cons, tot_sum]; rfl
theorem sp_many {l : Pss} {tg : Tg (m_Ranges_many, R, Xp)} (hl : l.length ≤ 16777216) (h : R (.d (.int (tot l))) hp) : mfH m_Ranges_many hp [.d (rgD l)] R Xp tg := by
  refine mfH_of ?_
  unfold m_Ranges_many
  simp
  refine compH_of (fun acc rest hp' => ∃ (a r : Pss), rest = psD r ∧ hp = hp' ∧ l = a ++ r ∧ acc = a.map fun p => D.int (p.2 - p.1 + 1)) (by rw [le_size]; simpa using hl) ⟨[], l, rfl, rfl, rfl, rfl⟩ ?_ ?_
  · rintro acc d rest _ N ⟨a, r, er, rfl, e, rfl⟩ hN
    cases r with
    | nil => cases er
    | cons p r =>
      cases er
      simp
      exact hN _ _ trivial ⟨a ++ [p], r, rfl, rfl, by rw [e]; simp, by simp⟩
  · rintro acc _ ⟨a, r, er, rfl, e, rfl⟩
    have : r = [] := by cases r with | nil => rfl | cons _ _ => cases er
    subst this
    rw [List.append_nil] at e
    subst e
    simp
    rw [ints_sum]
    simp
    rw [tot_sum]
    exact h
theorem sp_contains {l : Pss} {x : Int} {tg : Tg (m_Ranges___contains__, R, Xp)} (hl : l.length ≤ 16777216) (h : R (.d (.bl (has l x))) hp) : mfH m_Ranges___contains__ hp [.d (rgD l), .d (.int x)] R Xp tg := by
  refine mfH_of ?_
  unfold m_Ranges___contains__
  simp
  refine compH_of (fun acc rest hp' => ∃ (a r : Pss), rest = psD r ∧ hp = hp' ∧ l = a ++ r ∧ acc = Mp.bL (a.map fun p => decide (p.1 ≤ x) && decide (x ≤ p.2))) (by rw [le_size]; simpa using hl) ⟨[], l, rfl, rfl, rfl, rfl⟩ ?_ ?_
  · rintro acc d rest _ N ⟨a, r, er, rfl, e, rfl⟩ hN
    cases r with
    | nil => cases er
    | cons p r =>
      cases er
      have nx := fun y => hN y hp trivial
      by_cases c : p.1 ≤ x
      · simp [c]
        exact hN _ _ trivial ⟨a ++ [p], r, rfl, rfl, by rw [e]; simp, by simp [Mp.bL, c]⟩
      · simp [c]
        exact hN _ _ trivial ⟨a ++ [p], r, rfl, rfl, by rw [e]; simp, by simp [Mp.bL, c]⟩
  · rintro acc _ ⟨a, r, er, rfl, e, rfl⟩
    have : r = [] := by cases r with | nil => rfl | cons _ _ => cases er
    subst this
    rw [List.append_nil] at e
    subst e
    simp
    exact h
def full (p : Int × Int) : Bool := decide (p.1 ≤ p.2)
def srt (l : Pss) : Pss := (l.filter full).mergeSort tle
def mgd (l : Pss) : Pss := (mrgL [] (srt l)).reverse
theorem sortD_ps {l : Pss} : sortD (psD l) = psD (l.mergeSort tle) := by
  show sortD (l.map ipD) = (l.mergeSort tle).map ipD
  unfold sortD
  rw [List.map_mergeSort (s := leD)]
  exact fun a _ b _ => (leD_pair).symm
theorem srt_asc {l : Pss} : Asc (srt l) := by
  have h := List.pairwise_mergeSort tle_tr tle_tot (l.filter full)
  show Asc ((l.filter full).mergeSort tle)
  generalize (l.filter full).mergeSort tle = m at h ⊢
  induction m with
  | nil => trivial
  | cons p r ih =>
    obtain ⟨h1, h2⟩ := List.pairwise_cons.mp h
    refine ⟨fun q hq => ?_, ih h2⟩
    have := h1 q hq
    simp only [tle, decide_eq_true_eq] at this
    omega
theorem mem_srt {l : Pss} {p : Int × Int} : p ∈ srt l ↔ p ∈ l ∧ p.1 ≤ p.2 := by
  unfold srt
  rw [List.mem_mergeSort, List.mem_filter]
  simp [full]
theorem mem_srt_x {l : Pss} {x : Int} : Mem (srt l) x ↔ Mem l x := by
  constructor
  · rintro ⟨p, hp, h⟩
    exact ⟨p, (mem_srt.mp hp).1, h⟩
  · rintro ⟨p, hp, h⟩
    exact ⟨p, mem_srt.mpr ⟨hp, by omega⟩, h⟩
theorem mgd_ok {l : Pss} : Nrm (mgd l) ∧ ∀ x, Mem (mgd l) x ↔ Mem l x := by
  obtain ⟨h1, h2⟩ := mrgL_ok (acc := []) (l := srt l) trivial (fun p hp => (mem_srt.mp hp).2) srt_asc (fun q h => by cases h)
  refine ⟨h1.rev, fun x => ?_⟩
  unfold mgd
  rw [mem_rev, h2, mem_srt_x]
  exact ⟨fun h => h.elim (fun h => absurd h mem_nil) id, .inr⟩
theorem mrgL_len : ∀ (l acc : Pss), (mrgL acc l).length ≤ acc.length + l.length
  | [], acc => by simp [mrgL]
  | p :: l, acc => by
    have h := mrgL_len l (mrg1 acc p)
    have h1 : (mrg1 acc p).length ≤ acc.length + 1 := by
      unfold mrg1
      split
      · split <;> simp
      · simp
    show (mrgL (mrg1 acc p) l).length ≤ _
    simp only [List.length_cons]
    omega
theorem mgd_len {l : Pss} : (mgd l).length ≤ l.length := by
  unfold mgd
  rw [List.length_reverse]
  have h := mrgL_len (srt l) []
  have h2 : (srt l).length ≤ l.length := by unfold srt; rw [List.length_mergeSort]; exact List.length_filter_le _ _
  simp at h
  omega
def fulD : D → Bool
  | .tup [.int a, .int b] => decide (a ≤ b)
  | _ => false
theorem flt_full : ∀ {l : Pss}, (psD l).filter fulD = psD (l.filter full)
  | [] => rfl
  | p :: r => by
    have ih := flt_full (l := r)
    show List.filter fulD (pD p :: psD r) = _
    have e : fulD (pD p) = full p := rfl
    by_cases c : full p = true
    · rw [List.filter_cons, e, if_pos c, List.filter_cons, if_pos c, ih]
      rfl
    · rw [List.filter_cons, e, if_neg c, List.filter_cons, if_neg c, ih]
theorem sp_merged {l : Pss} {s : S} {tg : Tg (m_merged, R, Xp)} (hl : l.length ≤ 1000000) (hv : s = .d (.tup (psD l)) ∨ s = .d (.lst (psD l)) ∨ ∃ n, s = .mu n ∧ hp[n]? = some (.lst (psD l))) (h : R (.d (.tup (psD (mgd l)))) hp) : mfH m_merged hp [s] R Xp tg := by
  refine mfH_of ?_
  unfold m_merged
  have go : ∀ N : PS → Prop, True := fun _ => trivial
  have rest : ∀ {nx bk ct : PS → Prop} {rt : S → List O → Prop} {ex : MX} {e4 : Option S} {n0 : Nat} {tg2}, nx = nx → (∀ y z e4, nx ⟨hp ++ [.lst (psD (mgd l))], [some s, some (.mu hp.length), y, z, e4], n0⟩) →
      forH none (psD (srt l)) (mgTup 2 (mgsCons (mgName 2) (mgsCons (mgName 3) mgsNil))) (mIfS (mAnd (mTru (mVar 1)) (mTest (m2 (fI0 fun i j => .bl (decide (i ≤ j))) (mVar 2) (m2 fAdd (m2 fIx (m2 fIx (mVar 1) (m1 (fU fun i => .int (-i)) (mC (.int 1)))) (mC (.int 1))) (mC (.int 1)))))) (mAsg (mTup (mCons (m2 fIx (m2 fIx (mVar 1) (m1 (fU fun i => .int (-i)) (mC (.int 1)))) (mC (.int 0))) (mCons (mN (fMM (fun i j => if j > i then j else i)) (mCons (m2 fIx (m2 fIx (mVar 1) (m1 (fU fun i => .int (-i)) (mC (.int 1)))) (mC (.int 1))) (mCons (mVar 3) mNil))) mNil))) (mgSub (mVar 1) (m1 (fU fun i => .int (-i)) (mC (.int 1))))) (mDrop (mMeth false fAppend (mVar 1) (mCons (mTup (mCons (mVar 2) (mCons (mVar 3) mNil))) mNil)))) (hp ++ [.lst []]) [some s, some (.mu hp.length), none, none, e4] n0 ⟨nx, bk, ct, rt, ex⟩ tg2 := by
    intro nx bk ct rt ex e4 n0 tg2 _ hn
    have hls : (srt l).length ≤ l.length := by unfold srt; rw [List.length_mergeSort]; exact List.length_filter_le _ _
    refine forH_of (fun rest hp' env' => ∃ (a r : Pss) (y z e4 : Option S), rest = psD r ∧ srt l = a ++ r ∧ hp' = hp ++ [.lst (psD (mrgL [] a).reverse)] ∧ env' = [some s, some (.mu hp.length), y, z, e4]) ⟨[], srt l, none, none, e4, rfl, rfl, rfl, rfl⟩ ?_ ?_
    · rintro d rest _ _ N ⟨a, r, y, z, e4, er, e, rfl, rfl⟩ hN
      cases r with
      | nil => cases er
      | cons p r =>
        cases er
        have eL : mrgL [] (a ++ [p]) = mrg1 (mrgL [] a) p := by unfold mrgL; rw [List.foldl_append]; rfl
        have nx' : ∀ y z, N ⟨hp ++ [.lst (psD (mrg1 (mrgL [] a) p).reverse)], [some s, some (.mu hp.length), y, z, e4], n0⟩ := fun y z => hN _ _ trivial ⟨a ++ [p], r, y, z, e4, rfl, by rw [e]; simp, by rw [eL], rfl⟩
        have ll : (mrgL [] a).length ≤ 1000000 := by
          have := mrgL_len a []
          have h2 := congrArg List.length e
          simp at this h2
          omega
        generalize mrgL [] a = acc at nx' ll ⊢
        cases acc with
        | nil =>
          simp
          have := nx' (some (.d (.int p.1))) (some (.d (.int p.2)))
          simpa [mrg1] using this
        | cons q acc =>
          have hps : psD (q :: acc).reverse = psD acc.reverse ++ [pD q] := by simp
          have nx1 : p.1 ≤ q.2 + 1 → ∀ y z, N ⟨hp ++ [.lst (psD acc.reverse ++ [pD (q.1, max q.2 p.2)])], [some s, some (.mu hp.length), y, z, e4], n0⟩ := fun c y z => by
            have := nx' y z
            rw [show mrg1 (q :: acc) p = (q.1, max q.2 p.2) :: acc from if_pos c] at this
            simpa using this
          have nx2 : ¬ p.1 ≤ q.2 + 1 → ∀ y z, N ⟨hp ++ [.lst (psD acc.reverse ++ [pD q] ++ [pD p])], [some s, some (.mu hp.length), y, z, e4], n0⟩ := fun c y z => by
            have := nx' y z
            rw [show mrg1 (q :: acc) p = p :: q :: acc from if_neg c] at this
            simpa using this
          rw [hps]
          have lL : (psD acc.reverse).length ≤ 1000000 := by simp at ll ⊢; omega
          clear hps nx'
          generalize psD acc.reverse = L at nx1 nx2 lL ⊢
          have e1 : atI (L ++ [pD q]) (-1) = some (pD q) := at_last
          have e2 : (List.map Nd.d L ++ [Nd.d (pD q)]).isEmpty = false := by cases L <;> rfl
          have e3 : ixN (L ++ [pD q]).length (-1) = some L.length := by
            unfold ixN
            simp
            omega
          have e4' : (L ++ [pD q]).length = L.length + 1 := by simp
          rw [e4'] at e3
          by_cases c : p.1 ≤ q.2 + 1
          · simp [e1, e2, e3, c]
            have := nx1 c (some (.d (.int p.1))) (some (.d (.int p.2)))
            rw [show (if q.2 < p.2 then p.2 else q.2) = max q.2 p.2 by split <;> omega]
            exact this
          · simp [e1, e2, c]
            have := nx2 c (some (.d (.int p.1))) (some (.d (.int p.2)))
            refine ⟨by omega, ?_⟩
            simpa using this
    · rintro _ _ ⟨a, r, y, z, e4, er, e, rfl, rfl⟩
      have : r = [] := by cases r with | nil => rfl | cons _ _ => cases er
      subst this
      rw [List.append_nil] at e
      rw [← e]
      exact hn _ _ _
  have hls : (srt l).length ≤ l.length := by unfold srt; rw [List.length_mergeSort]; exact List.length_filter_le _ _
  have fin : ∀ {v : Option Wk} {nx bk ct : PS → Prop} {rt : S → List O → Prop} {ex : MX} {n0 : Nat}, True := fun {_ _ _ _ _ _ _} => trivial
  have comp : ∀ {v : Option Wk} {env : List (Option S)} {hq : List O} {R2 : List D → List O → Prop} {tg2}, still v (psD l) hq → R2 (psD (l.filter full)) hq → env.length = 5 →
      compH v (psD l) (mgName 4) (mTest (m2 (fI0 fun i j => .bl (decide (i ≤ j))) (m2 fIx (mVar 4) (mC (.int 0))) (m2 fIx (mVar 4) (mC (.int 1))))) (mVar 4) env hq R2 tg2 := by
    intro v env hq R2 tg2 hst hR he
    refine compH_flt (fun d => d) fulD hst (by rw [le_size]; simp; omega) (fun d hd N Z hN hZ => ?_) (by rw [List.map_id']; rw [flt_full]; exact hR)
    obtain ⟨p, _, rfl⟩ := List.mem_map.mp hd
    obtain ⟨e0, e1, e2, e3, e4, rfl⟩ : ∃ a b c d e, env = [a, b, c, d, e] := by
      match env, he with
      | [a, b, c, d, e], _ => exact ⟨a, b, c, d, e, rfl⟩
    simp
    by_cases c : p.1 ≤ p.2
    · simp [c]
      exact hN (by simp [fulD, c])
    · simp [c]
      exact hZ (by simp [fulD, c])
  have sorts : ∀ {P : D → Prop}, P (.lst (psD (srt l))) → fSort [.lst (psD (l.filter full))] P := by
    intro P hP
    rw [xfSort, sortD_ps]
    have hf := List.length_filter_le full l
    refine ⟨alike_map apt_pair (l.filter full), sortable_map apt_pair (l.filter full), by rw [le_size]; simp; omega, fun x hx => ?_, hP⟩
    obtain ⟨p, _, rfl⟩ := List.mem_map.mp hx
    exact shD_ip
  have fino : ∀ (y z e4 : Option S), retP hp.length false R (.d (.tup (psD (mgd l)))) (hp ++ [.lst (psD (mgd l))]) := by
    intro y z e4
    simp
    exact h
  rcases hv with rfl | rfl | ⟨n, rfl, hn⟩
  · simp
    refine comp trivial ?_ rfl
    simp [-xfSort]
    refine sorts ?_
    simp
    refine rest rfl fun y z e4 => ?_
    simp
    exact h
  · simp
    refine comp trivial ?_ rfl
    simp [-xfSort]
    refine sorts ?_
    simp
    refine rest rfl fun y z e4 => ?_
    simp
    exact h
  · have hn' : n < hp.length := (List.getElem?_eq_some_iff.mp hn).1
    simp [hn, List.getElem?_append_left hn']
    refine comp ?_ ?_ rfl
    · simp [still, hn, List.getElem?_append_left hn']
    · simp [-xfSort]
      refine sorts ?_
      simp
      refine rest rfl fun y z e4 => ?_
      simp
      exact h
@[simp] theorem frzI_one {C : Str} {f : Str} {d : D} : frzI C (some (.reg [.ins C [(f, .d d)]])) = some ([f], [d]) := by
  unfold frzI
  simp [dsOf]
end
end Rn
set_option Elab.async false
set_option linter.all false
set_option maxRecDepth 100000
set_option maxHeartbeats 4000000
namespace Pl
open PySem PySem.Spec PyProof.Rows L2 Mp
end Pl
set_option Elab.async false
set_option linter.all false
set_option maxRecDepth 100000
set_option maxHeartbeats 400000
namespace Tb
open PySem PySem.Spec PyProof.Rows L2 Mp Pl
inductive Kd | u (k : UK) | nu | na | s (k : SK) | te | r (k : RK) | w (k : WK) | ch | wr
def Kd.str : Kd → Str
  | .u k => k.s
  | .nu => "number"
  | .na => "names"
  | .s k => k.s
  | .te => "text"
  | .r k => k.s
  | .w k => k.s
  | .ch => "choice"
  | .wr => "wrapped"
def Kd.all : List Kd := [.u .boolean, .u .nothing, .nu, .na, .s .bits, .s .octets, .s .path, .te, .r .sequence, .r .set, .w .row, .w .bag, .ch, .wr]
theorem Kd.mem (k : Kd) : k ∈ Kd.all := by
  rcases k with (_ | _) | _ | _ | (_ | _ | _) | _ | (_ | _) | (_ | _) | _ | _ <;> simp [Kd.all]
instance : DecidableEq UK := fun a b => by cases a <;> cases b <;> first | exact isTrue rfl | exact isFalse (fun h => by cases h)
instance : DecidableEq SK := fun a b => by cases a <;> cases b <;> first | exact isTrue rfl | exact isFalse (fun h => by cases h)
instance : DecidableEq RK := fun a b => by cases a <;> cases b <;> first | exact isTrue rfl | exact isFalse (fun h => by cases h)
instance : DecidableEq WK := fun a b => by cases a <;> cases b <;> first | exact isTrue rfl | exact isFalse (fun h => by cases h)
instance : DecidableEq Kd := fun a b => by
  rcases a with (_ | _) | _ | _ | (_ | _ | _) | _ | (_ | _) | (_ | _) | _ | _ <;> rcases b with (_ | _) | _ | _ | (_ | _ | _) | _ | (_ | _) | (_ | _) | _ | _ <;> first | exact isTrue rfl | exact isFalse (fun h => by cases h)
section
variable {hp : List O} {i n : Nat} {o : O} {R : S → List O → Prop} {Xp : MX} {T : List Nod}
def TagB (t : T2) : Prop := (0 ≤ t.1 ∧ t.1 ≤ 3) ∧ 0 ≤ t.2 ∧ t.2 ≤ 16383
structure TsOk (ks : List Kd) (ts : List (Option T2)) : Prop where
  len : ts.length = ks.length
  ch : ∀ k : Nat, (ks[k]? = some Kd.ch ↔ ts[k]? = some none)
  bd : ∀ (k : Nat) (t : T2), ts[k]? = some (some t) → TagB t
end
end Tb
set_option Elab.async false
set_option linter.all false
set_option maxRecDepth 100000
set_option maxHeartbeats 400000
namespace Tb
open PySem PySem.Spec PyProof.Rows L2 Mp Pl
structure SOk (s : Str) : Prop where
  ok : PyData.strOk s = true
  len : s.length ≤ 1000
section
variable {hp : List O} {i n : Nat} {o : O} {R : S → List O → Prop} {Xp : MX} {T : List Nod}
def apart (l m : List T2) : Bool := l.all fun t => !decide (t ∈ m)
@[simp] theorem fIx_ip0 {p : Int × Int} {P : D → Prop} : fIx (ipD p) (.int 0) P = P (.int p.1) := by simp [ipD]
@[simp] theorem fIx_ip1 {p : Int × Int} {P : D → Prop} : fIx (ipD p) (.int 1) P = P (.int p.2) := by simp [ipD]
theorem s_pickT {xs : List D} {tg : Tg (m__law_pick, R, Xp)} (ho : hp[n]? = some o) (hs : St o) (h0 : 0 < xs.length) (h1 : xs.length < 2 ^ 60) (h : ∀ (d : D) o', St o' → d ∈ xs → R (.d d) (hp.set n o')) : mfH m__law_pick hp [.mu n, .d (.tup xs)] R Xp tg := by
  refine mfH_of ?_
  unfold m__law_pick
  simp
  refine s_take ho hs (by omega) fun r o' hs' h0' h2 h3 => ?_
  have hr : r < xs.length := by
    by_cases c : (2 : Int) ≤ xs.length
    · exact h2 c
    · have := h3 (by omega); omega
  simp [atI_nat h0' hr]
  exact h _ _ hs' (List.getElem_mem _)
def onD : Option Nod → D
  | none => .non
  | some x => nodD x
def ndL (l : List (Option Nod)) : List D := l.map onD
@[simp] theorem ndL_len {l : List (Option Nod)} : (ndL l).length = l.length := List.length_map ..
end
end Tb
set_option Elab.async false
set_option linter.all false
set_option maxRecDepth 100000
set_option maxHeartbeats 1000000
namespace Tb
open PySem PySem.Spec PyProof.Rows L2 Mp Pl TL
def mids : List (List Nat) := [[], [113], [120, 49], List.replicate 16 97]
def WdK (k : Nat) (s : Str) : Prop := ∃ c m, m ∈ mids ∧ s.cps.toList = c :: (m ++ numL k)
theorem numL_split (k : Nat) : ∃ x xs, numL k = x :: xs ∧ 48 ≤ x ∧ x ≤ 57 := by
  cases e : numL k with
  | nil => exact absurd e (numL_ne k)
  | cons x xs =>
    have := numL_digits k x (by rw [e]; simp)
    exact ⟨x, xs, rfl, this.1, this.2⟩
theorem WdK.inj {j k : Nat} {s : Str} (h : WdK j s) (g : WdK k s) : j = k := by
  obtain ⟨c, m, hm, e⟩ := h
  obtain ⟨c2, m2, hm2, e2⟩ := g
  rw [e] at e2
  obtain ⟨x, xs, q1, q2, q3⟩ := numL_split j
  obtain ⟨y, ys, p1, p2, p3⟩ := numL_split k
  have e3 : m ++ numL j = m2 ++ numL k := (List.cons.inj e2).2
  have key : numL j = numL k := by
    simp only [mids, List.mem_cons, List.not_mem_nil, or_false] at hm hm2
    rcases hm with rfl | rfl | rfl | rfl <;> rcases hm2 with rfl | rfl | rfl | rfl
    all_goals
      first
      | (simpa using e3)
      | (exfalso; rw [q1, p1] at e3; simp [List.replicate] at e3; omega)
  exact numL_inj key
theorem WdK.last {k : Nat} {s : Str} (h : WdK k s) : ∃ pre x, s.cps.toList = pre ++ [x] ∧ x ≤ 57 := by
  obtain ⟨c, m, hm, e⟩ := h
  have hne := numL_ne k
  refine ⟨c :: (m ++ (numL k).dropLast), (numL k).getLast hne, ?_, ?_⟩
  · rw [e, List.cons_append, List.append_assoc, List.dropLast_concat_getLast]
  · exact (numL_digits k _ (List.getLast_mem hne)).2
theorem WdK.ne {k : Nat} {s t : Str} (h : WdK k s) (ht : ∃ pre x, t.cps.toList = pre ++ [x] ∧ 57 < x) : s ≠ t := by
  rintro rfl
  obtain ⟨p, x, e, hx⟩ := h.last
  obtain ⟨q, y, e2, hy⟩ := ht
  rw [e] at e2
  have := congrArg List.getLast? e2
  simp at this
  omega
section
variable {hp : List O} {i n : Nat} {o : O} {R : S → List O → Prop} {Xp : MX} {T : List Nod}
def InW (i : Int) : Prop := -170141183460469231731687303715884105728 ≤ i ∧ i ≤ 170141183460469231731687303715884105727
inductive DfOk : D → Prop where
  | non : DfOk .non
  | bl (b : Bool) : DfOk (.tup [.str "boolean", .bl b])
  | nu (i : Int) (h : InW i) : DfOk (.tup [.str "number", .int i])
  | un (i : Int) (h : 5000 ≤ i ∧ i < 5050) : DfOk (.tup [.str "unnamed", .int i])
  | na (s : Str) (h : SOk s) : DfOk (.tup [.str "name", .str s])
theorem DfOk.pl {d : D} (h : DfOk d) : plD 3 d = true := by
  cases h with
  | na s h => have := h.ok; simp [plD, shD_s, this]
  | _ => simp [plD]
end
end Tb
set_option Elab.async false
set_option linter.all false
set_option maxRecDepth 100000
set_option maxHeartbeats 1000000
namespace Tb
open PySem PySem.Spec PyProof.Rows L2 Mp Pl TL
def RgOk (lo hi : Int) (rs : List (Int × Int)) : Prop := rs ≠ [] ∧ rs.length ≤ 2 ∧ (∀ p ∈ rs, lo ≤ p.1 ∧ p.1 ≤ p.2 ∧ p.2 ≤ hi) ∧ rs.Pairwise fun p q => p.2 + 2 ≤ q.1
theorem RgOk.mono {lo hi lo' hi' : Int} {rs : List (Int × Int)} (h : RgOk lo hi rs) (h1 : lo' ≤ lo) (h2 : hi ≤ hi') : RgOk lo' hi' rs :=
  ⟨h.1, h.2.1, fun p hp => by obtain ⟨a, b, c⟩ := h.2.2.1 p hp; exact ⟨by omega, b, by omega⟩, h.2.2.2⟩
section
variable {hp : List O} {i n : Nat} {o : O} {R : S → List O → Prop} {Xp : MX} {T : List Nod}
theorem cut_takeD {l : List D} {k : Nat} (h : k ≤ l.length) : Mp.cutD l none (some (k : Int)) = l.take k := by
  unfold Mp.cutD HT.sIx
  simp
  rw [if_neg (by omega)]
  congr 1
  omega
theorem cut_fromD {l : List D} {k : Nat} (h : k ≤ l.length) : Mp.cutD l (some (k : Int)) none = l.drop k := by
  unfold Mp.cutD HT.sIx
  simp
  rw [if_neg (by omega)]
  have e : min k l.length = k := by omega
  rw [e]
  exact List.take_of_length_le (by simp)
def letterSets : List Str := [" !\"#$&'()*+,-./0123456789:;<=>?@ABCDEFGHIJKLMNOPQRSTUVWXYZ[\\]^_`abcdefghijklmnopqrstuvwxyz{|}~", "a", "01", " ~", "\"\\", "0123456789abcdef"]
def PlOk : Nod → Prop
  | .nu _ rs => RgOk (-170141183460469231731687303715884105728) 170141183460469231731687303715884105727 rs
  | .na _ r a => r ≠ [] ∧ (r ++ a.getD []).length ≤ 4 ∧ ∀ (i : Nat) (e : Str × Int), (r ++ a.getD [])[i]? = some e → SOk e.1 ∧ WdK i e.1 ∧ -300 ≤ e.2 ∧ e.2 < 900
  | .si _ _ sz => RgOk 0 200 sz
  | .te _ ls sz => RgOk 0 200 sz ∧ ls ∈ letterSets
  | _ => True
end
end Tb
set_option Elab.async false
set_option linter.all false
set_option maxRecDepth 100000
set_option maxHeartbeats 1600000
namespace Rn
open PySem PySem.Spec PyProof.Rows L2 Mp Pl Tb Rg
structure Bp (l : Pss) : Prop where
  len : l.length ≤ 400
  bd : ∀ p ∈ l, (-(2 ^ 140) ≤ p.1 ∧ p.1 ≤ 2 ^ 140) ∧ -(2 ^ 140) ≤ p.2 ∧ p.2 ≤ 2 ^ 140
section
variable {hp : List O} {n : Nat} {o : O} {R : S → List O → Prop} {Xp : MX}
theorem s_pickT {xs : List D} {tg : Tg (m__law_pick, R, Xp)} (ho : hp[n]? = some o) (hs : Pl.St o) (h0 : 0 < xs.length) (h1 : xs.length < 2 ^ 60) (h : ∀ (i : Nat) (hi : i < xs.length) o', Pl.St o' → R (.d xs[i]) (hp.set n o')) : mfH m__law_pick hp [.mu n, .d (.tup xs)] R Xp tg := by
  refine mfH_of ?_
  unfold m__law_pick
  simp
  refine s_take ho hs (by omega) fun r o' hs' h0 h2 h3 => ?_
  have hr : r < xs.length := by
    by_cases z : (2 : Int) ≤ xs.length
    · exact h2 z
    · have := h3 (by omega); omega
  have a1 : atI xs r = some (xs[r.toNat]'(by omega)) := atI_nat h0 hr
  simp [a1]
  exact h _ _ o' hs'
theorem bp_nil : Bp [] := ⟨by simp, fun _ h => by cases h⟩
theorem clamp_bd {e x : Int} (h0 : 0 ≤ e) : -e ≤ max (-e) (min e x) ∧ max (-e) (min e x) ≤ e := by omega
abbrev E130 : Int := 1361129467683753853853498429727072845824
theorem bd130 {x : Int} : (-(2 ^ 140) : Int) ≤ max (-E130) (min E130 x) ∧ max (-E130) (min E130 x) ≤ 2 ^ 140 := by
  have := clamp_bd (e := E130) (x := x) (by decide)
  have e1 : E130 ≤ 2 ^ 140 := by decide
  omega
@[simp] theorem cp31 : CPow 2 31 = True := eq_true ⟨by decide, by decide, by decide⟩
@[simp] theorem cp63 : CPow 2 63 = True := eq_true ⟨by decide, by decide, by decide⟩
@[simp] theorem cp64 : CPow 2 64 = True := eq_true ⟨by decide, by decide, by decide⟩
@[simp] theorem cmA : (CMul 18446744073709551616 18446744073709551616 ∨ CMulW 18446744073709551616 18446744073709551616) = True := eq_true (.inr (by show _ + _ < _; decide +kernel))
def LM (ls : List O) (l : Pss) (many b side : Int) (i : Nat) (hp' : List O) (env' : List (Option Mp.S)) : Prop := ∃ (lo hi : Int) (o' : O), Pl.St o' ∧ hp' = o' :: (ls ++ [O.lst (psD l)]) ∧
  env' = [some (.mu 0), some (.d (.int many)), some (.d (.int 1361129467683753853853498429727072845824)), some (.d (.int b)), some (.mu (ls.length + 1)), some (.d (.int (i : Int))), some (.d (.int lo)), some (.d (.int side)), some (.d (.int hi))]
theorem sp_loose {many : Int} {ls : List O} {tg : Tg (m__law_loose_pairs, R, Xp)} (hs : Pl.St o) (hm : 0 ≤ many) (hm2 : many ≤ 30) (h : ∀ (l : Pss) o', Pl.St o' → Bp l → R (.d (.lst (psD l))) (o' :: ls)) : mfH m__law_loose_pairs (o :: ls) [.mu 0, .d (.int many)] R Xp tg := by
  refine mfH_of ?_
  unfold m__law_loose_pairs
  simp [-x_seq]
  rw [x_seq]
  simp [-x_seq]
  rw [x_seq]
  simp [-x_seq]
  refine s_pick (hp := o :: ls) (n := 0) rfl hs (by simp) (by simp) fun i hi o1 hs1 => ?_
  obtain ⟨b, eb⟩ : ∃ b : Int, [D.int 0, .int 0, .int (-4), .int 2147483648, .int (-9223372036854775808), .int (E130 - 20), .int (-E130)][i]'hi = .int b := by
    simp only [List.length_cons, List.length_nil] at hi
    match i, hi with
    | 0, _ => exact ⟨_, rfl⟩
    | 1, _ => exact ⟨_, rfl⟩
    | 2, _ => exact ⟨_, rfl⟩
    | 3, _ => exact ⟨_, rfl⟩
    | 4, _ => exact ⟨_, rfl⟩
    | 5, _ => exact ⟨_, rfl⟩
    | 6, _ => exact ⟨_, rfl⟩
  have eb' : [D.int 0, .int 0, .int (-4), .int 2147483648, .int (-9223372036854775808), .int 1361129467683753853853498429727072845804, .int (-1361129467683753853853498429727072845824)][i]'hi = .int b := eb
  rw [eb']
  clear eb eb' hi i
  simp [-x_seq]
  rw [x_seq]
  simp [-x_seq]
  rw [x_seq]
  simp [-x_seq]
  refine s_take (hp := o1 :: (ls ++ [O.lst []])) (n := 0) rfl hs1 (by omega) fun q o2 hs2 q0 q1 q2 => ?_
  have q30 : q < 31 := by
    by_cases z : (2 : Int) ≤ many + 1
    · have := q1 z; omega
    · have := q2 (by omega); omega
  obtain ⟨m, rfl⟩ : ∃ m : Nat, q = (m : Int) := ⟨q.toNat, by omega⟩
  simp [-x_seq]
  refine ⟨by omega, ?_⟩
  refine forH_rng (fun i hp' env' => ∃ (l : Pss) (o' : O) (y5 y6 y7 y8 : Option S), Pl.St o' ∧ l.length = i ∧ Bp l ∧ hp' = o' :: (ls ++ [O.lst (psD l)]) ∧ env' = [some (.mu 0), some (.d (.int many)), some (.d (.int 1361129467683753853853498429727072845824)), some (.d (.int b)), some (.mu (ls.length + 1)), y5, y6, y7, y8]) ⟨[], o2, none, none, none, none, hs2, rfl, bp_nil, rfl, rfl⟩ ?_ ?_
  · rintro i _ _ N him ⟨l, o3, y5, y6, y7, y8, hs3, hl, bl, rfl, rfl⟩ hN
    have fin : ∀ (lo hi : Int) (o' : O) y5 y7, Pl.St o' → N ⟨o' :: (ls ++ [O.lst (psD l ++ [pD (max (-E130) (min E130 lo), max (-E130) (min E130 hi))])]), [some (.mu 0), some (.d (.int many)), some (.d (.int 1361129467683753853853498429727072845824)), some (.d (.int b)), some (.mu (ls.length + 1)), y5, some (.d (.int lo)), y7, some (.d (.int hi))], ls.length + 1⟩ := by
      intro lo hi o' y5 y7 hs'
      refine hN _ _ ⟨l ++ [(max (-E130) (min E130 lo), max (-E130) (min E130 hi))], o', y5, _, y7, _, hs', by simp [hl], ⟨by simp; omega, fun p hp => ?_⟩, by simp, rfl⟩
      rcases List.mem_append.mp hp with hp | hp
      · exact bl.bd p hp
      · rw [List.mem_singleton.mp hp]; exact ⟨bd130, bd130⟩
    simp [-x_seq]
    rw [x_seq]
    simp [-x_seq]
    refine s_take (hp := o3 :: (ls ++ [O.lst (psD l)])) (n := 0) rfl hs3 (by omega) fun q o4 hs4 _ _ _ => ?_
    simp [-x_seq]
    rw [x_seq]
    simp [-x_seq]
    refine s_take (hp := o4 :: (ls ++ [O.lst (psD l)])) (n := 0) rfl hs4 (by omega) fun side o5 hs5 s0 s1 _ => ?_
    simp [-x_seq]
    rw [x_seq]
    simp [-x_seq]
    refine seq_cut (LM ls l many b side i) (fun N2 hN2 => ?_) ?_
    · have go := fun lo hi o' hs' => hN2 _ _ ⟨lo, hi, o', hs', rfl, rfl⟩
      by_cases c : side = 7
      · simp [c]
        refine s_takeW (hp := o5 :: (ls ++ [O.lst (psD l)])) (n := 0) rfl hs5 (by decide) fun q o6 hs6 _ _ _ => ?_
        simp
        subst c
        exact go _ _ o6 hs6
      · simp [c]
        exact go _ _ o5 hs5
    rintro _ _ ⟨lo1, hi1, o6, hs6, rfl, rfl⟩
    refine seq_cut (LM ls l many b side i) (fun N2 hN2 => ?_) ?_
    · have go := fun lo hi o' hs' => hN2 _ _ ⟨lo, hi, o', hs', rfl, rfl⟩
      by_cases c : side = 6
      · subst c
        rcases List.eq_nil_or_concat l with rfl | ⟨r, p, rfl⟩
        · simp
          exact go _ _ o6 hs6
        · simp only [List.concat_eq_append] at *
          have e1 : atI (List.map pD (r ++ [p])) (-1) = some (pD p) := by
            rw [atI_map, atI_last]
            rfl
          have e2 : 0 < (List.map pD (r ++ [p])).length := by simp
          simp only [psD] at *
          generalize List.map pD (r ++ [p]) = L at e1 e2 go ⊢
          simp [e1, e2]
          refine s_take (hp := o6 :: (ls ++ [O.lst L])) (n := 0) rfl hs6 (by omega) fun q o7 hs7 _ _ _ => ?_
          simp
          exact go _ _ o7 hs7
      · simp [c]
        exact go _ _ o6 hs6
    rintro _ _ ⟨lo2, hi2, o7, hs7, rfl, rfl⟩
    refine seq_cut (LM ls l many b side i) (fun N2 hN2 => ?_) ?_
    · have go := fun lo hi o' hs' => hN2 _ _ ⟨lo, hi, o', hs', rfl, rfl⟩
      by_cases c : side = 5
      · subst c
        cases l with
        | nil =>
          simp
          exact go _ _ o7 hs7
        | cons p r =>
          simp
          exact go _ _ o7 hs7
      · simp [c]
        exact go _ _ o7 hs7
    rintro _ _ ⟨lo3, hi3, o8, hs8, rfl, rfl⟩
    simp
    refine sp_clamp ?_
    simp
    refine sp_clamp ?_
    simp
    exact ⟨by omega, fin lo3 hi3 o8 _ _ hs8⟩
  · rintro _ _ ⟨l, o', y5, y6, y7, y8, hs', hl, bl, rfl, rfl⟩
    simp
    exact h l o' hs' bl
theorem sp_spread {many : Nat} {ls : List O} {tg : Tg (m__law_spread, R, Xp)} (hs : Pl.St o) (hm : 2 ≤ many) (hm2 : many ≤ 400) (h : ∀ (l : Pss) o', Pl.St o' → Bp l → R (.d (.lst (psD l))) (o' :: ls)) : mfH m__law_spread (o :: ls) [.mu 0, .d (.int many)] R Xp tg := by
  refine mfH_of ?_
  unfold m__law_spread
  simp [-x_seq]
  rw [x_seq]
  simp [-x_seq]
  refine s_pick (hp := o :: ls) (n := 0) rfl hs (by simp) (by simp) fun i hi o1 hs1 => ?_
  obtain ⟨b, eb, hb⟩ : ∃ b : Int, [D.int (-3), .int 0, .int 1, .int (-700), .int 18446744073709551616][i]'hi = .int b ∧ -700 ≤ b ∧ b ≤ 18446744073709551616 := by
    simp only [List.length_cons, List.length_nil] at hi
    match i, hi with
    | 0, _ => exact ⟨_, rfl, by decide⟩
    | 1, _ => exact ⟨_, rfl, by decide⟩
    | 2, _ => exact ⟨_, rfl, by decide⟩
    | 3, _ => exact ⟨_, rfl, by decide⟩
    | 4, _ => exact ⟨_, rfl, by decide⟩
  rw [eb]
  clear eb hi i
  simp [-x_seq]
  rw [x_seq]
  simp [-x_seq]
  refine s_take (hp := o1 :: ls) (n := 0) rfl hs1 (by omega) fun st o2 hs2 q0 q1 _ => ?_
  simp [-x_seq]
  rw [x_seq]
  simp [-x_seq]
  refine s_take (hp := o2 :: ls) (n := 0) rfl hs2 (by omega) fun wd o3 hs3 w0 w1 _ => ?_
  have q3 := q1 (by omega)
  have w3 := w1 (by omega)
  simp [-x_seq]
  rw [x_seq]
  simp [-x_seq]
  refine ⟨by omega, ?_⟩
  refine compH_rngM (fun k => pD (b + (k : Int) * (2 + st), b + (k : Int) * (2 + st) + wd - 1)) (by rw [le_size]; omega) (fun k hk N hN => ?_) ?_
  · rw [show ((0 : Int) + (k : Int)) = (k : Int) by omega]
    simp
    exact ⟨.inl (.inl ⟨by omega, by omega⟩), hN⟩
  obtain ⟨r0, er0, lr0, br0⟩ : ∃ r0 : Pss, (List.range many).map (fun k : Nat => pD (b + (k : Int) * (2 + st), b + (k : Int) * (2 + st) + wd - 1)) = psD r0 ∧ r0.length = many ∧ ∀ p ∈ r0, (-(2 ^ 140) ≤ p.1 ∧ p.1 ≤ 2 ^ 140) ∧ -(2 ^ 140) ≤ p.2 ∧ p.2 ≤ 2 ^ 140 := by
    refine ⟨(List.range many).map (fun k : Nat => (b + (k : Int) * (2 + st), b + (k : Int) * (2 + st) + wd - 1)), by simp, by simp, fun p hp => ?_⟩
    obtain ⟨k, hk, rfl⟩ := List.mem_map.mp hp
    have hk := List.mem_range.mp hk
    have h1 : (0 : Int) ≤ (k : Int) * (2 + st) := Int.mul_nonneg (by omega) (by omega)
    have h2 : (k : Int) * (2 + st) ≤ 400 * 5 := Int.mul_le_mul (by omega) (by omega) (by omega) (by omega)
    have e140 : (2 : Int) ^ 140 = 1393796574908163946345982392040522594123776 := by decide
    show (-(2 ^ 140) ≤ b + (k : Int) * (2 + st) ∧ b + (k : Int) * (2 + st) ≤ 2 ^ 140) ∧ -(2 ^ 140) ≤ b + (k : Int) * (2 + st) + wd - 1 ∧ b + (k : Int) * (2 + st) + wd - 1 ≤ 2 ^ 140
    rw [e140]
    omega
  rw [er0]
  simp [-x_seq]
  rw [x_seq]
  simp [-x_seq]
  refine s_take (hp := o3 :: (ls ++ [O.lst (psD r0)])) (n := 0) rfl hs3 (by omega) fun by_ o4 hs4 b0 b1 _ => ?_
  have b2 := b1 (by omega)
  obtain ⟨by_, rfl⟩ : ∃ m : Nat, by_ = (m : Int) := ⟨by_.toNat, by omega⟩
  simp [-x_seq]
  rw [x_seq]
  simp [-x_seq]
  have hc : CMul (2 + st) (many : Int) ∨ CMulW (2 + st) (many : Int) := .inl (.inl ⟨by omega, by omega⟩)
  have hmm : (2 + st) * (many : Int) ≤ 5 * 400 := Int.mul_le_mul (by omega) (by omega) (by omega) (by omega)
  refine ⟨hc, ?_⟩
  refine s_take (hp := o4 :: (ls ++ [O.lst (psD r0)])) (n := 0) rfl hs4 (by omega) fun u1 o5 hs5 u0 u2 u3 => ?_
  simp [-x_seq]
  refine ⟨hc, ?_⟩
  refine s_take (hp := o5 :: (ls ++ [O.lst (psD r0)])) (n := 0) rfl hs5 (by omega) fun v1 o6 hs6 v0 v2 v3 => ?_
  have hix : ixN r0.length (by_ : Int) = some by_ := by rw [lr0, ixN_nat (by omega) (by omega)]; simp
  simp [hix]
  have es : (List.map pD r0).set by_ (D.tup [D.int (b + u1), D.int (b + v1)]) = psD (r0.set by_ (b + u1, b + v1)) := by
    show (List.map pD r0).set by_ (pD (b + u1, b + v1)) = _
    rw [← List.map_set]
  rw [es]
  have u4 : u1 < 2000 := by
    by_cases z : (2 : Int) ≤ (2 + st) * (many : Int)
    · have := u2 z; omega
    · have := u3 (by omega); omega
  have v4 : v1 < 2000 := by
    by_cases z : (2 : Int) ≤ (2 + st) * (many : Int)
    · have := v2 z; omega
    · have := v3 (by omega); omega
  have br1 : ∀ p ∈ r0.set by_ (b + u1, b + v1), (-(2 ^ 140) ≤ p.1 ∧ p.1 ≤ 2 ^ 140) ∧ -(2 ^ 140) ≤ p.2 ∧ p.2 ≤ 2 ^ 140 := fun p hp => by
    rcases List.mem_or_eq_of_mem_set hp with hp | rfl
    · exact br0 p hp
    · have e140 : (2 : Int) ^ 140 = 1393796574908163946345982392040522594123776 := by decide
      show (-(2 ^ 140) ≤ b + u1 ∧ b + u1 ≤ 2 ^ 140) ∧ -(2 ^ 140) ≤ b + v1 ∧ b + v1 ≤ 2 ^ 140
      rw [e140]
      omega
  have lr1 : (r0.set by_ (b + u1, b + v1)).length = many := by rw [List.length_set, lr0]
  generalize r0.set by_ (b + u1, b + v1) = r1 at br1 lr1 ⊢
  have c1 : Mp.cutD (psD r1) (some (by_ : Int)) none = psD (r1.drop by_) := by rw [cut_fromD (by simp; omega)]; exact List.map_drop.symm
  have c2 : Mp.cutD (psD r1) none (some (by_ : Int)) = psD (r1.take by_) := by rw [cut_takeD (by simp; omega)]; exact List.map_take.symm
  have es2 : (ls ++ [O.lst (psD r0)]).set ls.length (O.lst (psD r1)) = ls ++ [O.lst (psD r1)] := by simp
  simp [es2, c1, c2]
  refine ⟨by omega, ?_⟩
  have := h (r1.drop by_ ++ (r1.take by_).reverse) o6 hs6 ⟨by simp; omega, fun p hp => by
    rcases List.mem_append.mp hp with hp | hp
    · exact br1 p (List.mem_of_mem_drop hp)
    · exact br1 p (List.mem_of_mem_take (List.mem_reverse.mp hp))⟩
  have hf : ¬ ls.length + 1 < ls.length := by omega
  simp [hf, es2, c1, c2]
  simpa using this
end
end Rn
set_option Elab.async false
set_option linter.all false
set_option maxRecDepth 100000
set_option maxHeartbeats 4000000
namespace Pl
open PySem PySem.Spec PyProof.Rows L2 Mp
end Pl
set_option Elab.async false
set_option linter.all false
set_option maxRecDepth 100000
set_option maxHeartbeats 1600000
namespace Rn
open PySem PySem.Spec PyProof.Rows L2 Mp Pl Tb Rg
section
variable {hp : List O} {n : Nat} {o : O} {R : S → List O → Prop} {Xp : MX}
@[simp] theorem cmL : (CMul (-9223372036854775808) 18446744073709551616 ∨ CMulW (-9223372036854775808) 18446744073709551616) = True := eq_true (.inr (by show _ + _ < _; decide +kernel))
@[simp] theorem cmH : (CMul 9223372036854775808 18446744073709551616 ∨ CMulW 9223372036854775808 18446744073709551616) = True := eq_true (.inr (by show _ + _ < _; decide +kernel))
structure Gd (lo hi : Int) (l : Pss) : Prop where
  n : Nrm l
  b : ∀ p ∈ l, lo ≤ p.1 ∧ p.1 ≤ p.2 ∧ p.2 ≤ hi
theorem sp_mkQ {l : Pss} {s : S} {Q : S → List O → Prop} {tg : Tg (m_Ranges___init__, Q, noX)} (hl : l.length ≤ 1000000) (hv : s = .d (.tup (psD l)) ∨ s = .d (.lst (psD l)) ∨ ∃ n, s = .mu n ∧ hp[n]? = some (.lst (psD l))) (h : Q (.d .non) (hp ++ [.reg [.ins "Ranges" [("spans", .d (.tup (psD (mgd l))))]]])) :
    mfH m_Ranges___init__ (hp ++ [.reg [.ins "Ranges" []]]) [.ob hp.length 0, s] Q noX tg := by
  refine mfH_of ?_
  unfold m_Ranges___init__
  simp
  refine sp_merged (l := l) hl ?_ ?_
  · rcases hv with hv | hv | ⟨n, hv, hn⟩
    · exact .inl hv
    · exact .inr (.inl hv)
    · exact .inr (.inr ⟨n, hv, by rw [List.getElem?_append_left (List.getElem?_eq_some_iff.mp hn).1]; exact hn⟩)
  simp
  rw [show putNd "spans" (Nd.d (D.tup (psD (mgd l)))) [] = [(("spans" : Str), Nd.d (D.tup (psD (mgd l))))] from rfl, List.take_of_length_le (by simp)]
  exact h
end
end Rn
set_option Elab.async false
set_option linter.all false
set_option maxRecDepth 100000
namespace Rg
theorem nrm_split : ∀ {a b : Pss}, Nrm (a ++ b) → Nrm a ∧ Nrm b ∧ ∀ p ∈ a, ∀ q ∈ b, p.2 + 1 < q.1
  | [], b, h => ⟨trivial, h, fun _ h => nomatch h⟩
  | p :: a, b, h => by
    obtain ⟨h1, h2, h3⟩ := nrm_split (a := a) (b := b) h.2.2
    refine ⟨⟨h.1, fun q hq => h.2.1 q (List.mem_append_left _ hq), h1⟩, h2, fun q hq r hr => ?_⟩
    rcases List.mem_cons.mp hq with rfl | hq
    · exact h.2.1 r (List.mem_append_right _ hr)
    · exact h3 q hq r hr
def shr (s : Pss) (p q : Int × Int) : Pss := if max p.1 q.1 ≤ min p.2 q.2 then s ++ [(max p.1 q.1, min p.2 q.2)] else s
theorem mem_shr {s : Pss} {p q : Int × Int} {x : Int} : Mem (shr s p q) x ↔ Mem s x ∨ ((p.1 ≤ x ∧ x ≤ p.2) ∧ (q.1 ≤ x ∧ x ≤ q.2)) := by
  unfold shr
  split
  · rw [mem_app, mem_cons]
    constructor
    · rintro (h | ⟨h1, h2⟩ | h)
      · exact .inl h
      · simp only at h1 h2; exact .inr (by omega)
      · exact absurd h mem_nil
    · rintro (h | ⟨h1, h2⟩)
      · exact .inl h
      · exact .inr (.inl ⟨by show max p.1 q.1 ≤ x; omega, by show x ≤ min p.2 q.2; omega⟩)
  · constructor
    · exact .inl
    · rintro (h | ⟨h1, h2⟩)
      · exact h
      · omega
theorem shr_step {l1 l2 m1 m2 s : Pss} {p q : Int × Int} (nm : Nrm (m1 ++ q :: m2)) (hle : p.2 ≤ q.2) (inv : ∀ x, Mem s x ↔ Mem (l1 ++ p :: l2) x ∧ Mem (m1 ++ q :: m2) x ∧ (Mem l1 x ∨ Mem m1 x)) (x : Int) :
    Mem (shr s p q) x ↔ Mem (l1 ++ p :: l2) x ∧ Mem (m1 ++ q :: m2) x ∧ (Mem (l1 ++ [p]) x ∨ Mem m1 x) := by
  obtain ⟨_, n2, _⟩ := nrm_split nm
  rw [mem_shr, inv x]
  constructor
  · rintro (⟨h1, h2, h3⟩ | ⟨h1, h2⟩)
    · exact ⟨h1, h2, h3.imp (fun z => mem_app.mpr (.inl z)) id⟩
    · exact ⟨mem_app.mpr (.inr (mem_cons.mpr (.inl h1))), mem_app.mpr (.inr (mem_cons.mpr (.inl h2))), .inl (mem_app.mpr (.inr (mem_cons.mpr (.inl h1))))⟩
  · rintro ⟨h1, h2, h3 | h3⟩
    · rcases mem_app.mp h3 with z | z
      · exact .inl ⟨h1, h2, .inl z⟩
      · rcases mem_cons.mp z with z | z
        · rcases mem_app.mp h2 with y | y
          · exact .inl ⟨h1, mem_app.mpr (.inl y), .inr y⟩
          · rcases mem_cons.mp y with y | y
            · exact .inr ⟨z, y⟩
            · have := n2.above y
              omega
        · exact absurd z mem_nil
    · exact .inl ⟨h1, h2, .inr h3⟩
theorem shr_comm {s : Pss} {p q : Int × Int} : shr s p q = shr s q p := by
  unfold shr
  rw [Int.max_comm, Int.min_comm]
theorem shr_step2 {l1 l2 m1 m2 s : Pss} {p q : Int × Int} (nl : Nrm (l1 ++ p :: l2)) (hle : q.2 ≤ p.2) (inv : ∀ x, Mem s x ↔ Mem (l1 ++ p :: l2) x ∧ Mem (m1 ++ q :: m2) x ∧ (Mem l1 x ∨ Mem m1 x)) (x : Int) :
    Mem (shr s p q) x ↔ Mem (l1 ++ p :: l2) x ∧ Mem (m1 ++ q :: m2) x ∧ (Mem l1 x ∨ Mem (m1 ++ [q]) x) := by
  rw [shr_comm]
  have := shr_step (l1 := m1) (l2 := m2) (m1 := l1) (m2 := l2) (p := q) (q := p) (s := s) nl hle (fun x => by rw [inv x]; exact ⟨fun ⟨a, b, c⟩ => ⟨b, a, c.symm⟩, fun ⟨a, b, c⟩ => ⟨b, a, c.symm⟩⟩) x
  rw [this]
  exact ⟨fun ⟨a, b, c⟩ => ⟨b, a, c.symm⟩, fun ⟨a, b, c⟩ => ⟨b, a, c.symm⟩⟩
structure Rem (l1 m1 m2 s : Pss) (lo hi b : Int) : Prop where
  i : ∀ x, Mem s x ↔ (Mem l1 x ∧ ¬ Mem (m1 ++ m2) x) ∨ (lo ≤ x ∧ x ≤ hi ∧ x < b ∧ ¬ Mem (m1 ++ m2) x)
  ha : ∀ q ∈ m1, q.2 < b
  hb : ∀ q ∈ m2, b ≤ q.2
  lb : lo ≤ b
def rem1 (s : Pss) (b : Int) (q : Int × Int) : Pss := if b < q.1 then s ++ [(b, q.1 - 1)] else s
theorem mem_one {a b x : Int} {s : Pss} : Mem (s ++ [(a, b)]) x ↔ Mem s x ∨ (a ≤ x ∧ x ≤ b) := by
  rw [mem_app, mem_cons]
  exact ⟨fun h => h.imp id fun h => h.elim id fun z => absurd z mem_nil, fun h => h.imp id .inl⟩
theorem rem_step {l1 m1 m2 s : Pss} {lo hi b : Int} {q : Int × Int} (nm : Nrm (m1 ++ q :: m2)) (h : Rem l1 m1 (q :: m2) s lo hi b) (hq : q.1 ≤ hi) : Rem l1 (m1 ++ [q]) m2 (rem1 s b q) lo hi (q.2 + 1) := by
  obtain ⟨_, n2, _⟩ := nrm_split nm
  have hb := h.hb q List.mem_cons_self
  have hlb := h.lb
  have n21 := n2.1
  have e : m1 ++ [q] ++ m2 = m1 ++ q :: m2 := by simp
  have out : ∀ x, b ≤ x → x < q.1 → ¬ Mem (m1 ++ q :: m2) x := by
    intro x h1 h2 z
    rcases mem_app.mp z with ⟨r, hr, z1, z2⟩ | z
    · have := h.ha r hr; omega
    · rcases mem_cons.mp z with z | z
      · omega
      · have := n2.above z; omega
  refine ⟨fun x => ?_, fun r hr => ?_, fun r hr => ?_, by omega⟩
  · rw [e]
    have key : Mem (rem1 s b q) x ↔ Mem s x ∨ (b ≤ x ∧ x < q.1) := by
      unfold rem1
      split
      · rw [mem_one]
        exact ⟨fun z => z.imp id fun z => by omega, fun z => z.imp id fun z => by omega⟩
      · exact ⟨.inl, fun z => z.elim id fun z => by omega⟩
    rw [key, h.i x]
    constructor
    · rintro ((z | ⟨z1, z2, z3, z4⟩) | ⟨z1, z2⟩)
      · exact .inl z
      · exact .inr ⟨z1, z2, by omega, z4⟩
      · exact .inr ⟨by omega, by omega, by omega, out x z1 z2⟩
    · rintro (z | ⟨z1, z2, z3, z4⟩)
      · exact .inl (.inl z)
      · by_cases c : x < b
        · exact .inl (.inr ⟨z1, z2, c, z4⟩)
        · by_cases c2 : x < q.1
          · exact .inr ⟨by omega, c2⟩
          · exact absurd (mem_app.mpr (.inr (mem_cons.mpr (.inl ⟨by omega, by omega⟩)))) z4
  · rcases List.mem_append.mp hr with hr | hr
    · have := h.ha r hr; omega
    · rw [List.mem_singleton.mp hr]; omega
  · have h1 := n2.2.1 r hr
    have h2 := n2.2.2.le r hr
    omega
def rem2 (s : Pss) (b hi : Int) : Pss := if b ≤ hi then s ++ [(b, hi)] else s
theorem rem_end {l1 m1 m2 s : Pss} {lo hi b : Int} (nm : Nrm (m1 ++ m2)) (h : Rem l1 m1 m2 s lo hi b) (hq : ∀ q ∈ m2, hi < q.1) (x : Int) : Mem (rem2 s b hi) x ↔ Mem (l1 ++ [(lo, hi)]) x ∧ ¬ Mem (m1 ++ m2) x := by
  have hlb := h.lb
  have out : ∀ x, b ≤ x → x ≤ hi → ¬ Mem (m1 ++ m2) x := by
    intro x h1 h2 z
    rcases mem_app.mp z with ⟨r, hr, z1, z2⟩ | ⟨r, hr, z1, z2⟩
    · have := h.ha r hr; omega
    · have := hq r hr; omega
  have key : Mem (rem2 s b hi) x ↔ Mem s x ∨ (b ≤ x ∧ x ≤ hi) := by
    unfold rem2
    split
    · rw [mem_one]
    · exact ⟨.inl, fun z => z.elim id fun z => by omega⟩
  rw [key, h.i x, mem_one]
  constructor
  · rintro ((z | ⟨z1, z2, z3, z4⟩) | ⟨z1, z2⟩)
    · exact ⟨.inl z.1, z.2⟩
    · exact ⟨.inr ⟨z1, z2⟩, z4⟩
    · exact ⟨.inr ⟨by omega, z2⟩, out x z1 z2⟩
  · rintro ⟨z | ⟨z1, z2⟩, z4⟩
    · exact .inl (.inl ⟨z, z4⟩)
    · by_cases c : x < b
      · exact .inl (.inr ⟨z1, z2, c, z4⟩)
      · exact .inr ⟨by omega, z2⟩
theorem rem_begin {l1 m1 m2 s : Pss} {lo hi : Int} (i : ∀ x, Mem s x ↔ Mem l1 x ∧ ¬ Mem (m1 ++ m2) x) (a : ∀ q ∈ m1, q.2 < lo) (b : ∀ q ∈ m2, lo ≤ q.2) : Rem l1 m1 m2 s lo hi lo :=
  ⟨fun x => by rw [i x]; exact ⟨.inl, fun z => z.elim id fun z => by omega⟩, a, b, Int.le_refl _⟩
end Rg
set_option Elab.async false
set_option linter.all false
set_option maxRecDepth 100000
set_option maxHeartbeats 400000
namespace Tb
open PySem PySem.Spec PyProof.Rows L2 Mp Pl
def sg (σ : List Nat) (i : Nat) : Nat := σ.getD i 0
def mapP (σ : List Nat) (p : Prt) : Prt := { p with ix := sg σ p.ix }
section
variable {hp : List O} {i n : Nat} {o : O} {R : S → List O → Prop} {Xp : MX} {T : List Nod}
end
end Tb
set_option Elab.async false
set_option linter.all false
set_option maxRecDepth 100000
set_option maxHeartbeats 400000
namespace Tb
open PySem PySem.Spec PyProof.Rows L2 Mp Pl
section
variable {hp : List O} {i n : Nat} {o : O} {R : S → List O → Prop} {Xp : MX} {T : List Nod}
end
end Tb
set_option Elab.async false
set_option linter.all false
set_option maxRecDepth 100000
set_option maxHeartbeats 400000
namespace Tb
open PySem PySem.Spec PyProof.Rows L2 Mp Pl
structure Mk where
  sets : List D
  nodes : List (Option Nod)
  rank : List Int
  heavy : List Int
  cost : List Int
  op : List Bool
section
variable {ks : List Kd} {ts : List (Option T2)} {m : Mk}
variable {hp : List O} {i : Nat}
theorem dsOf_map : ∀ l : List D, dsOf (l.map Nd.d) = some l
  | [] => rfl
  | d :: l => by simp only [List.map_cons, dsOf, dsOf_map l]; rfl
end
structure Fr (hp : List O) (n i : Nat) : Prop where
  hn : n < hp.length
  hi : i < hp.length
  ne : n ≠ i
def S2 (hp : List O) (n i : Nat) (o u : O) : List O := (hp.set n o).set i u
section
variable {hp : List O} {n i : Nat} {o u : O}
@[simp] theorem S2_len : (S2 hp n i o u).length = hp.length := by simp [S2]
theorem Fr.gn (F : Fr hp n i) : (S2 hp n i o u)[n]? = some o := by
  unfold S2
  rw [List.getElem?_set_ne (Ne.symm F.ne), List.getElem?_set_self F.hn]
theorem Fr.gi (F : Fr hp n i) : (S2 hp n i o u)[i]? = some u := by
  unfold S2
  rw [List.getElem?_set_self (by simpa using F.hi)]
theorem Fr.na (F : Fr hp n i) {ls : List O} : (S2 hp n i o u ++ ls)[n]? = some o := at_app F.gn ls
theorem Fr.sn (F : Fr hp n i) {o' : O} : (S2 hp n i o u).set n o' = S2 hp n i o' u := by
  unfold S2
  rw [List.set_comm _ _ (Ne.symm F.ne), List.set_set]
theorem Fr.si (F : Fr hp n i) {u' : O} : (S2 hp n i o u).set i u' = S2 hp n i o u' := by
  unfold S2
  rw [List.set_set]
theorem Fr.sna (F : Fr hp n i) {o' : O} {ls : List O} : (S2 hp n i o u ++ ls).set n o' = S2 hp n i o' u ++ ls := by
  rw [List.set_append_left _ _ (by simpa using F.hn), F.sn]
theorem Fr.sia (F : Fr hp n i) {u' : O} {ls : List O} : (S2 hp n i o u ++ ls).set i u' = S2 hp n i o u' ++ ls := by
  rw [List.set_append_left _ _ (by simpa using F.hi), F.si]
@[simp] theorem S2_at0 {ls : List O} : (S2 hp n i o u ++ ls)[hp.length]? = ls[0]? := by
  rw [List.getElem?_append_right (by simp)]; simp
@[simp] theorem S2_set0 {ls : List O} {x : O} : (S2 hp n i o u ++ ls).set hp.length x = S2 hp n i o u ++ ls.set 0 x := by
  rw [List.set_append_right _ _ (by simp)]; simp
@[simp] theorem S2_take {ls : List O} : (S2 hp n i o u ++ ls).take hp.length = S2 hp n i o u := List.take_left' (by simp)
@[simp] theorem S2_take0 : (S2 hp n i o u).take hp.length = S2 hp n i o u := List.take_of_length_le (by simp)
theorem Fr.start (F : Fr hp n i) (h1 : hp[n]? = some o) (h2 : hp[i]? = some u) : hp = S2 hp n i o u := by
  unfold S2
  rw [set_same h1, set_same h2]
theorem Fr.k (F : Fr hp n i) {j : Nat} (h1 : n ≠ j) (h2 : i ≠ j) : (S2 hp n i o u)[j]? = hp[j]? := by
  unfold S2
  rw [List.getElem?_set_ne h2, List.getElem?_set_ne h1]
end
section
variable {hp : List O} {i n : Nat} {o : O} {R : S → List O → Prop} {Xp : MX} {ks : List Kd} {ts : List (Option T2)} {m : Mk}
end
end Tb
set_option Elab.async false
set_option linter.all false
set_option maxRecDepth 100000
set_option maxHeartbeats 1000000
namespace Tb
open PySem PySem.Spec PyProof.Rows L2 Mp Pl TL
structure Cf where
  size : Nat
  marks : Bool
  base : Int
structure Gp where
  nodes : List (Option Nod)
  back : List Nat
  wraps : Int
def pK (c : Cf) (g : Gp) : List (Key × Nd) := [(.inr "nodes", .nd 1), (.inr "size", .d (.int c.size)), (.inr "marks", .d (.bl c.marks)), (.inr "base", .d (.int c.base)), (.inr "back", .nd 2), (.inr "wraps", .d (.int g.wraps))]
def planG (c : Cf) (g : Gp) : List Gn := [.dct (pK c g), .lst ((ndL g.nodes).map .d), .lst ((nL g.back).map .d)]
def planO (c : Cf) (g : Gp) : O := .reg (planG c g)
section
variable {c : Cf} {g : Gp}
@[simp] theorem rgO_plan : rgO (some (planO c g)) = some (planG c g) := rfl
@[simp] theorem plan_0 : (planG c g)[0]? = some (.dct (pK c g)) := rfl
@[simp] theorem plan_1 : (planG c g)[1]? = some (.lst ((ndL g.nodes).map .d)) := rfl
@[simp] theorem plan_2 : (planG c g)[2]? = some (.lst ((nL g.back).map .d)) := rfl
theorem ky2 {a b : String} (h : a ≠ b) : (Sum.inr (Str.ofString a) : Key) ≠ .inr (Str.ofString b) := fun z => h (ofS_inj.mp (Sum.inr.inj z))
@[simp] theorem pk_nodes : getN (pK c g) (.inr "nodes") = some (.nd 1) := getN_hd
@[simp] theorem pk_size : getN (pK c g) (.inr "size") = some (.d (.int c.size)) := by
  unfold pK; rw [getN_tl (ky2 (by decide)), getN_hd]
@[simp] theorem pk_marks : getN (pK c g) (.inr "marks") = some (.d (.bl c.marks)) := by
  unfold pK; rw [getN_tl (ky2 (by decide)), getN_tl (ky2 (by decide)), getN_hd]
@[simp] theorem pk_base : getN (pK c g) (.inr "base") = some (.d (.int c.base)) := by
  unfold pK; rw [getN_tl (ky2 (by decide)), getN_tl (ky2 (by decide)), getN_tl (ky2 (by decide)), getN_hd]
@[simp] theorem pk_back : getN (pK c g) (.inr "back") = some (.nd 2) := by
  unfold pK; rw [getN_tl (ky2 (by decide)), getN_tl (ky2 (by decide)), getN_tl (ky2 (by decide)), getN_tl (ky2 (by decide)), getN_hd]
@[simp] theorem pk_wraps : getN (pK c g) (.inr "wraps") = some (.d (.int g.wraps)) := by
  unfold pK; rw [getN_tl (ky2 (by decide)), getN_tl (ky2 (by decide)), getN_tl (ky2 (by decide)), getN_tl (ky2 (by decide)), getN_tl (ky2 (by decide)), getN_hd]
@[simp] theorem pk_len : (pK c g).length = 6 := rfl
@[simp] theorem pset_0 {v : Int} : (planG c g).set 0 (.dct (pK c { g with wraps := v })) = planG c { g with wraps := v } := rfl
@[simp] theorem reg_plan : O.reg (planG c g) = planO c g := rfl
variable {hp : List O} {i : Nat}
end
section
variable {hp : List O} {n i : Nat} {o u : O}
theorem Fr.more (F : Fr hp n i) {ls : List O} : Fr (S2 hp n i o u ++ ls) n i := ⟨by simp; have := F.hn; omega, by simp; have := F.hi; omega, F.ne⟩
theorem Fr.s2 (F : Fr hp n i) {ls : List O} {o' u' : O} : S2 (S2 hp n i o u ++ ls) n i o' u' = S2 hp n i o' u' ++ ls := by
  show ((S2 hp n i o u ++ ls).set n o').set i u' = _
  rw [F.sna, F.sia]
@[simp] theorem S2_atm {ls : List O} {j : Nat} : (S2 hp n i o u ++ ls)[hp.length + j]? = ls[j]? := by
  rw [List.getElem?_append_right (by simp)]; simp
@[simp] theorem S2_setm {ls : List O} {x : O} {j : Nat} : (S2 hp n i o u ++ ls).set (hp.length + j) x = S2 hp n i o u ++ ls.set j x := by
  rw [List.set_append_right _ _ (by simp)]; simp
end
section
variable {hp : List O} {n i : Nat} {o : O} {R : S → List O → Prop} {Xp : MX} {c : Cf} {g : Gp}
end
end Tb
set_option Elab.async false
set_option linter.all false
set_option maxRecDepth 100000
set_option maxHeartbeats 1000000
namespace Tb
open PySem PySem.Spec PyProof.Rows L2 Mp Pl TL
def Wrd (s : Str) : Prop := SOk s ∧ ∃ k, k < 200 ∧ WdK k s
structure PrOk (p : Prt) : Prop where
  nm : Wrd p.nm
  df : (p.w = "else" ∧ p.df ≠ .non ∧ DfOk p.df) ∨ ((p.w = "must" ∨ p.w = "may") ∧ p.df = .non)
def BdOk : Nod → Prop
  | .nu t rs => PlOk (.nu t rs)
  | .na t r a => PlOk (.na t r a)
  | .si k t sz => PlOk (.si k t sz)
  | .te t ls sz => PlOk (.te t ls sz)
  | .rc _ _ ps gs => ps.length ≤ 8 ∧ (gs.getD []).length ≤ 8 ∧ (gs.getD []).flatten.length ≤ 8 ∧ (∀ p ∈ allP ps gs, PrOk p) ∧ (ps.map (·.nm)).Nodup ∧ ∀ q ∈ gs.getD [], q ≠ []
  | .rw _ _ _ sz => RgOk 0 200 sz
  | .ch as ad => as ≠ [] ∧ (as ++ ad.getD []).length ≤ 5 ∧ (∀ e ∈ as ++ ad.getD [], Wrd e.1) ∧ ((as ++ ad.getD []).map (·.1)).Nodup
  | _ => True
structure GNd (base : Int) (n i : Nat) (x : Nod) : Prop where
  ref : ∀ j ∈ refs x, j < n
  tag : ∀ t, tg x = some t → (t.1 = 0 ∨ t.1 = 2 ∨ t.1 = 3) ∧ t.2 = ((base + i).natAbs : Int)
  bd : BdOk x
theorem GNd.mono {b : Int} {n m i : Nat} {x : Nod} (h : GNd b n i x) (hn : n ≤ m) : GNd b m i x := ⟨fun j hj => Nat.lt_of_lt_of_le (h.ref j hj) hn, h.tag, h.bd⟩
structure GI (c : Cf) (g : Gp) : Prop where
  z : c.size ≤ 60
  le : g.nodes.length ≤ c.size
  nd : ∀ (i : Nat) (x : Nod), g.nodes[i]? = some (some x) → GNd c.base g.nodes.length i x
  bk : ∀ b ∈ g.back, b < g.nodes.length
  bl : g.back.length ≤ g.nodes.length
structure GP (c : Cf) (g g' : Gp) : Prop where
  gi : GI c g'
  le : g.nodes.length ≤ g'.nodes.length
  old : ∀ i, i < g.nodes.length → g'.nodes[i]? = g.nodes[i]?
  new : ∀ i, g.nodes.length ≤ i → i < g'.nodes.length → ∃ x, g'.nodes[i]? = some (some x)
theorem GP.refl {c : Cf} {g : Gp} (h : GI c g) : GP c g g := ⟨h, Nat.le_refl _, fun _ _ => rfl, fun i h1 h2 => by omega⟩
theorem GP.trans {c : Cf} {g g1 g2 : Gp} (a : GP c g g1) (b : GP c g1 g2) : GP c g g2 :=
  ⟨b.gi, Nat.le_trans a.le b.le, fun i h => (b.old i (Nat.lt_of_lt_of_le h a.le)).trans (a.old i h), fun i h1 h2 => by
    by_cases q : i < g1.nodes.length
    · rw [b.old i q]; exact a.new i h1 q
    · exact b.new i (by omega) h2⟩
theorem GI.back {c : Cf} {g : Gp} (h : GI c g) {b : List Nat} (h1 : ∀ x ∈ b, x ∈ g.back) (h2 : b.length ≤ g.back.length) : GI c { g with back := b } :=
  ⟨h.z, h.le, h.nd, fun x hx => h.bk x (h1 x hx), Nat.le_trans h2 h.bl⟩
theorem GP.back {c : Cf} {g g' : Gp} (h : GP c g g') {b : List Nat} (h1 : ∀ x ∈ b, x ∈ g'.back) (h2 : b.length ≤ g'.back.length) : GP c g { g' with back := b } :=
  ⟨h.gi.back h1 h2, h.le, h.old, h.new⟩
theorem GI.push {c : Cf} {g : Gp} (h : GI c g) (hl : g.nodes.length < c.size) : GI c { g with nodes := g.nodes ++ [none] } :=
  ⟨h.z, by simp; omega, fun i x hx => by
    by_cases q : i < g.nodes.length
    · simp only at hx
      rw [List.getElem?_append_left q] at hx
      exact (h.nd i x hx).mono (by simp)
    · simp only at hx
      rw [List.getElem?_append_right (by omega)] at hx
      cases z : i - g.nodes.length with
      | zero => rw [z] at hx; cases hx
      | succ k => rw [z] at hx; simp at hx, fun b hb => by have := h.bk b hb; simp; omega, by have := h.bl; simp; omega⟩
theorem GI.wraps {c : Cf} {g : Gp} {v : Int} (h : GI c g) : GI c { g with wraps := v } := ⟨h.z, h.le, h.nd, h.bk, h.bl⟩
theorem GP.put {c : Cf} {g g1 g2 : Gp} (h0 : GI c g) (h1 : g1.nodes = g.nodes ++ [none]) (h : GP c g1 g2) {x : Nod} (hx : GNd c.base g2.nodes.length g.nodes.length x) : GP c g { g2 with nodes := g2.nodes.set g.nodes.length (some x) } := by
  have hl : g1.nodes.length = g.nodes.length + 1 := by rw [h1]; simp
  have h2 := h.le
  refine ⟨⟨h.gi.z, by simpa using h.gi.le, fun i y hy => ?_, fun b hb => by simpa using h.gi.bk b hb, by simpa using h.gi.bl⟩, by simp; omega, fun i hi => ?_, fun i h3 h4 => ?_⟩
  · simp only [List.length_set] at hy ⊢
    by_cases q : i = g.nodes.length
    · subst q
      rw [List.getElem?_set_self (by omega)] at hy
      cases hy
      exact hx
    · rw [List.getElem?_set_ne (Ne.symm q)] at hy
      exact h.gi.nd i y hy
  · simp only
    rw [List.getElem?_set_ne (by omega), h.old i (by omega), h1, List.getElem?_append_left hi]
  · simp only [List.length_set] at h4 ⊢
    by_cases q : i = g.nodes.length
    · subst q
      exact ⟨x, by rw [List.getElem?_set_self h4]⟩
    · rw [List.getElem?_set_ne (Ne.symm q)]
      exact h.new i (by omega) h4
end Tb
set_option Elab.async false
set_option linter.all false
set_option maxRecDepth 100000
set_option maxHeartbeats 1000000
namespace Tb
open PySem PySem.Spec PyProof.Rows L2 Mp Pl TL
def GrSp (c : Cf) (f : Nat) (M : MF) : Prop := ∀ (hp : List O) (n i : Nat) (o : O) (g : Gp) (bar : Bool) (rank : Int) (R : S → List O → Prop) (Xp : MX) (tg' : Tg (M, R, Xp)), Fr hp n i → St o → GI c g → g.nodes.length < c.size → 2 * (c.size - g.nodes.length) ≤ f →
  (∀ g' o', St o' → GP c g g' → g.nodes.length < g'.nodes.length → R (.d (.int g.nodes.length)) (S2 hp n i o' (planO c g'))) → mfH M (S2 hp n i o (planO c g)) [.mu n, .ob i 0, .d (.bl bar), .d (.int rank)] R Xp tg'
section
variable {hp : List O} {n i : Nat} {o : O} {R : S → List O → Prop} {Xp : MX} {c : Cf} {g : Gp}
theorem GrSp.at_ {f : Nat} {M : MF} (hg : GrSp c f M) {bar : Bool} {rank : Int} {tg' : Tg (M, R, Xp)} {ls : List O} (F : Fr hp n i) (hs : St o) (h0 : GI c g) (hl : g.nodes.length < c.size) (hf : 2 * (c.size - g.nodes.length) ≤ f)
    (h : ∀ g' o', St o' → GP c g g' → g.nodes.length < g'.nodes.length → R (.d (.int g.nodes.length)) (S2 hp n i o' (planO c g') ++ ls)) : mfH M (S2 hp n i o (planO c g) ++ ls) [.mu n, .ob i 0, .d (.bl bar), .d (.int rank)] R Xp tg' := by
  have q := hg (S2 hp n i o (planO c g) ++ ls) n i o g bar rank R Xp tg' F.more hs h0 hl hf fun g' o' h1 h2 h3 => by rw [F.s2]; exact h g' o' h1 h2 h3
  rwa [F.s2] at q
end
end Tb
set_option Elab.async false
set_option linter.all false
set_option maxRecDepth 100000
set_option maxHeartbeats 2000000
namespace Tb
open PySem PySem.Spec PyProof.Rows L2 Mp Pl TL
def WD (w : Str) (d : D) : Prop := (w = "else" ∧ d ≠ .non ∧ DfOk d) ∨ ((w = "must" ∨ w = "may") ∧ d = .non)
theorem WD.pr {nm : Str} {ix : Nat} {w : Str} {d : D} (h : WD w d) (hn : Wrd nm) : PrOk ⟨nm, ix, w, d⟩ := ⟨hn, h⟩
theorem WD.sh {w : Str} {d : D} (h : WD w d) : shD (.str w) = true := by
  rcases h with ⟨rfl, _⟩ | ⟨rfl | rfl, _⟩ <;> simp
section
variable {hp : List O} {n i : Nat} {o : O} {R : S → List O → Prop} {Xp : MX} {c : Cf} {g : Gp}
end
end Tb
set_option Elab.async false
set_option linter.all false
set_option maxRecDepth 100000
set_option maxHeartbeats 2000000
namespace Tb
open PySem PySem.Spec PyProof.Rows L2 Mp Pl TL
section
variable {hp : List O} {n i : Nat} {o : O} {R : S → List O → Prop} {Xp : MX} {c : Cf} {g : Gp}
end
end Tb
set_option Elab.async false
set_option linter.all false
set_option maxRecDepth 100000
set_option maxHeartbeats 2000000
namespace Tb
open PySem PySem.Spec PyProof.Rows L2 Mp Pl TL
def bases : List Int := [1, 1, 27, 29, 30, 120, 126, 300, -16383, -129]
structure Grown (base : Int) (T : List Nod) : Prop where
  b : base ∈ bases
  nd : ∀ (i : Nat) (x : Nod), T[i]? = some x → GNd base T.length i x
section
variable {hp : List O} {n i : Nat} {o : O} {R : S → List O → Prop} {Xp : MX} {c : Cf} {g : Gp}
end
end Tb
set_option Elab.async false
set_option linter.all false
set_option maxRecDepth 100000
set_option maxHeartbeats 1000000
namespace Tb
open PySem PySem.Spec PyProof.Rows L2 Mp Pl TL
def eqL (xs ys : List D) : Bool := PyData.eqvAll (D.pyL xs) (D.pyL ys)
theorem eqD_tup {xs ys : List D} : eqD (.tup xs) (.tup ys) = eqL xs ys := by simp only [eqD, D.py, PyData.eqv]; rfl
@[simp] theorem eqL_nil : eqL [] [] = true := rfl
@[simp] theorem eqL_cn {x : D} {xs : List D} : eqL (x :: xs) [] = false := rfl
@[simp] theorem eqL_nc {x : D} {xs : List D} : eqL [] (x :: xs) = false := rfl
@[simp] theorem eqL_cons {x y : D} {xs ys : List D} : eqL (x :: xs) (y :: ys) = (eqD x y && eqL xs ys) := rfl
theorem eqL_ip : ∀ {r s : List (Int × Int)}, eqL (r.map ipD) (s.map ipD) = decide (r = s)
  | [], [] => by simp
  | [], _ :: _ => by simp
  | _ :: _, [] => by simp
  | a :: r, b :: s => by
    rw [List.map_cons, List.map_cons, eqL_cons, eqD_pair, eqL_ip (r := r) (s := s)]
    by_cases h1 : a = b <;> by_cases h2 : r = s <;> simp [h1, h2]
theorem eqD_pairs {r s : List (Int × Int)} : eqD (pairsD r) (pairsD s) = decide (r = s) := by unfold pairsD; rw [eqD_tup, eqL_ip]
def Sh (k : Nat) (d : D) : Prop := d.py.canLay0 = true ∧ d.py.depth ≤ k
theorem Sh.shD {k : Nat} {d : D} (h : Sh k d) (hk : k ≤ 64) : shD d = true := by
  unfold Mp.shD SeqAt.shaped
  rw [h.1, Bool.true_and, decide_eq_true_iff]
  have := h.2
  omega
theorem Sh.mono {j k : Nat} {d : D} (h : Sh j d) (hk : j ≤ k) : Sh k d := ⟨h.1, Nat.le_trans h.2 hk⟩
theorem Sh.int {k : Nat} {i : Int} : Sh k (.int i) := by simp [Sh, D.py, PyData.canLay0, PyData.depth]
theorem Sh.bl {k : Nat} {i : Bool} : Sh k (.bl i) := by simp [Sh, D.py, PyData.canLay0, PyData.depth]
theorem Sh.non {k : Nat} : Sh k .non := by simp [Sh, D.py, PyData.canLay0, PyData.depth]
theorem Sh.str {k : Nat} {s : Str} (h : PyData.strOk s = true) : Sh k (.str s) := by simp [Sh, D.py, PyData.canLay0, PyData.depth, h]
theorem sh_many {k : Nat} : ∀ {xs : List D}, (PyData.canLayAll0 (D.pyL xs) = true ∧ PyData.depthAll (D.pyL xs) ≤ k) ↔ ∀ x ∈ xs, Sh k x
  | [] => by simp [D.pyL, PyData.canLayAll0, PyData.depthAll]
  | x :: xs => by
    have ih := sh_many (k := k) (xs := xs)
    have e : (∀ y ∈ x :: xs, Sh k y) ↔ Sh k x ∧ ∀ y ∈ xs, Sh k y := by simp
    rw [e, ← ih]
    simp only [D.pyL, PyData.canLayAll0, PyData.depthAll, Bool.and_eq_true]
    unfold Sh
    constructor
    · rintro ⟨⟨a, b⟩, c⟩; exact ⟨⟨a, by omega⟩, b, by omega⟩
    · rintro ⟨⟨a, b⟩, c, d⟩; exact ⟨⟨a, c⟩, by omega⟩
theorem sh_tup {k : Nat} {xs : List D} : Sh (k + 1) (.tup xs) ↔ ∀ x ∈ xs, Sh k x := by
  rw [← sh_many]
  simp only [Sh, D.py, PyData.canLay0, PyData.depth, Nat.add_le_add_iff_right]
theorem sh_ip {k : Nat} {p : Int × Int} : Sh (k + 1) (ipD p) := sh_tup.mpr (by simp [Sh.int])
theorem sh_pairs {k : Nat} {r : List (Int × Int)} : Sh (k + 2) (pairsD r) := sh_tup.mpr fun x hx => by
  obtain ⟨p, _, rfl⟩ := List.mem_map.mp hx
  exact sh_ip
@[simp] theorem shD_pairs {r : List (Int × Int)} : shD (pairsD r) = true := (sh_pairs (k := 0)).shD (by omega)
def hP (p : Prt) : D := .tup [.str p.nm, .str p.w, p.df]
def nmD {τ : Type} (a : Str × τ) : D := .str a.1
def rootH : Nod → List D
  | .na _ r _ => r.map entD
  | .ch as _ => as.map nmD
  | .rc _ _ ps _ => ps.map hP
  | _ => []
def addH : Nod → List D
  | .na _ _ a => (a.getD []).map entD
  | .ch _ ad => (ad.getD []).map nmD
  | .rc _ _ _ gs => (gs.getD []).map fun g => .lst (g.map hP)
  | _ => []
structure NSh (x : Nod) : Prop where
  root : ∀ d ∈ rootH x, Sh 3 d
  add : ∀ d ∈ addH x, Sh 4 d
  l1 : (rootH x).length ≤ 1000
  l2 : (addH x).length ≤ 1000
  l3 : ∀ k t ps gs, x = .rc k t ps (some gs) → ∀ g ∈ gs, g.length ≤ 1000
  te : ∀ t l s, x = .te t l s → PyData.strOk l = true
section
variable {hp : List O} {n i : Nat} {o : O} {R : S → List O → Prop} {Xp : MX}
end
end Tb
set_option Elab.async false
set_option linter.all false
set_option maxRecDepth 100000
set_option maxHeartbeats 1600000
namespace Rn
open PySem PySem.Spec PyProof.Rows L2 Mp Pl Tb Rg
theorem at_mid {l1 l2 : Pss} {p : Int × Int} : atI (psD (l1 ++ p :: l2)) (l1.length : Int) = some (pD p) := by
  rw [atI_nat (by omega) (by simp; omega)]
  simp
section
variable {hp : List O} {n : Nat} {o : O} {R : S → List O → Prop} {Xp : MX}
theorem sp_shared {l m : Pss} {tg : Tg (m_shared, R, Xp)} (nl : Nrm l) (nm : Nrm m) (hl : l.length ≤ 4000) (hm : m.length ≤ 4000) (h : ∀ s : Pss, s.length ≤ l.length + m.length → (∀ x, Mem s x ↔ Mem l x ∧ Mem m x) → R (.d (.lst (psD s))) hp) : mfH m_shared hp [.d (.tup (psD l)), .d (.tup (psD m))] R Xp tg := by
  refine mfH_of ?_
  unfold m_shared
  simp
  refine whileH_of (fun k hp' env' => ∃ l1 l2 m1 m2 s y5 y6, l = l1 ++ l2 ∧ m = m1 ++ m2 ∧ k = l2.length + m2.length ∧ s.length + l2.length + m2.length ≤ l.length + m.length ∧ (∀ x, Mem s x ↔ Mem l x ∧ Mem m x ∧ (Mem l1 x ∨ Mem m1 x)) ∧ hp' = hp ++ [.lst (psD s)] ∧
    env' = [some (.d (.tup (psD l))), some (.d (.tup (psD m))), some (.mu hp.length), some (.d (.int (l1.length : Nat))), some (.d (.int (m1.length : Nat))), y5, y6]) (l.length + m.length)
    ⟨[], l, [], m, [], none, none, rfl, rfl, rfl, by simp, fun x => ⟨fun z => absurd z mem_nil, fun z => absurd z.2.2 fun z => z.elim mem_nil mem_nil⟩, rfl, rfl⟩ ?_
  rintro k _ _ N ⟨l1, l2, m1, m2, s, y5, y6, el, em, ek, hs, inv, rfl, rfl⟩ hN
  have fin : (l2 = [] ∨ m2 = []) → R (.d (.lst (psD s))) hp := by
    intro z
    refine h s (by omega) fun x => ?_
    rw [inv x]
    refine ⟨fun z => ⟨z.1, z.2.1⟩, fun z2 => ⟨z2.1, z2.2, ?_⟩⟩
    rcases z with rfl | rfl
    · rw [List.append_nil] at el; subst el; exact .inl z2.1
    · rw [List.append_nil] at em; subst em; exact .inr z2.2
  cases l2 with
  | nil =>
    subst el
    simp
    exact fin (.inl rfl)
  | cons p l2 =>
    have c1 : (l1.length : Int) < ((psD l).length : Int) := by rw [el]; simp; omega
    cases m2 with
    | nil =>
      have c2 : ¬ (m1.length < m.length) := by rw [em]; simp
      simp at c1
      simp [c1, c2]
      exact fin (.inr rfl)
    | cons q m2 =>
      have c2 : (m1.length : Int) < ((psD m).length : Int) := by rw [em]; simp; omega
      have a1 : atI (psD l) (l1.length : Int) = some (pD p) := by rw [el]; exact at_mid
      have a2 : atI (psD m) (m1.length : Int) = some (pD q) := by rw [em]; exact at_mid
      simp only [List.length_cons] at hs ek
      simp at c1 c2
      have ls : (shr s p q).length ≤ s.length + 1 := by unfold shr; split <;> simp
      have g1 : p.2 < q.2 → ∀ y5 y6, N ⟨hp ++ [.lst (psD (shr s p q))], [some (.d (.tup (psD l))), some (.d (.tup (psD m))), some (.mu hp.length), some (.d (.int ((l1.length : Int) + 1))), some (.d (.int (m1.length : Nat))), y5, y6], hp.length⟩ := fun c y5 y6 =>
        hN (l2.length + (m2.length + 1)) _ _ (by omega) ⟨l1 ++ [p], l2, m1, q :: m2, _, y5, y6, by rw [el]; simp, em, by simp, by simp only [List.length_cons]; omega, fun x => by
          have := shr_step (l1 := l1) (l2 := l2) (m1 := m1) (m2 := m2) (p := p) (q := q) (s := s) (by rw [← em]; exact nm) (by omega) (by rw [← el, ← em]; exact inv) x
          rw [← el, ← em] at this
          exact this, rfl, by simp⟩
      have g2 : ¬ p.2 < q.2 → ∀ y5 y6, N ⟨hp ++ [.lst (psD (shr s p q))], [some (.d (.tup (psD l))), some (.d (.tup (psD m))), some (.mu hp.length), some (.d (.int (l1.length : Nat))), some (.d (.int ((m1.length : Int) + 1))), y5, y6], hp.length⟩ := fun c y5 y6 =>
        hN (l2.length + 1 + m2.length) _ _ (by omega) ⟨l1, p :: l2, m1 ++ [q], m2, _, y5, y6, el, by rw [em]; simp, by simp, by simp only [List.length_cons]; omega, fun x => by
          have := shr_step2 (l1 := l1) (l2 := l2) (m1 := m1) (m2 := m2) (p := p) (q := q) (s := s) (by rw [← el]; exact nl) (by omega) (by rw [← el, ← em]; exact inv) x
          rw [← el, ← em] at this
          exact this, rfl, by simp⟩
      have lz : s.length < 16777216 := by omega
      have i1 : (if p.1 < q.1 then q.1 else p.1) = max p.1 q.1 := by split <;> omega
      have i2 : (if q.2 < p.2 then q.2 else p.2) = min p.2 q.2 := by split <;> omega
      unfold shr at g1 g2
      by_cases c3 : max p.1 q.1 ≤ min p.2 q.2
      · rw [if_pos c3] at g1 g2
        by_cases c4 : p.2 < q.2
        · simp [c1, c2, a1, a2, i1, i2, c3, c4, lz]
          have := g1 c4 (some (.d (.int (max p.1 q.1)))) (some (.d (.int (min p.2 q.2))))
          simpa using this
        · simp [c1, c2, a1, a2, i1, i2, c3, c4, lz]
          have := g2 c4 (some (.d (.int (max p.1 q.1)))) (some (.d (.int (min p.2 q.2))))
          simpa using this
      · rw [if_neg c3] at g1 g2
        by_cases c4 : p.2 < q.2
        · simp [c1, c2, a1, a2, i1, i2, c3, c4, lz]
          exact g1 c4 _ _
        · simp [c1, c2, a1, a2, i1, i2, c3, c4, lz]
          exact g2 c4 _ _
theorem rem1_len {s : Pss} {b : Int} {q : Int × Int} : (rem1 s b q).length ≤ s.length + 1 := by unfold rem1; split <;> simp
theorem rem2_len {s : Pss} {b hi : Int} : (rem2 s b hi).length ≤ s.length + 1 := by unfold rem2; split <;> simp
theorem at_mid' {l m1 m2 : Pss} {q : Int × Int} (e : l = m1 ++ q :: m2) : atI (psD l) (m1.length : Int) = some (pD q) := by rw [e]; exact at_mid
theorem sp_remaining {l m : Pss} {tg : Tg (m_remaining, R, Xp)} (nl : Nrm l) (nm : Nrm m) (hl : l.length ≤ 900) (hm : m.length ≤ 1000) (h : ∀ s : Pss, s.length ≤ 1000000 → (∀ x, Mem s x ↔ Mem l x ∧ ¬ Mem m x) → R (.d (.lst (psD s))) hp) : mfH m_remaining hp [.d (.tup (psD l)), .d (.tup (psD m))] R Xp tg := by
  refine mfH_of ?_
  unfold m_remaining
  simp
  refine forH_of (fun ds hp' env' => ∃ l1 l2 m1 m2 s y4 y5 y6 y7, l = l1 ++ l2 ∧ ds = psD l2 ∧ m = m1 ++ m2 ∧ s.length ≤ 1001 * l1.length ∧ (∀ x, Mem s x ↔ Mem l1 x ∧ ¬ Mem (m1 ++ m2) x) ∧ (∀ q ∈ m1, ∀ p ∈ l2, q.2 < p.1) ∧ hp' = hp ++ [.lst (psD s)] ∧
    env' = [some (.d (.tup (psD l))), some (.d (.tup (psD m))), some (.mu hp.length), some (.d (.int (m1.length : Nat))), y4, y5, y6, y7])
    ⟨[], l, [], m, [], none, none, none, none, rfl, rfl, rfl, by simp, fun x => ⟨fun z => absurd z mem_nil, fun z => absurd z.1 mem_nil⟩, (fun _ h => nomatch h), rfl, rfl⟩ ?_ ?_
  · rintro d ds _ _ N ⟨l1, l2, m1, m2, s, y4, y5, y6, y7, el, er, em, hs, inv, hlow, rfl, rfl⟩ hN
    cases l2 with
    | nil => cases er
    | cons p l2 =>
      cases er
      have nl2 := (nrm_split (el ▸ nl)).2.1
      have pp := nl2.1
      have ll : l1.length + 1 ≤ 1000 := by rw [el] at hl; simp at hl; omega
      simp [-x_seq]
      refine seq_cut (fun hp' env' => ∃ m1 m2 y6 y7, m = m1 ++ m2 ∧ (∀ x, Mem s x ↔ Mem l1 x ∧ ¬ Mem (m1 ++ m2) x) ∧ (∀ q ∈ m1, q.2 < p.1) ∧ (∀ q ∈ m2, p.1 ≤ q.2) ∧ hp' = hp ++ [.lst (psD s)] ∧
        env' = [some (.d (.tup (psD l))), some (.d (.tup (psD m))), some (.mu hp.length), some (.d (.int (m1.length : Nat))), some (.d (.int p.1)), some (.d (.int p.2)), y6, y7]) (fun N2 hN2 => ?_) ?_
      · simp
        refine whileH_of (fun k hp' env' => ∃ m1 m2, k = m2.length ∧ m = m1 ++ m2 ∧ (∀ x, Mem s x ↔ Mem l1 x ∧ ¬ Mem (m1 ++ m2) x) ∧ (∀ q ∈ m1, q.2 < p.1) ∧ hp' = hp ++ [.lst (psD s)] ∧
          env' = [some (.d (.tup (psD l))), some (.d (.tup (psD m))), some (.mu hp.length), some (.d (.int (m1.length : Nat))), some (.d (.int p.1)), some (.d (.int p.2)), y6, y7]) m2.length ⟨m1, m2, rfl, em, inv, fun q hq => hlow q hq p List.mem_cons_self, rfl, rfl⟩ ?_
        rintro k _ _ N3 ⟨m1, m2, ek, em, inv, hlow, rfl, rfl⟩ hN3
        cases m2 with
        | nil =>
          have c2 : ¬ (m1.length < m.length) := by rw [em]; simp
          simp [c2]
          exact hN2 _ _ ⟨m1, [], y6, y7, em, inv, hlow, (fun _ h => nomatch h), rfl, rfl⟩
        | cons q m2 =>
          have c2 : m1.length < m.length := by rw [em]; simp
          have a2 := at_mid' em
          have nm2 := (nrm_split (em ▸ nm)).2.1
          by_cases c3 : q.2 < p.1
          · simp [c2, a2, c3]
            refine hN3 m2.length _ _ (by simp [ek]) ⟨m1 ++ [q], m2, rfl, by rw [em]; simp, by simpa using inv, fun r hr => ?_, rfl, by simp⟩
            rcases List.mem_append.mp hr with hr | hr
            · exact hlow r hr
            · rw [List.mem_singleton.mp hr]; exact c3
          · simp [c2, a2, c3]
            refine hN2 _ _ ⟨m1, q :: m2, y6, y7, em, inv, hlow, fun r hr => ?_, rfl, rfl⟩
            rcases List.mem_cons.mp hr with rfl | hr
            · omega
            · have h1 := nm2.2.1 r hr
              have h2 := nm2.2.2.le r hr
              have h3 := nm2.1
              omega
      clear em inv hlow
      rintro _ _ ⟨m1, m2, y6, y7, em, inv, hlow, hhi, rfl, rfl⟩
      have r0 := rem_begin (hi := p.2) inv hlow hhi
      simp
      refine whileH_of (fun k hp' env' => ∃ a1 a2 s2 b, k = a2.length ∧ m = a1 ++ a2 ∧ Rem l1 a1 a2 s2 p.1 p.2 b ∧ s2.length + a2.length ≤ s.length + m.length ∧ hp' = hp ++ [.lst (psD s2)] ∧
        env' = [some (.d (.tup (psD l))), some (.d (.tup (psD m))), some (.mu hp.length), some (.d (.int (m1.length : Nat))), some (.d (.int p.1)), some (.d (.int p.2)), some (.d (.int b)), some (.d (.int (a1.length : Nat)))]) m2.length ⟨m1, m2, s, p.1, rfl, em, r0, by rw [em]; simp, rfl, rfl⟩ ?_
      rintro k _ _ N3 ⟨a1, a2, s2, b, ek, ea, rm, hs2, rfl, rfl⟩ hN3
      have fin : (∀ q ∈ a2, p.2 < q.1) → ∀ y7, N ⟨hp ++ [.lst (psD (rem2 s2 b p.2))], [some (.d (.tup (psD l))), some (.d (.tup (psD m))), some (.mu hp.length), some (.d (.int (m1.length : Nat))), some (.d (.int p.1)), some (.d (.int p.2)), some (.d (.int b)), y7], hp.length⟩ := by
        intro hq y7
        have l2' := rem2_len (s := s2) (b := b) (hi := p.2)
        refine hN _ _ trivial ⟨l1 ++ [p], l2, m1, m2, _, _, _, _, _, by rw [el]; simp, rfl, em, by simp only [List.length_append, List.length_singleton]; omega, fun x => ?_, fun q hq r hr => ?_, rfl, rfl⟩
        · have := rem_end (ea ▸ nm) rm hq x
          rw [this, ← ea, em]
        · have h1 := hlow q hq
          have h2 := nl2.2.1 r hr
          omega
      have lz : s2.length < 16777216 := by omega
      cases a2 with
      | nil =>
        have c2 : ¬ (a1.length < m.length) := by rw [ea]; simp
        have := fin (fun _ h => nomatch h) (some (.d (.int (a1.length : Nat))))
        unfold rem2 at this
        by_cases c3 : b ≤ p.2
        · rw [if_pos c3] at this
          simp [c2, c3, lz]
          simpa using this
        · rw [if_neg c3] at this
          simp [c2, c3, lz]
          exact this
      | cons q a2 =>
        have c2 : a1.length < m.length := by rw [ea]; simp
        have e2 := at_mid' ea
        have na2 := (nrm_split (ea ▸ nm)).2.1
        by_cases c3 : q.1 ≤ p.2
        · have st := rem_step (ea ▸ nm) rm c3
          have l1' := rem1_len (s := s2) (b := b) (q := q)
          have go := hN3 a2.length (hp ++ [.lst (psD (rem1 s2 b q))]) [some (.d (.tup (psD l))), some (.d (.tup (psD m))), some (.mu hp.length), some (.d (.int (m1.length : Nat))), some (.d (.int p.1)), some (.d (.int p.2)), some (.d (.int (q.2 + 1))), some (.d (.int ((a1.length : Int) + 1)))] (by simp [ek])
            ⟨a1 ++ [q], a2, _, q.2 + 1, rfl, by rw [ea]; simp, st, by simp only [List.length_cons] at hs2; omega, rfl, by simp⟩
          unfold rem1 at go
          by_cases c4 : b < q.1
          · rw [if_pos c4] at go
            simp [c2, e2, c3, c4, lz]
            simpa using go
          · rw [if_neg c4] at go
            simp [c2, e2, c3, c4, lz]
            exact go
        · have := fin (fun r hr => by
            rcases List.mem_cons.mp hr with rfl | hr
            · omega
            · have h1 := na2.2.1 r hr
              have h3 := na2.1
              omega) (some (.d (.int (a1.length : Nat))))
          unfold rem2 at this
          by_cases c5 : b ≤ p.2
          · rw [if_pos c5] at this
            simp [c2, e2, c3, c5, lz]
            simpa using this
          · rw [if_neg c5] at this
            simp [c2, e2, c3, c5, lz]
            exact this
  · rintro _ _ ⟨l1, l2, m1, m2, s, y4, y5, y6, y7, el, er, em, hs, inv, hlow, rfl, rfl⟩
    have : l2 = [] := by cases l2 with | nil => rfl | cons _ _ => cases er
    subst this
    rw [List.append_nil] at el
    subst el
    simp
    exact h s (by omega) fun x => by rw [inv x, ← em]
theorem sp_and {l m : Pss} {tg : Tg (m_Ranges___and__, R, Xp)} (nl : Nrm l) (nm : Nrm m) (hl : l.length ≤ 4000) (hm : m.length ≤ 4000) (h : ∀ r : Pss, Nrm r → r.length ≤ l.length + m.length → (∀ x, Mem r x ↔ Mem l x ∧ Mem m x) → R (.d (rgD r)) hp) : mfH m_Ranges___and__ hp [.d (rgD l), .d (rgD m)] R Xp tg := by
  refine mfH_of ?_
  unfold m_Ranges___and__
  simp
  refine sp_shared nl nm hl hm fun s hs inv => ?_
  simp
  refine sp_mkQ (l := s) (by omega) (.inr (.inl rfl)) ?_
  simp
  have := mgd_ok (l := s)
  exact h (mgd s) this.1 (Nat.le_trans mgd_len hs) fun x => by rw [this.2, inv x]
theorem sp_or {l m : Pss} {tg : Tg (m_Ranges___or__, R, Xp)} (hl : l.length ≤ 4000) (hm : m.length ≤ 4000) (h : ∀ r : Pss, Nrm r → r.length ≤ l.length + m.length → (∀ x, Mem r x ↔ Mem l x ∨ Mem m x) → R (.d (rgD r)) hp) : mfH m_Ranges___or__ hp [.d (rgD l), .d (rgD m)] R Xp tg := by
  refine mfH_of ?_
  unfold m_Ranges___or__
  simp
  have e : psD l ++ psD m = psD (l ++ m) := by simp
  rw [e]
  refine ⟨by omega, ?_⟩
  refine sp_mkQ (l := l ++ m) (by simp; omega) (.inl rfl) ?_
  simp
  have := mgd_ok (l := l ++ m)
  exact h (mgd (l ++ m)) this.1 (Nat.le_trans mgd_len (by simp)) fun x => by rw [this.2, mem_app]
theorem sp_sub {l m : Pss} {tg : Tg (m_Ranges___sub__, R, Xp)} (nl : Nrm l) (nm : Nrm m) (hl : l.length ≤ 900) (hm : m.length ≤ 900) (h : ∀ r : Pss, Nrm r → r.length ≤ 1000000 → (∀ x, Mem r x ↔ Mem l x ∧ ¬ Mem m x) → R (.d (rgD r)) hp) : mfH m_Ranges___sub__ hp [.d (rgD l), .d (rgD m)] R Xp tg := by
  refine mfH_of ?_
  unfold m_Ranges___sub__
  simp
  refine sp_remaining nl nm (by omega) (by omega) fun s hs inv => ?_
  simp
  refine sp_mkQ (l := s) (by omega) (.inr (.inl rfl)) ?_
  simp
  have := mgd_ok (l := s)
  exact h (mgd s) this.1 (Nat.le_trans mgd_len hs) fun x => by rw [this.2, inv x]
theorem sp_eqO {l m : Pss} {tg : Tg (m_Ranges___eq__, R, Xp)} (h : R (.d (.bl (decide (l = m)))) hp) : mfH m_Ranges___eq__ hp [.d (rgD l), .d (rgD m)] R Xp tg := by
  refine mfH_of ?_
  unfold m_Ranges___eq__
  simp
  have e1 : ∀ l : Pss, D.tup (psD l) = pairsD l := fun _ => rfl
  rw [e1, e1]
  refine ⟨shD_pairs, shD_pairs, ?_⟩
  rw [eqD_pairs]
  exact h
theorem sp_eqN {l : Pss} {d : D} {tg : Tg (m_Ranges___eq__, R, Xp)} (ho : ownT "Ranges" d = some false) (h : R (.d (.bl false)) hp) : mfH m_Ranges___eq__ hp [.d (rgD l), .d d] R Xp tg := by
  refine mfH_of ?_
  unfold m_Ranges___eq__
  simp [ho]
  exact h
end
end Rn
set_option Elab.async false
set_option linter.all false
set_option maxRecDepth 100000
set_option maxHeartbeats 1600000
namespace Rn
open PySem PySem.Spec PyProof.Rows L2 Mp Pl Tb Rg
theorem erase_perm {τ : Type} : ∀ {l : List τ} {i : Nat} (h : i < l.length), (l[i] :: l.eraseIdx i).Perm l
  | a :: l, 0, _ => .refl _
  | a :: l, i + 1, h => by
    have := erase_perm (l := l) (i := i) (by simpa using h)
    simp only [List.getElem_cons_succ, List.eraseIdx_cons_succ]
    exact (List.Perm.swap _ _ _).trans (.cons _ this)
section
variable {hp : List O} {n : Nat} {o : O} {R : S → List O → Prop} {Xp : MX}
theorem sp_shuffled {xs : List D} {s : S} {tg' : Tg (m__law_shuffled, R, Xp)} (hv : val hp s = some (.lst xs)) (ho : hp[n]? = some o) (hs : Pl.St o) (hl : xs.length ≤ 1000)
    (h : ∀ (ys : List D) o', Pl.St o' → ys.Perm xs → R (.d (.lst ys)) (hp.set n o')) : mfH m__law_shuffled hp [.mu n, s] R Xp tg' := by
  have hn : n < hp.length := (List.getElem?_eq_some_iff.mp ho).1
  have same : hp.set n o = hp := by
    obtain ⟨h1, h2⟩ := List.getElem?_eq_some_iff.mp ho
    rw [← h2]
    exact List.set_getElem_self h1
  have hv2 : ∀ l, val (hp ++ l) s = some (.lst xs) := fun l => val_app hv
  refine mfH_of ?_
  unfold m__law_shuffled
  have k1 : (xs.length : Int) < 4611686018427387904 := by omega
  have k2 : (-4611686018427387904 : Int) ≤ xs.length := by omega
  have k3 : xs.length < 16777216 := by omega
  simp [hv, hv2, k1, k2, k3]
  refine forH_rng (fun k hp' env' => ∃ (l r : List D) (o' : O) (x : Option S), Pl.St o' ∧ (l ++ r).Perm xs ∧ l.length + k = xs.length ∧ hp' = hp.set n o' ++ [.lst l, .lst r] ∧ env' = [some (.mu n), some s, some (.mu hp.length), some (.mu (hp.length + 1)), x]) ⟨xs, [], o, none, hs, by simp, by simp, by rw [same], rfl⟩ ?_ ?_
  · rintro k _ _ N hk ⟨l, r, o1, x, hs1, pm, hlk, rfl, rfl⟩ hN
    have at_ : ∀ (o' : O) ls, (hp.set n o' ++ ls)[n]? = some o' := fun o' ls => at_app (set_at ho o') ls
    have st_ : ∀ (o' u : O) ls, (hp.set n u ++ ls).set n o' = hp.set n o' ++ ls := fun o' u ls => by rw [List.set_append_left _ _ (by simpa using hn), List.set_set]
    simp
    refine s_take (at_ _ _) hs1 (by omega) fun q o2 hs2 q0 q2 q3 => ?_
    obtain ⟨a, rfl⟩ : ∃ a : Nat, q = (a : Int) := ⟨q.toNat, by omega⟩
    have ha : a < l.length := by
      by_cases z : (2 : Int) ≤ l.length
      · have := q2 z; omega
      · have := q3 (by omega); omega
    simp [st_]
    have e1 : seqIndex? (a : Int) l.length = some a := by
      have z : ¬ ((a : Int) < 0) := by omega
      unfold seqIndex?
      simp [z, ha]
    unfold fPopAt
    simp [on, one, e1, List.getElem?_eq_getElem ha]
    have lr := pm.length_eq
    rw [List.length_append] at lr
    refine ⟨by omega, by omega, ?_⟩
    exact hN _ _ ⟨l.eraseIdx a, r ++ [l[a]], o2, _, hs2, by
      have p1 := erase_perm ha
      refine List.Perm.trans ?_ pm
      refine List.Perm.trans (l₂ := (l[a] :: l.eraseIdx a) ++ r) ?_ (p1.append_right r)
      rw [← List.append_assoc]
      exact List.perm_append_singleton _ _, by rw [List.length_eraseIdx, if_pos ha]; omega, rfl, rfl⟩
  · rintro _ _ ⟨l, r, o1, x, hs1, pm, hlk, rfl, rfl⟩
    have l0 : l = [] := List.length_eq_zero_iff.mp (by omega)
    subst l0
    simp
    refine retN (by omega) (by rw [List.getElem?_append_right (by simp)]; simp; rfl) ?_
    rw [List.take_left' (by simp)]
    exact h r o1 hs1 (by simpa using pm)
theorem sp_some {xs : List D} {ls : List O} {tg' : Tg (m__law_some, R, Xp)} (hs : Pl.St o) (hl : xs.length ≤ 1000)
    (h : ∀ (ys : List D) o', Pl.St o' → ys.length ≤ xs.length → (∀ y ∈ ys, y ∈ xs) → R (.d (.lst ys)) (o' :: ls)) : mfH m__law_some (o :: ls) [.mu 0, .d (.lst xs)] R Xp tg' := by
  have k3 : xs.length < 16777216 := by omega
  refine mfH_of ?_
  unfold m__law_some
  simp [-x_seq]
  rw [x_seq]
  simp [-x_seq]
  refine s_take (hp := o :: ls) (n := 0) rfl hs (by omega) fun q o1 hs1 _ _ _ => ?_
  simp [-x_seq]
  rw [x_seq]
  by_cases c0 : q = 0
  · simp [c0, k3]
    exact h xs o1 hs1 (Nat.le_refl _) fun _ h => h
  simp [c0, -x_seq]
  rw [x_seq]
  by_cases c1 : q = 1
  · simp [c1]
    exact h [] o1 hs1 (by simp) (by simp)
  simp [c1]
  refine forH_of (fun ds hp' env' => ∃ (l r ys : List D) (o' : O) (y4 : Option S), Pl.St o' ∧ xs = l ++ r ∧ ds = r ∧ ys.length ≤ l.length ∧ (∀ y ∈ ys, y ∈ l) ∧ hp' = o' :: (ls ++ [.lst ys]) ∧ env' = [some (.mu 0), some (.d (.lst xs)), some (.d (.int q)), some (.mu (ls.length + 1)), y4]) ⟨[], xs, [], o1, none, hs1, rfl, rfl, by simp, by simp, rfl, rfl⟩ ?_ ?_
  · rintro d ds _ _ N ⟨l, r, ys, o2, y4, hs2, e, rfl, hy, hm, rfl, rfl⟩ hN
    have ly : l.length + 1 ≤ 1000 := by rw [e] at hl; simp at hl; omega
    simp
    refine s_take (hp := o2 :: (ls ++ [O.lst ys])) (n := 0) rfl hs2 (by omega) fun q o3 hs3 _ _ _ => ?_
    by_cases c : q = 0
    · simp [c]
      refine ⟨by omega, hN _ _ trivial ⟨l ++ [d], ds, ys ++ [d], o3, _, hs3, by rw [e]; simp, rfl, by simp; omega, fun y hy => ?_, by simp, rfl⟩⟩
      rcases List.mem_append.mp hy with hy | hy
      · exact List.mem_append_left _ (hm y hy)
      · exact List.mem_append_right _ hy
    · simp [c]
      exact hN _ _ trivial ⟨l ++ [d], ds, ys, o3, _, hs3, by rw [e]; simp, rfl, by simp; omega, fun y hy => List.mem_append_left _ (hm y hy), rfl, rfl⟩
  · rintro _ _ ⟨l, r, ys, o2, y4, hs2, e, rfl, hy, hm, rfl, rfl⟩
    rw [List.append_nil] at e
    subst e
    simp
    exact h ys o2 hs2 hy hm
end
end Rn
set_option Elab.async false
set_option linter.all false
set_option maxRecDepth 100000
namespace Rg
structure Rw where
  lo : Int
  hi : Int
  one : Bool
  two : Bool
abbrev Rws := List Rw
def Cnt : Rws → Prop
  | [] => True
  | r :: t => r.lo ≤ r.hi ∧ (match t with | [] => True | r2 :: _ => r2.lo = r.hi + 1) ∧ Cnt t
def stre (f g : Int → Int) : Int → Int → List Int → Rws
  | i, j, k :: k' :: r => ⟨k, k' - 1, decide (0 < i + f k), decide (0 < j + g k)⟩ :: stre f g (i + f k) (j + g k) (k' :: r)
  | _, _, _ => []
theorem stre_len {f g : Int → Int} : ∀ {S : List Int} {i j : Int}, (stre f g i j S).length ≤ S.length
  | [], _, _ => by simp [stre]
  | [_], _, _ => by simp [stre]
  | k :: k' :: r, i, j => by
    have := stre_len (f := f) (g := g) (S := k' :: r) (i := i + f k) (j := j + g k)
    simp only [stre, List.length_cons] at this ⊢
    omega
theorem stre_cnt {f g : Int → Int} : ∀ {S : List Int} {i j : Int}, AscI S → Cnt (stre f g i j S)
  | [], _, _, _ => trivial
  | [_], _, _, _ => trivial
  | [k, k'], i, j, h => by
    have := h.1 k' (by simp)
    exact ⟨by show k ≤ k' - 1; omega, trivial, trivial⟩
  | k :: k' :: k2 :: r, i, j, h => by
    have h1 := h.1 k' (by simp)
    have := stre_cnt (f := f) (g := g) (S := k' :: k2 :: r) (i := i + f k) (j := j + g k) h.2
    exact ⟨by show k ≤ k' - 1; omega, by show k' = k' - 1 + 1; omega, this⟩
structure Tells (a b : Pss) (R : Rws) : Prop where
  row : ∀ r ∈ R, ∀ x, r.lo ≤ x → x ≤ r.hi → (r.one = true ↔ Mem a x) ∧ (r.two = true ↔ Mem b x)
  out : ∀ x, Mem a x ∨ Mem b x → ∃ r ∈ R, r.lo ≤ x ∧ x ≤ r.hi
def InR (R : Rws) (x : Int) : Prop := ∃ r ∈ R, r.lo ≤ x ∧ x ≤ r.hi
def EndIn (l : Pss) (b : Int) (ks : List Int) : Prop := ∀ p ∈ l, (b < p.1 → p.1 ∈ ks) ∧ (b < p.2 + 1 → p.2 + 1 ∈ ks)
theorem endIn_gap {l : Pss} {b k : Int} {ks : List Int} (h : EndIn l b (k :: ks)) (ha : AscI (k :: ks)) : ∀ p ∈ l, ¬ (b < p.1 ∧ p.1 < k) ∧ ¬ (b < p.2 + 1 ∧ p.2 + 1 < k) := fun p hp => by
  have h1 := h p hp
  refine ⟨fun z => ?_, fun z => ?_⟩
  · rcases List.mem_cons.mp (h1.1 z.1) with e | e
    · omega
    · have := ha.1 _ e; omega
  · rcases List.mem_cons.mp (h1.2 z.1) with e | e
    · omega
    · have := ha.1 _ e; omega
theorem endIn_next {l : Pss} {b k : Int} {ks : List Int} (h : EndIn l b (k :: ks)) (hb : b < k) : EndIn l k ks := fun p hp => by
  have h1 := h p hp
  refine ⟨fun z => ?_, fun z => ?_⟩
  · rcases List.mem_cons.mp (h1.1 (by omega)) with e | e
    · omega
    · exact e
  · rcases List.mem_cons.mp (h1.2 (by omega)) with e | e
    · omega
    · exact e
theorem stre_tells {a b : Pss} (ha : ∀ p ∈ a, p.1 ≤ p.2) (hb : ∀ p ∈ b, p.1 ≤ p.2) : ∀ {S : List Int} {c : Int}, AscI S → (∀ k ∈ S, c < k) → EndIn a c S → EndIn b c S →
    (∀ r ∈ stre (stp a) (stp b) (cov a c) (cov b c) S, ∀ x, r.lo ≤ x → x ≤ r.hi → (r.one = true ↔ Mem a x) ∧ (r.two = true ↔ Mem b x)) ∧
    ∀ x, (∃ k ∈ S, k ≤ x) → (∃ k ∈ S, x < k) → InR (stre (stp a) (stp b) (cov a c) (cov b c) S) x
  | [], c, _, _, _, _ => ⟨fun r h => (nomatch h), fun x ⟨k, h, _⟩ => (nomatch h)⟩
  | [k], c, _, _, _, _ => ⟨fun r h => (nomatch h), fun x ⟨k1, h1, h2⟩ ⟨k3, h3, h4⟩ => by
    rw [List.mem_singleton.mp h1] at h2
    rw [List.mem_singleton.mp h3] at h4
    omega⟩
  | k :: k' :: S, c, hs, hc, ea, eb => by
    have ck := hc k List.mem_cons_self
    have kk := hs.1 k' List.mem_cons_self
    have ea2 := endIn_next ea ck
    have eb2 := endIn_next eb ck
    have s1 := cov_step ck (endIn_gap ea hs)
    have s2 := cov_step ck (endIn_gap eb hs)
    obtain ⟨i1, i2⟩ := stre_tells ha hb (S := k' :: S) (c := k) hs.2 hs.1 ea2 eb2
    have e : stre (stp a) (stp b) (cov a c) (cov b c) (k :: k' :: S) = ⟨k, k' - 1, decide (0 < cov a k), decide (0 < cov b k)⟩ :: stre (stp a) (stp b) (cov a k) (cov b k) (k' :: S) := by
      show (⟨k, k' - 1, decide (0 < cov a c + stp a k), decide (0 < cov b c + stp b k)⟩ : Rw) :: stre (stp a) (stp b) (cov a c + stp a k) (cov b c + stp b k) (k' :: S) = _
      rw [← s1, ← s2]
    rw [e]
    have same : ∀ {l : Pss}, (∀ p ∈ l, p.1 ≤ p.2) → EndIn l k (k' :: S) → ∀ x, k ≤ x → x ≤ k' - 1 → (decide (0 < cov l k) = true ↔ Mem l x) := by
      intro l hl el x h1 h2
      have g := endIn_gap el hs.2
      have := cov_same (l := l) (k := k) (x := x) h1 fun p hp => ⟨fun z => (g p hp).1 ⟨z.1, by omega⟩, fun z => (g p hp).2 ⟨z.1, by omega⟩⟩
      rw [decide_eq_true_eq, ← this]
      exact (cov_pos hl).2
    refine ⟨fun r hr x h1 h2 => ?_, fun x h1 h2 => ?_⟩
    · rcases List.mem_cons.mp hr with rfl | hr
      · exact ⟨same ha ea2 x h1 h2, same hb eb2 x h1 h2⟩
      · exact i1 r hr x h1 h2
    · by_cases q : x < k'
      · refine ⟨_, List.mem_cons_self, ?_, ?_⟩
        · obtain ⟨j, hj, hjx⟩ := h1
          show k ≤ x
          rcases List.mem_cons.mp hj with rfl | hj
          · exact hjx
          · have := hs.1 j hj; omega
        · show x ≤ k' - 1
          omega
      · obtain ⟨j, hj, hjx⟩ := h2
        have hj' : j ∈ k' :: S := by
          rcases List.mem_cons.mp hj with rfl | hj
          · omega
          · exact hj
        obtain ⟨r, hr, z⟩ := i2 x ⟨k', List.mem_cons_self, by omega⟩ ⟨j, hj', hjx⟩
        exact ⟨r, List.mem_cons_of_mem _ hr, z⟩
theorem cov_low {l : Pss} {c : Int} (h : ∀ p ∈ l, c < p.1 ∧ c < p.2 + 1) : cov l c = 0 := by
  induction l with
  | nil => rfl
  | cons p r ih =>
    show ind (p.1 ≤ c) - ind (p.2 + 1 ≤ c) + cov r c = 0
    have := h p List.mem_cons_self
    rw [ih fun q hq => h q (List.mem_cons_of_mem _ hq), ind_f (by omega), ind_f (by omega)]
    rfl
theorem stre_ok {a b : Pss} {S : List Int} (ha : ∀ p ∈ a, p.1 ≤ p.2) (hb : ∀ p ∈ b, p.1 ≤ p.2) (hs : AscI S) (ea : ∀ p ∈ a, p.1 ∈ S ∧ p.2 + 1 ∈ S) (eb : ∀ p ∈ b, p.1 ∈ S ∧ p.2 + 1 ∈ S) :
    Cnt (stre (stp a) (stp b) 0 0 S) ∧ Tells a b (stre (stp a) (stp b) 0 0 S) := by
  obtain ⟨c, hc⟩ := below S
  have z1 : cov a c = 0 := cov_low fun p hp => ⟨hc _ (ea p hp).1, hc _ (ea p hp).2⟩
  have z2 : cov b c = 0 := cov_low fun p hp => ⟨hc _ (eb p hp).1, hc _ (eb p hp).2⟩
  have t := stre_tells ha hb hs hc (fun p hp => ⟨fun _ => (ea p hp).1, fun _ => (ea p hp).2⟩) fun p hp => ⟨fun _ => (eb p hp).1, fun _ => (eb p hp).2⟩
  rw [z1, z2] at t
  refine ⟨stre_cnt hs, t.1, fun x hx => ?_⟩
  rcases hx with ⟨p, hp, h1, h2⟩ | ⟨p, hp, h1, h2⟩
  · exact t.2 x ⟨_, (ea p hp).1, h1⟩ ⟨_, (ea p hp).2, by omega⟩
  · exact t.2 x ⟨_, (eb p hp).1, h1⟩ ⟨_, (eb p hp).2, by omega⟩
def ch1 (w : Rw → Bool) (acc : Pss) (r : Rw) : Pss := if w r = true then
    match acc with
    | q :: t => if q.2 + 1 = r.lo then (q.1, r.hi) :: t else (r.lo, r.hi) :: q :: t
    | [] => [(r.lo, r.hi)]
  else acc
def chL (w : Rw → Bool) (R : Rws) : Pss := (R.foldl (ch1 w) []).reverse
theorem ch1_len {w : Rw → Bool} {acc : Pss} {r : Rw} : (ch1 w acc r).length ≤ acc.length + 1 := by
  unfold ch1
  split
  · cases acc with
    | nil => simp
    | cons q t => simp only; split <;> simp
  · omega
theorem ch1_ok {w : Rw → Bool} {acc : Pss} {r : Rw} (n : RNrm acc) (hr : r.lo ≤ r.hi) (h : ∀ q ∈ acc, q.2 + 1 ≤ r.lo) :
    RNrm (ch1 w acc r) ∧ (∀ q ∈ ch1 w acc r, q.2 ≤ r.hi) ∧ ∀ x, Mem (ch1 w acc r) x ↔ Mem acc x ∨ (w r = true ∧ r.lo ≤ x ∧ x ≤ r.hi) := by
  unfold ch1
  by_cases c : w r = true
  · rw [if_pos c]
    cases acc with
    | nil =>
      refine ⟨⟨hr, (fun _ h => nomatch h), trivial⟩, fun q hq => by rw [List.mem_singleton.mp hq]; exact Int.le_refl _, fun x => ?_⟩
      rw [mem_cons]
      exact ⟨fun z => z.elim (fun z => .inr ⟨c, z⟩) fun z => absurd z mem_nil, fun z => z.elim (fun z => absurd z mem_nil) fun z => .inl z.2⟩
    | cons q t =>
      have hq := h q List.mem_cons_self
      have nq := n.1
      by_cases c2 : q.2 + 1 = r.lo
      · simp only [c2, if_true]
        refine ⟨⟨by show q.1 ≤ r.hi; omega, n.2.1, n.2.2⟩, fun z hz => ?_, fun x => ?_⟩
        · rcases List.mem_cons.mp hz with rfl | hz
          · exact Int.le_refl _
          · have := h z (List.mem_cons_of_mem _ hz); omega
        · rw [mem_cons, mem_cons]
          constructor
          · rintro (⟨z1, z2⟩ | z)
            · simp only at z1 z2
              by_cases c3 : x ≤ q.2
              · exact .inl (.inl ⟨z1, c3⟩)
              · exact .inr ⟨c, by omega, z2⟩
            · exact .inl (.inr z)
          · rintro ((⟨z1, z2⟩ | z) | ⟨_, z1, z2⟩)
            · exact .inl ⟨z1, by show x ≤ r.hi; omega⟩
            · exact .inr z
            · exact .inl ⟨by show q.1 ≤ x; omega, z2⟩
      · simp only [c2, if_false]
        refine ⟨⟨hr, fun z hz => ?_, n⟩, fun z hz => ?_, fun x => ?_⟩
        · rcases List.mem_cons.mp hz with rfl | hz
          · show z.2 + 1 < r.lo
            omega
          · have h1 := n.2.1 z hz
            show z.2 + 1 < r.lo
            omega
        · rcases List.mem_cons.mp hz with rfl | hz
          · exact Int.le_refl _
          · have := h z hz; omega
        · rw [mem_cons]
          exact ⟨fun z => z.elim (fun z => .inr ⟨c, z⟩) .inl, fun z => z.elim .inr fun z => .inl z.2⟩
  · rw [if_neg c]
    exact ⟨n, fun q hq => by have := h q hq; omega, fun x => ⟨.inl, fun z => z.elim id fun z => absurd z.1 c⟩⟩
theorem ch_gen {w : Rw → Bool} : ∀ {R : Rws} {acc : Pss}, Cnt R → RNrm acc → (∀ r, R.head? = some r → ∀ q ∈ acc, q.2 + 1 ≤ r.lo) →
    RNrm (R.foldl (ch1 w) acc) ∧ (∀ x, Mem (R.foldl (ch1 w) acc) x ↔ Mem acc x ∨ ∃ r ∈ R, w r = true ∧ r.lo ≤ x ∧ x ≤ r.hi) ∧ (R.foldl (ch1 w) acc).length ≤ acc.length + R.length
  | [], acc, _, n, _ => ⟨n, fun x => ⟨.inl, fun z => z.elim id fun ⟨_, h, _⟩ => (nomatch h)⟩, by simp⟩
  | r :: R, acc, c, n, h => by
    obtain ⟨h1, h2, h3⟩ := ch1_ok (w := w) n c.1 (h r rfl)
    obtain ⟨i1, i2, i3⟩ := ch_gen (w := w) (R := R) (acc := ch1 w acc r) c.2.2 h1 fun r2 e q hq => by
      have := h2 q hq
      cases R with
      | nil => cases e
      | cons r3 R =>
        cases e
        have : r2.lo = r.hi + 1 := c.2.1
        omega
    rw [List.foldl_cons]
    refine ⟨i1, fun x => ?_, ?_⟩
    · rw [i2, h3]
      constructor
      · rintro ((z | z) | ⟨r2, hr2, z⟩)
        · exact .inl z
        · exact .inr ⟨r, List.mem_cons_self, z⟩
        · exact .inr ⟨r2, List.mem_cons_of_mem _ hr2, z⟩
      · rintro (z | ⟨r2, hr2, z⟩)
        · exact .inl (.inl z)
        · rcases List.mem_cons.mp hr2 with rfl | hr2
          · exact .inl (.inr z)
          · exact .inr ⟨r2, hr2, z⟩
    · have := ch1_len (w := w) (acc := acc) (r := r)
      simp only [List.length_cons]
      omega
theorem chL_ok {w : Rw → Bool} {R : Rws} (c : Cnt R) : Nrm (chL w R) ∧ (∀ x, Mem (chL w R) x ↔ ∃ r ∈ R, w r = true ∧ r.lo ≤ x ∧ x ≤ r.hi) ∧ (chL w R).length ≤ R.length := by
  obtain ⟨h1, h2, h3⟩ := ch_gen (w := w) (acc := []) c trivial fun _ _ _ h => nomatch h
  refine ⟨h1.rev, fun x => ?_, by unfold chL; rw [List.length_reverse]; simpa using h3⟩
  unfold chL
  rw [mem_rev, h2]
  exact ⟨fun z => z.elim (fun z => absurd z mem_nil) id, .inr⟩
theorem ch_one {a b : Pss} {R : Rws} (c : Cnt R) (t : Tells a b R) (x : Int) : Mem (chL (fun r => r.one) R) x ↔ Mem a x := by
  rw [(chL_ok c).2.1]
  exact ⟨fun ⟨r, hr, h1, h2, h3⟩ => (t.row r hr x h2 h3).1.mp h1, fun h => by
    obtain ⟨r, hr, h2, h3⟩ := t.out x (.inl h)
    exact ⟨r, hr, (t.row r hr x h2 h3).1.mpr h, h2, h3⟩⟩
theorem ch_two {a b : Pss} {R : Rws} (c : Cnt R) (t : Tells a b R) (x : Int) : Mem (chL (fun r => r.two) R) x ↔ Mem b x := by
  rw [(chL_ok c).2.1]
  exact ⟨fun ⟨r, hr, h1, h2, h3⟩ => (t.row r hr x h2 h3).2.mp h1, fun h => by
    obtain ⟨r, hr, h2, h3⟩ := t.out x (.inr h)
    exact ⟨r, hr, (t.row r hr x h2 h3).2.mpr h, h2, h3⟩⟩
theorem ch_both {a b : Pss} {R : Rws} (c : Cnt R) (t : Tells a b R) (x : Int) : Mem (chL (fun r => r.one && r.two) R) x ↔ Mem a x ∧ Mem b x := by
  rw [(chL_ok c).2.1]
  constructor
  · rintro ⟨r, hr, h1, h2, h3⟩
    have := t.row r hr x h2 h3
    rw [Bool.and_eq_true] at h1
    exact ⟨this.1.mp h1.1, this.2.mp h1.2⟩
  · rintro ⟨h, h'⟩
    obtain ⟨r, hr, h2, h3⟩ := t.out x (.inl h)
    have := t.row r hr x h2 h3
    exact ⟨r, hr, by rw [Bool.and_eq_true]; exact ⟨this.1.mpr h, this.2.mpr h'⟩, h2, h3⟩
theorem ch_any {a b : Pss} {R : Rws} (c : Cnt R) (t : Tells a b R) (x : Int) : Mem (chL (fun r => r.one || r.two) R) x ↔ Mem a x ∨ Mem b x := by
  rw [(chL_ok c).2.1]
  constructor
  · rintro ⟨r, hr, h1, h2, h3⟩
    have := t.row r hr x h2 h3
    rw [Bool.or_eq_true] at h1
    exact h1.imp this.1.mp this.2.mp
  · intro h
    obtain ⟨r, hr, h2, h3⟩ := t.out x h
    have := t.row r hr x h2 h3
    exact ⟨r, hr, by rw [Bool.or_eq_true]; exact h.imp this.1.mpr this.2.mpr, h2, h3⟩
theorem ch_less {a b : Pss} {R : Rws} (c : Cnt R) (t : Tells a b R) (x : Int) : Mem (chL (fun r => r.one && !r.two) R) x ↔ Mem a x ∧ ¬ Mem b x := by
  rw [(chL_ok c).2.1]
  constructor
  · rintro ⟨r, hr, h1, h2, h3⟩
    have := t.row r hr x h2 h3
    rw [Bool.and_eq_true, Bool.not_eq_true'] at h1
    exact ⟨this.1.mp h1.1, fun z => by have := this.2.mpr z; rw [this] at h1; exact absurd h1.2 (by decide)⟩
  · rintro ⟨h, h'⟩
    obtain ⟨r, hr, h2, h3⟩ := t.out x (.inl h)
    have := t.row r hr x h2 h3
    refine ⟨r, hr, ?_, h2, h3⟩
    rw [Bool.and_eq_true, Bool.not_eq_true']
    refine ⟨this.1.mpr h, ?_⟩
    cases e : r.two with
    | false => rfl
    | true => exact absurd (this.2.mp e) h'
def turn (R : Rws) : Rws := R.map fun r => ⟨r.lo, r.hi, r.two, r.one⟩
theorem turn_cnt : ∀ {R : Rws}, Cnt R → Cnt (turn R)
  | [], _ => trivial
  | [r], h => ⟨h.1, trivial, trivial⟩
  | r :: r2 :: R, h => ⟨h.1, h.2.1, turn_cnt (R := r2 :: R) h.2.2⟩
theorem turn_tells {a b : Pss} {R : Rws} (t : Tells a b R) : Tells b a (turn R) := by
  refine ⟨fun r hr x h1 h2 => ?_, fun x hx => ?_⟩
  · obtain ⟨r', hr', rfl⟩ := List.mem_map.mp hr
    exact (t.row r' hr' x h1 h2).symm
  · obtain ⟨r, hr, h⟩ := t.out x hx.symm
    exact ⟨_, List.mem_map_of_mem hr, h⟩
end Rg
set_option Elab.async false
set_option linter.all false
set_option maxRecDepth 100000
set_option maxHeartbeats 1600000
namespace Qk14
open PySem PySem.Spec PyProof.Rows L2 Mp Pl Tb Rg Rn
def ix (n : Int) : List Int → Nat
  | [] => 0
  | k :: r => if k = n then 0 else ix n r + 1
theorem ix_s {n : Int} {r : List Int} : ix n (n :: r) = 0 := if_pos rfl
theorem ix_n {n k : Int} {r : List Int} (h : ¬ k = n) : ix n (k :: r) = ix n r + 1 := if_neg h
def dkn : Nat → List Int → List (Key × Nd)
  | _, [] => []
  | i, k :: r => (.inl k, .nd i) :: dkn (i + 1) r
abbrev rowG (f g : Int → Int) (k : Int) : Gn := .lst [.d (.int (f k)), .d (.int (g k))]
def rgL (L : List Int) (f g : Int → Int) : List Gn := .dct (dkn 1 (uniq L)) :: (uniq L).map (rowG f g)
def upd (f : Int → Int) (n v : Int) : Int → Int := fun j => if j = n then v else f j
theorem dkn_len : ∀ {i : Nat} {l : List Int}, (dkn i l).length = l.length
  | _, [] => rfl
  | i, k :: r => by show (dkn (i + 1) r).length + 1 = _; rw [dkn_len, List.length_cons]
theorem dkn_keys : ∀ {i : Nat} {l : List Int}, (dkn i l).map (fun kv => keyV kv.1) = iL l
  | _, [] => rfl
  | i, k :: r => by show .int k :: (dkn (i + 1) r).map (fun kv => keyV kv.1) = _; rw [dkn_keys]; rfl
theorem getN_dkn {n : Int} : ∀ {i : Nat} {l : List Int}, getN (dkn i l) (.inl n) = if n ∈ l then some (.nd (i + ix n l)) else none
  | _, [] => rfl
  | i, k :: r => by
    by_cases h : k = n
    · subst h
      rw [if_pos List.mem_cons_self, ix_s]
      exact getN_hd
    · have h' : ¬ n = k := fun z => h z.symm
      show getN ((.inl k, .nd i) :: dkn (i + 1) r) (.inl n) = _
      rw [getN_tl (by simp [h]), getN_dkn]
      have e : ix n (k :: r) = ix n r + 1 := ix_n h
      simp only [List.mem_cons, h', false_or, e]
      split
      · congr 2; omega
      · rfl
theorem dkn_app {n : Int} : ∀ {i : Nat} {l : List Int}, dkn i (l ++ [n]) = dkn i l ++ [(.inl n, .nd (i + l.length))]
  | _, [] => rfl
  | i, k :: r => by
    show (.inl k, .nd i) :: dkn (i + 1) (r ++ [n]) = _
    rw [dkn_app]
    show _ = (.inl k, .nd i) :: (dkn (i + 1) r ++ [(.inl n, .nd (i + (r.length + 1)))])
    rw [show i + 1 + r.length = i + (r.length + 1) by omega]
theorem setN_dkn {n : Int} {i : Nat} {l : List Int} (h : n ∉ l) : setN (dkn i l) (.inl n) (.nd (i + l.length)) = dkn i (l ++ [n]) := by
  have key : ∀ {i : Nat} {l : List Int}, n ∉ l → ((dkn i l).any fun kv => decide (kv.1 = (.inl n : Key))) = false := by
    intro i l
    induction l generalizing i with
    | nil => intro _; rfl
    | cons k r ih =>
      intro h
      have h1 : ¬ k = n := fun z => h (by simp [z])
      show (decide ((.inl k : Key) = .inl n) || _) = false
      rw [ih fun z => h (List.mem_cons_of_mem _ z)]
      simp [h1]
  unfold setN
  rw [key h, dkn_app]
  rfl
theorem map_idx {τ : Type} {F G : Int → τ} {n : Int} (hF : ∀ k, k ≠ n → F k = G k) : ∀ {l : List Int}, l.Nodup → n ∈ l → (l.map F).set (ix n l) (G n) = l.map G
  | [], _, h => by cases h
  | k :: r, nd, h => by
    obtain ⟨n1, n2⟩ := List.nodup_cons.mp nd
    by_cases e : k = n
    · subst e
      rw [ix_s]
      show G k :: r.map F = G k :: r.map G
      congr 1
      exact List.map_congr_left fun j hj => hF j fun z => n1 (z ▸ hj)
    · have hr : n ∈ r := by
        rcases List.mem_cons.mp h with z | z
        · exact absurd z.symm e
        · exact z
      have e2 : ix n (k :: r) = ix n r + 1 := ix_n e
      rw [e2]
      show F k :: (r.map F).set (ix n r) (G n) = G k :: r.map G
      rw [hF k e, map_idx hF n2 hr]
theorem stp_snoc {l : Pss} {p : Int × Int} {n : Int} : stp (l ++ [p]) n = stp l n + (ind (p.1 = n) - ind (p.2 + 1 = n)) := by
  induction l with
  | nil => show ind (p.1 = n) - ind (p.2 + 1 = n) + 0 = 0 + _; omega
  | cons q r ih =>
    show ind (q.1 = n) - ind (q.2 + 1 = n) + stp (r ++ [p]) n = ind (q.1 = n) - ind (q.2 + 1 = n) + stp r n + _
    rw [ih]
    omega
def ends (l : Pss) : List Int := (l.filter full).flatMap fun p => [p.1, p.2 + 1]
theorem stp_out {n : Int} : ∀ {l : Pss}, n ∉ l.flatMap (fun p => [p.1, p.2 + 1]) → stp l n = 0
  | [], _ => rfl
  | p :: r, h => by
    rw [List.flatMap_cons, List.mem_append] at h
    have h1 : ¬ p.1 = n := fun z => h (.inl (by simp [z]))
    have h2 : ¬ p.2 + 1 = n := fun z => h (.inl (by simp [z]))
    show ind (p.1 = n) - ind (p.2 + 1 = n) + stp r n = 0
    rw [ind_f h1, ind_f h2, stp_out fun z => h (.inr z)]
    rfl
theorem ends_len {l : Pss} : (ends l).length ≤ 2 * l.length := by
  unfold ends
  rw [List.length_flatMap]
  have h1 := List.length_filter_le full l
  have h2 : ∀ m : Pss, (m.map fun p => [p.1, p.2 + 1].length).sum = 2 * m.length := by
    intro m
    induction m with
    | nil => rfl
    | cons p r ih => rw [List.map_cons, List.sum_cons, ih]; simp; omega
  rw [h2]
  omega
theorem ends_snoc {a : Pss} {p : Int × Int} : ends (a ++ [p]) = if p.1 ≤ p.2 then ends a ++ [p.1] ++ [p.2 + 1] else ends a := by
  unfold ends
  rw [List.filter_append]
  by_cases h : p.1 ≤ p.2
  · rw [if_pos h, List.filter_cons_of_pos (by simp [full, h])]
    simp
  · rw [if_neg h, List.filter_cons_of_neg (by simp [full, h])]
    simp
theorem ind_if {a b : Int} : ind (a = b) = if b = a then 1 else 0 := by
  unfold ind
  by_cases h : a = b
  · rw [if_pos h, if_pos h.symm]
  · rw [if_neg h, if_neg fun z => h z.symm]
def addF (f : Int → Int) (a : Pss) : Int → Int := fun k => f k + stp (a.filter full) k
theorem addF_nil {f : Int → Int} : addF f [] = f := by funext k; show f k + 0 = f k; omega
theorem addF_full {f : Int → Int} {a : Pss} {p : Int × Int} (h : p.1 ≤ p.2) : upd (upd (addF f a) p.1 (addF f a p.1 + 1)) (p.2 + 1) (upd (addF f a) p.1 (addF f a p.1 + 1) (p.2 + 1) + -1) = addF f (a ++ [p]) := by
  funext j
  unfold addF
  rw [List.filter_append, List.filter_cons_of_pos (by simp [full, h]), List.filter_nil, stp_snoc, ind_if, ind_if]
  unfold upd
  by_cases h1 : j = p.2 + 1
  · subst h1
    have : ¬ p.2 + 1 = p.1 := by omega
    simp [this]
    omega
  · by_cases h2 : j = p.1
    · subst h2
      simp [h1]
      omega
    · simp [h1, h2]
theorem addF_empty {f : Int → Int} {a : Pss} {p : Int × Int} (h : ¬ p.1 ≤ p.2) : addF f (a ++ [p]) = addF f a := by
  funext j
  unfold addF
  rw [List.filter_append, List.filter_cons_of_neg (by simp [full, h])]
  simp
theorem addF_z {f : Int → Int} {L : List Int} {a : Pss} (hf : ∀ k, k ∉ L → f k = 0) : ∀ k, k ∉ L ++ ends a → addF f a k = 0 := fun k hk => by
  unfold addF
  rw [hf k fun z => hk (List.mem_append_left _ z), stp_out fun z => hk (List.mem_append_right _ z)]
  rfl
section
variable {hp : List O} {n : Nat} {o : O} {R : S → List O → Prop} {Xp : MX}
abbrev body : MS := mSeq (mAsg (mSetdG (mVar 0) (mVar 4) (mLstM (mCons (mC (.int 0)) (mCons (mC (.int 0)) mNil)))) (mgName 6))
    (mAsg (m2 fAdd (m2 fIx (mVar 6) (mVar 2)) (mVar 5)) (mgSubG (mVar 6) (mVar 2)))
theorem idx_at {l : List Int} {x : Int} (h : x ∈ l) : l[ix x l]? = some x := by
  induction l with
  | nil => cases h
  | cons a r ih =>
    by_cases e : a = x
    · subst e; rw [ix_s]; rfl
    · have e2 : ix x (a :: r) = ix x r + 1 := ix_n e
      rw [e2]
      refine ih ?_
      rcases List.mem_cons.mp h with z | z
      · exact absurd z.symm e
      · exact z
theorem row_set {L : List Int} {f g f' g' : Int → Int} {x : Int} (h : x ∈ uniq L) (hF : ∀ k, k ≠ x → f k = f' k ∧ g k = g' k) : (rgL L f g).set (1 + ix x (uniq L)) (rowG f' g' x) = .dct (dkn 1 (uniq L)) :: (uniq L).map (rowG f' g') := by
  unfold rgL
  rw [Nat.add_comm, List.set_cons_succ]
  congr 1
  exact map_idx (F := rowG f g) (G := rowG f' g') (fun k hk => by unfold rowG; rw [(hF k hk).1, (hF k hk).2]) (uniq_nodup L) h
theorem row_at {L : List Int} {f g : Int → Int} {x : Int} (h : x ∈ uniq L) : (rgL L f g)[1 + ix x (uniq L)]? = some (rowG f g x) := by
  unfold rgL
  rw [Nat.add_comm, List.getElem?_cons_succ, List.getElem?_map, idx_at h]
  rfl
theorem idx_new {l : List Int} {x : Int} (h : x ∉ l) : ix x (l ++ [x]) = l.length := by
  induction l with
  | nil => exact ix_s
  | cons a r ih =>
    have e : ¬ a = x := fun z => h (by simp [z])
    rw [List.cons_append, ix_n e, ih fun z => h (List.mem_cons_of_mem _ z), List.length_cons]
theorem setd {L : List Int} {f g : Int → Int} {x : Int} {r n0 : Nat} {env : List (Option S)} {Rr : S → List O → Prop} (hr : hp[r]? = some (.reg (rgL L f g))) (hL : L.length ≤ 5000) (hf : x ∉ L → f x = 0 ∧ g x = 0)
    (e0 : env[0]? = some (some (.ob r 0))) (e4 : env[4]? = some (some (.d (.int x))))
    (h : ∀ j, Rr (.ob r (1 + ix x (uniq (L ++ [x])))) (hp.set r (.reg (rgL (L ++ [x]) f g)) ++ [j])) :
    mSetdG (mVar 0) (mVar 4) (mLstM (mCons (mC (.int 0)) (mCons (mC (.int 0)) mNil))) ⟨hp, env, n0⟩ Rr Xp := by
  have hn : r < hp.length := (List.getElem?_eq_some_iff.mp hr).1
  have hu := uniq_len L
  have ev : hp[r]? = some (.reg (.dct (dkn 1 (uniq L)) :: (uniq L).map (rowG f g))) := hr
  have ev2 : ∀ l : List O, (hp ++ l)[r]? = some (.reg (.dct (dkn 1 (uniq L)) :: (uniq L).map (rowG f g))) := fun l => at_app hr l
  have ev0 : hp[r] = .reg (.dct (dkn 1 (uniq L)) :: (uniq L).map (rowG f g)) := (List.getElem?_eq_some_iff.mp hr).2
  have same : hp.set r (.reg (rgL L f g)) = hp := by
    obtain ⟨h1, h2⟩ := List.getElem?_eq_some_iff.mp hr
    rw [← h2]
    exact List.set_getElem_self h1
  by_cases c1 : x ∈ L
  · have c1' := mem_uniq.mpr c1
    have gx : getN (dkn 1 (uniq L)) (.inl x) = some (.nd (1 + ix x (uniq L))) := by rw [getN_dkn, if_pos c1']
    have eu : uniq (L ++ [x]) = uniq L := by rw [uniq_snoc, if_pos c1']
    have er : rgL (L ++ [x]) f g = rgL L f g := by unfold rgL; rw [eu]
    simp [e0, e4, hn, ev0, ev2, gx, dkn_len]
    refine ⟨by omega, ?_⟩
    have := h (O.lst [D.int 0, D.int 0])
    rw [er, same, eu] at this
    exact this
  · have c1' : x ∉ uniq L := fun z => c1 (mem_uniq.mp z)
    have gx : getN (dkn 1 (uniq L)) (.inl x) = none := by rw [getN_dkn, if_neg c1']
    have eu : uniq (L ++ [x]) = uniq L ++ [x] := by rw [uniq_snoc, if_neg c1']
    have ab : absorb (hp ++ [O.lst [D.int 0, D.int 0]]) r (.mu hp.length) = some (hp.set r (.reg (rgL L f g ++ [.lst [.d (.int 0), .d (.int 0)]])) ++ [.gone], .nd (1 + (uniq L).length)) := by
      rw [absorb_mu (gs := rgL L f g) (gs' := [.lst [.d (.int 0), .d (.int 0)]]) (by rw [ev2]; rfl) (by simp) (by omega)]
      congr 2
      · rw [List.set_append_left _ _ hn, List.set_append_right _ _ (by simp)]
        simp [shG, shN]
      · unfold rgL
        simp
        omega
    simp [e0, e4, hn, ev0, ev2, gx, dkn_len, ab]
    refine ⟨by omega, ?_⟩
    have := h .gone
    rw [eu, idx_new c1'] at this
    have fin : (rgL L f g ++ [Gn.lst [Nd.d (D.int 0), Nd.d (D.int 0)]]).set 0 (Gn.dct (setN (dkn 1 (uniq L)) (Sum.inl x) (Nd.nd (1 + (uniq L).length)))) = rgL (L ++ [x]) f g := by
      rw [setN_dkn c1']
      unfold rgL
      rw [eu]
      simp [rowG, (hf c1).1, (hf c1).2]
    have at2 : (hp.set r (.reg (rgL L f g ++ [.lst [.d (.int 0), .d (.int 0)]])) ++ [O.gone])[r]? = some (.reg (rgL L f g ++ [.lst [.d (.int 0), .d (.int 0)]])) := by
      rw [List.getElem?_append_left (by simpa using hn), List.getElem?_set_self hn]
    rw [at2, rgO_reg, putH_some, List.set_append_left _ _ (by simpa using hn), List.set_set, fin]
    exact this
theorem upd_z {L : List Int} {f : Int → Int} {x v : Int} (hf : ∀ k, k ∉ L → f k = 0) : ∀ k, k ∉ L ++ [x] → upd f x v k = 0 := fun k hk => by
  have h1 : k ≠ x := fun z => hk (by simp [z])
  unfold upd
  rw [if_neg h1]
  exact hf k fun z => hk (List.mem_append_left _ z)
theorem i20 : ixN 2 0 = some 0 := by
  rw [ixN_nat (by omega) (by omega)]
  rfl
theorem i21 : ixN 2 1 = some 1 := by
  rw [ixN_nat (by omega) (by omega)]
  rfl
theorem step0 {L : List Int} {f g : Int → Int} {x c : Int} {r n0 : Nat} {y1 y3 y6 : Option S} {nx bk ct : PS → Prop} {rt : S → List O → Prop} {ex : MX} (hr : hp[r]? = some (.reg (rgL L f g))) (hL : L.length ≤ 5000) (hf : x ∉ L → f x = 0 ∧ g x = 0)
    (h : ∀ j y6, nx ⟨hp.set r (.reg (rgL (L ++ [x]) (upd f x (f x + c)) g)) ++ [j], [some (.ob r 0), y1, some (.d (.int 0)), y3, some (.d (.int x)), some (.d (.int c)), y6], n0⟩) :
    body ⟨hp, [some (.ob r 0), y1, some (.d (.int 0)), y3, some (.d (.int x)), some (.d (.int c)), y6], n0⟩ ⟨nx, bk, ct, rt, ex⟩ := by
  have hn : r < hp.length := (List.getElem?_eq_some_iff.mp hr).1
  have hx : x ∈ uniq (L ++ [x]) := mem_uniq.mpr (by simp)
  unfold body
  simp [-x_dsetdG]
  refine setd hr hL hf rfl rfl fun j => ?_
  have ej : (hp.set r (.reg (rgL (L ++ [x]) f g)) ++ [j])[r]? = some (.reg (rgL (L ++ [x]) f g)) := by rw [List.getElem?_append_left (by simpa using hn), List.getElem?_set_self hn]
  have ev : val (hp.set r (.reg (rgL (L ++ [x]) f g)) ++ [j]) (.ob r (1 + ix x (uniq (L ++ [x])))) = some (.lst [.int (f x), .int (g x)]) := val_node ej (row_at hx)
  have eg : gnO (rgO (hp.set r (.reg (rgL (L ++ [x]) f g)) ++ [j])[r]?) (1 + ix x (uniq (L ++ [x]))) = some (rowG f g x) := by rw [ej]; exact row_at hx
  have fin := h j (some (.ob r (1 + ix x (uniq (L ++ [x])))))
  have es := row_set (f := f) (g := g) (f' := upd f x (f x + c)) (g' := g) hx (fun k hk => ⟨by unfold upd; rw [if_neg hk], rfl⟩)
  have eu : rowG (upd f x (f x + c)) g x = .lst [.d (.int (f x + c)), .d (.int (g x))] := by unfold rowG upd; rw [if_pos rfl]
  rw [eu] at es
  generalize ix x (uniq (L ++ [x])) = i at *
  simp [ev, eg, i20]
  rw [ej, rgO_reg, putH_some, List.set_append_left _ _ (by simpa using hn), List.set_set]
  rw [es]
  exact fin
theorem step1 {L : List Int} {f g : Int → Int} {x c : Int} {r n0 : Nat} {y1 y3 y6 : Option S} {nx bk ct : PS → Prop} {rt : S → List O → Prop} {ex : MX} (hr : hp[r]? = some (.reg (rgL L f g))) (hL : L.length ≤ 5000) (hf : x ∉ L → f x = 0 ∧ g x = 0)
    (h : ∀ j y6, nx ⟨hp.set r (.reg (rgL (L ++ [x]) f (upd g x (g x + c)))) ++ [j], [some (.ob r 0), y1, some (.d (.int 1)), y3, some (.d (.int x)), some (.d (.int c)), y6], n0⟩) :
    body ⟨hp, [some (.ob r 0), y1, some (.d (.int 1)), y3, some (.d (.int x)), some (.d (.int c)), y6], n0⟩ ⟨nx, bk, ct, rt, ex⟩ := by
  have hn : r < hp.length := (List.getElem?_eq_some_iff.mp hr).1
  have hx : x ∈ uniq (L ++ [x]) := mem_uniq.mpr (by simp)
  unfold body
  simp [-x_dsetdG]
  refine setd hr hL hf rfl rfl fun j => ?_
  have ej : (hp.set r (.reg (rgL (L ++ [x]) f g)) ++ [j])[r]? = some (.reg (rgL (L ++ [x]) f g)) := by rw [List.getElem?_append_left (by simpa using hn), List.getElem?_set_self hn]
  have ev : val (hp.set r (.reg (rgL (L ++ [x]) f g)) ++ [j]) (.ob r (1 + ix x (uniq (L ++ [x])))) = some (.lst [.int (f x), .int (g x)]) := val_node ej (row_at hx)
  have eg : gnO (rgO (hp.set r (.reg (rgL (L ++ [x]) f g)) ++ [j])[r]?) (1 + ix x (uniq (L ++ [x]))) = some (rowG f g x) := by rw [ej]; exact row_at hx
  have fin := h j (some (.ob r (1 + ix x (uniq (L ++ [x])))))
  have es := row_set (f := f) (g := g) (f' := f) (g' := upd g x (g x + c)) hx (fun k hk => ⟨rfl, by unfold upd; rw [if_neg hk]⟩)
  have eu : rowG f (upd g x (g x + c)) x = .lst [.d (.int (f x)), .d (.int (g x + c))] := by unfold rowG upd; rw [if_pos rfl]
  rw [eu] at es
  generalize ix x (uniq (L ++ [x])) = i at *
  simp [ev, eg, i21]
  rw [ej, rgO_reg, putH_some, List.set_append_left _ _ (by simpa using hn), List.set_set]
  rw [es]
  exact fin
theorem sp_mark0 {l : Pss} {L : List Int} {f g : Int → Int} {r : Nat} {tg : Tg (m__law_mark, R, Xp)} (hr : hp[r]? = some (.reg (rgL L f g))) (hL : L.length ≤ 1000) (hl : l.length ≤ 400) (hf : ∀ k, k ∉ L → f k = 0) (hg : ∀ k, k ∉ L → g k = 0)
    (h : R (.d .non) (hp.set r (.reg (rgL (L ++ ends l) (addF f l) g)))) : mfH m__law_mark hp [.ob r 0, .d (.lst (psD l)), .d (.int 0)] R Xp tg := by
  have hn : r < hp.length := (List.getElem?_eq_some_iff.mp hr).1
  have same : hp.set r (.reg (rgL L f g)) = hp := by
    obtain ⟨h1, h2⟩ := List.getElem?_eq_some_iff.mp hr
    rw [← h2]
    exact List.set_getElem_self h1
  refine mfH_of ?_
  unfold m__law_mark
  simp [-x_dsetdG]
  refine forH_of (fun ds hp' env' => ∃ a b ju, l = a ++ b ∧ ds = psD b ∧ hp' = hp.set r (.reg (rgL (L ++ ends a) (addF f a) g)) ++ ju ∧ ∃ y3 y4 y5 y6, env' = [some (.ob r 0), some (.d (.lst (psD l))), some (.d (.int 0)), y3, y4, y5, y6])
    ⟨[], l, [], rfl, rfl, by rw [addF_nil, show ends [] = [] from rfl, List.append_nil, List.append_nil, same], _, _, _, _, rfl⟩ ?_ ?_
  · rintro d ds _ _ N ⟨a, b, ju, el, er, rfl, y3, y4, y5, y6, rfl⟩ hN
    cases b with
    | nil => cases er
    | cons p b =>
      cases er
      have la : a.length ≤ 400 := by rw [el] at hl; simp at hl; omega
      have le := ends_len (l := a)
      by_cases c : p.1 ≤ p.2
      · simp [c, -x_dsetdG]
        refine forH_L ?_
        rw [x_forC]
        simp [-x_dsetdG, -x_forC, -x_seq]
        have zf := addF_z (a := a) hf
        have zg : ∀ k, k ∉ L ++ ends a → g k = 0 := fun k hk => hg k fun z => hk (List.mem_append_left _ z)
        refine step0 (hp := hp.set r (.reg (rgL (L ++ ends a) (addF f a) g)) ++ ju) (by rw [List.getElem?_append_left (by simpa using hn), List.getElem?_set_self hn]) (by simp; omega) (fun z => ⟨zf _ z, zg _ z⟩) fun j1 z1 => ?_
        rw [List.set_append_left _ _ (by simpa using hn), List.set_set]
        simp [-x_dsetdG, -x_seq, -List.append_assoc]
        refine step0 (hp := hp.set r (.reg (rgL (L ++ ends a ++ [p.1]) (upd (addF f a) p.1 (addF f a p.1 + 1)) g)) ++ ju ++ [j1]) (L := L ++ ends a ++ [p.1]) (by rw [List.append_assoc, List.getElem?_append_left (by simpa using hn), List.getElem?_set_self hn]) (by simp; omega) (fun z => ⟨upd_z zf _ z, zg _ fun y => z (List.mem_append_left _ y)⟩) fun j2 z2 => ?_
        rw [List.append_assoc _ ju [j1], List.set_append_left _ _ (by simpa using hn), List.set_set, addF_full c]
        simp
        refine hN _ _ trivial ⟨a ++ [p], b, ju ++ [j1, j2], by rw [el]; simp, rfl, by rw [ends_snoc, if_pos c]; simp, _, _, _, _, rfl⟩
      · simp [c, -x_dsetdG]
        refine hN _ _ trivial ⟨a ++ [p], b, ju, by rw [el]; simp, rfl, by rw [ends_snoc, if_neg c, addF_empty c], _, _, _, _, rfl⟩
  · rintro _ _ ⟨a, b, ju, el, er, rfl, y3, y4, y5, y6, rfl⟩
    have : b = [] := by cases b with | nil => rfl | cons _ _ => cases er
    subst this
    rw [List.append_nil] at el
    subst el
    simp
    exact h
theorem sp_mark1 {l : Pss} {L : List Int} {f g : Int → Int} {r : Nat} {tg : Tg (m__law_mark, R, Xp)} (hr : hp[r]? = some (.reg (rgL L f g))) (hL : L.length ≤ 1000) (hl : l.length ≤ 400) (hf : ∀ k, k ∉ L → f k = 0) (hg : ∀ k, k ∉ L → g k = 0)
    (h : R (.d .non) (hp.set r (.reg (rgL (L ++ ends l) f (addF g l))))) : mfH m__law_mark hp [.ob r 0, .d (.lst (psD l)), .d (.int 1)] R Xp tg := by
  have hn : r < hp.length := (List.getElem?_eq_some_iff.mp hr).1
  have same : hp.set r (.reg (rgL L f g)) = hp := by
    obtain ⟨h1, h2⟩ := List.getElem?_eq_some_iff.mp hr
    rw [← h2]
    exact List.set_getElem_self h1
  refine mfH_of ?_
  unfold m__law_mark
  simp [-x_dsetdG]
  refine forH_of (fun ds hp' env' => ∃ a b ju, l = a ++ b ∧ ds = psD b ∧ hp' = hp.set r (.reg (rgL (L ++ ends a) f (addF g a))) ++ ju ∧ ∃ y3 y4 y5 y6, env' = [some (.ob r 0), some (.d (.lst (psD l))), some (.d (.int 1)), y3, y4, y5, y6])
    ⟨[], l, [], rfl, rfl, by rw [addF_nil, show ends [] = [] from rfl, List.append_nil, List.append_nil, same], _, _, _, _, rfl⟩ ?_ ?_
  · rintro d ds _ _ N ⟨a, b, ju, el, er, rfl, y3, y4, y5, y6, rfl⟩ hN
    cases b with
    | nil => cases er
    | cons p b =>
      cases er
      have la : a.length ≤ 400 := by rw [el] at hl; simp at hl; omega
      have le := ends_len (l := a)
      by_cases c : p.1 ≤ p.2
      · simp [c, -x_dsetdG]
        refine forH_L ?_
        rw [x_forC]
        simp [-x_dsetdG, -x_forC, -x_seq]
        have zf : ∀ k, k ∉ L ++ ends a → f k = 0 := fun k hk => hf k fun z => hk (List.mem_append_left _ z)
        have zg := addF_z (a := a) hg
        refine step1 (hp := hp.set r (.reg (rgL (L ++ ends a) f (addF g a))) ++ ju) (by rw [List.getElem?_append_left (by simpa using hn), List.getElem?_set_self hn]) (by simp; omega) (fun z => ⟨zf _ z, zg _ z⟩) fun j1 z1 => ?_
        rw [List.set_append_left _ _ (by simpa using hn), List.set_set]
        simp [-x_dsetdG, -x_seq, -List.append_assoc]
        refine step1 (hp := hp.set r (.reg (rgL (L ++ ends a ++ [p.1]) f (upd (addF g a) p.1 (addF g a p.1 + 1)))) ++ ju ++ [j1]) (L := L ++ ends a ++ [p.1]) (by rw [List.append_assoc, List.getElem?_append_left (by simpa using hn), List.getElem?_set_self hn]) (by simp; omega) (fun z => ⟨zf _ fun y => z (List.mem_append_left _ y), upd_z zg _ z⟩) fun j2 z2 => ?_
        rw [List.append_assoc _ ju [j1], List.set_append_left _ _ (by simpa using hn), List.set_set, addF_full c]
        simp
        refine hN _ _ trivial ⟨a ++ [p], b, ju ++ [j1, j2], by rw [el]; simp, rfl, by rw [ends_snoc, if_pos c]; simp, _, _, _, _, rfl⟩
      · simp [c, -x_dsetdG]
        refine hN _ _ trivial ⟨a ++ [p], b, ju, by rw [el]; simp, rfl, by rw [ends_snoc, if_neg c, addF_empty c], _, _, _, _, rfl⟩
  · rintro _ _ ⟨a, b, ju, el, er, rfl, y3, y4, y5, y6, rfl⟩
    have : b = [] := by cases b with | nil => rfl | cons _ _ => cases er
    subst this
    rw [List.append_nil] at el
    subst el
    simp
    exact h
end
end Qk14
set_option Elab.async false
set_option linter.all false
set_option maxRecDepth 100000
set_option maxHeartbeats 1600000
namespace Qk14
open PySem PySem.Spec PyProof.Rows L2 Mp Pl Tb Rg Rn
abbrev rwD (r : Rw) : D := .tup [.int r.lo, .int r.hi, .bl r.one, .bl r.two]
abbrev rwsD (R : Rws) : List D := R.map rwD
theorem srt_uniq {L : List Int} : AscI (srtN L) := by
  have := srtN_lt L
  generalize srtN L = m at this
  induction m with
  | nil => trivial
  | cons a r ih =>
    obtain ⟨h1, h2⟩ := List.pairwise_cons.mp this
    exact ⟨h1, ih h2⟩
def fl_ (l : Pss) : Pss := l.filter full
def rowsOf (a b : Pss) : Rws := stre (stp (fl_ a)) (stp (fl_ b)) 0 0 (srtN (ends a ++ ends b))
theorem addF0 {a : Pss} : addF (fun _ => 0) a = stp (fl_ a) := by
  funext k
  show 0 + stp (a.filter full) k = stp (a.filter full) k
  omega
theorem drop_two {S : List Int} {i : Nat} (h : i + 1 < S.length) : ∃ k k' r, S.drop i = k :: k' :: r ∧ S.drop (i + 1) = k' :: r ∧ S[i]? = some k ∧ S[i + 1]? = some k' := by
  have h0 : i < S.length := by omega
  refine ⟨S[i], S[i + 1], S.drop (i + 2), ?_, ?_, List.getElem?_eq_getElem h0, List.getElem?_eq_getElem h⟩
  · rw [List.drop_eq_getElem_cons h0, List.drop_eq_getElem_cons h]
  · rw [List.drop_eq_getElem_cons h]
theorem stre_short {f g : Int → Int} {x y : Int} : ∀ {l : List Int}, l.length ≤ 1 → stre f g x y l = []
  | [], _ => rfl
  | [_], _ => rfl
  | _ :: _ :: _, h => by simp at h
section
variable {hp : List O} {n : Nat} {o : O} {R : S → List O → Prop} {Xp : MX}
theorem sp_stretches {a b : Pss} {tg : Tg (m__law_stretches, R, Xp)} (ha : a.length ≤ 400) (hb : b.length ≤ 400) (h : R (.d (.lst (rwsD (rowsOf a b)))) hp) : mfH m__law_stretches hp [.d (.lst (psD a)), .d (.lst (psD b))] R Xp tg := by
  have la := ends_len (l := a)
  have lb := ends_len (l := b)
  refine mfH_of ?_
  unfold m__law_stretches
  simp [-x_seq]
  rw [x_seq]
  simp [-x_seq]
  rw [x_seq]
  simp [-x_seq]
  refine sp_mark0 (L := []) (f := fun _ => 0) (g := fun _ => 0) (r := hp.length) (by simp; rfl) (by simp) ha (fun _ _ => rfl) (fun _ _ => rfl) ?_
  simp [-x_seq]
  rw [x_seq]
  simp [-x_seq]
  refine sp_mark1 (L := ends a) (f := addF (fun _ => 0) a) (g := fun _ => 0) (r := hp.length) (by simp) (by omega) hb (fun k hk => addF_z (L := []) (fun _ _ => rfl) k (by simpa using hk)) (fun _ _ => rfl) ?_
  rw [addF0, addF0]
  have lu := uniq_len (ends a ++ ends b)
  simp only [List.length_append] at lu
  have hL : ends a ++ ends b = ends a ++ ends b := rfl
  unfold rowsOf at h
  generalize ends a ++ ends b = L at h lu ⊢
  generalize stp (fl_ a) = f at h ⊢
  generalize stp (fl_ b) = g at h ⊢
  have er : ∀ l : List O, (hp ++ O.reg (rgL L f g) :: l)[hp.length]? = some (.reg (rgL L f g)) := fun l => by simp
  simp [-x_seq, -xfSort]
  have ed : dctG (rgL L f g)[0]? = some (dkn 1 (uniq L)) := rfl
  rw [x_seq]
  simp [-x_seq, -xfSort, ed]
  rw [dkn_keys, xfSort]
  refine ⟨alike_map apt_int (uniq L), sortable_map apt_int (uniq L), by simp [iL]; omega, fun x hx => ?_, ?_⟩
  · obtain ⟨k, _, rfl⟩ := List.mem_map.mp hx
    exact shD_int
  rw [sortD_ints]
  have hk : ∀ x ∈ srtN L, x ∈ uniq L := fun x hx => mem_uniq.mpr (mem_srtN.mp hx)
  have hlen : (srtN L).length ≤ 1600 := by unfold srtN; rw [List.length_mergeSort]; omega
  generalize srtN L = ks at hk h hlen ⊢
  rw [x_seq]
  simp [-x_seq]
  rw [x_seq]
  simp [-x_seq]
  rw [x_seq]
  have q1 : ks.length < 16777216 := by omega
  simp [-x_seq]
  refine ⟨by omega, by omega, ?_⟩
  refine forH_rng (fun i hp' env' => ∃ (x y : Int) (rs : Rws) (y6 : Option S), rs.length = i ∧ rs ++ stre f g x y (ks.drop i) = stre f g 0 0 ks ∧ hp' = hp ++ [.reg (rgL L f g), .lst (rwsD rs)] ∧
    env' = [some (.d (.lst (psD a))), some (.d (.lst (psD b))), some (.ob hp.length 0), some (.d (.lst (iL ks))), some (.d (.lst [.int x, .int y])), some (.mu (hp.length + 1)), y6]) ⟨0, 0, [], none, rfl, by simp, rfl, rfl⟩ ?_ ?_
  · rintro i _ _ N him ⟨x, y, rs, y6, hl, hrs, rfl, rfl⟩ hN
    have hi : i + 1 < ks.length := by omega
    obtain ⟨k, k', r, e1, e2, e3, e4⟩ := drop_two hi
    have a1 : atI ks (i : Int) = some k := by
      rw [atI_nat (by omega) (by omega)]
      rw [← e3]
      simp
    have a2 : atI ks ((i : Int) + 1) = some k' := by
      rw [show (i : Int) + 1 = ((i + 1 : Nat) : Int) by omega, atI_nat (by omega) (by omega)]
      rw [← e4]
      simp
    have ku := hk k (List.mem_of_getElem? e3)
    have gk : getN (dkn 1 (uniq L)) (.inl k) = some (.nd (1 + ix k (uniq L))) := by rw [getN_dkn, if_pos ku]
    have gv : ∀ l : List O, val (hp ++ O.reg (rgL L f g) :: l) (.ob hp.length (1 + ix k (uniq L))) = some (.lst [.int (f k), .int (g k)]) := fun l => val_node (er l) (row_at ku)
    generalize ix k (uniq L) = j at gk gv
    simp [a1, a2, ed, gk, gv]
    refine ⟨by omega, hN _ _ ⟨x + f k, y + g k, rs ++ [⟨k, k' - 1, decide (0 < x + f k), decide (0 < y + g k)⟩], _, by simp [hl], ?_, by simp, rfl⟩⟩
    rw [← hrs, e1, e2, List.append_assoc]
    rfl
  · rintro _ _ ⟨x, y, rs, y6, hl, hrs, rfl, rfl⟩
    have e : stre f g x y (ks.drop (ks.length - 1)) = [] := stre_short (by simp; omega)
    rw [e, List.append_nil] at hrs
    subst hrs
    simp
    refine retN (by omega) (by rw [List.getElem?_append_right (by omega)]; simp; rfl) ?_
    rw [List.take_left' rfl]
    exact h
@[simp] theorem q_one_any : ((("one" : Str)) == ("any" : Str)) = false := by decide
@[simp] theorem q_one_less : ((("one" : Str)) == ("less" : Str)) = false := by decide
@[simp] theorem q_one_one : ((("one" : Str)) == ("one" : Str)) = true := by decide
@[simp] theorem q_one_two : ((("one" : Str)) == ("two" : Str)) = false := by decide
@[simp] theorem q_two_any : ((("two" : Str)) == ("any" : Str)) = false := by decide
@[simp] theorem q_two_less : ((("two" : Str)) == ("less" : Str)) = false := by decide
@[simp] theorem q_two_one : ((("two" : Str)) == ("one" : Str)) = false := by decide
@[simp] theorem q_two_two : ((("two" : Str)) == ("two" : Str)) = true := by decide
@[simp] theorem q_both_any : ((("both" : Str)) == ("any" : Str)) = false := by decide
@[simp] theorem q_both_less : ((("both" : Str)) == ("less" : Str)) = false := by decide
@[simp] theorem q_both_one : ((("both" : Str)) == ("one" : Str)) = false := by decide
@[simp] theorem q_both_two : ((("both" : Str)) == ("two" : Str)) = false := by decide
@[simp] theorem q_any_any : ((("any" : Str)) == ("any" : Str)) = true := by decide
@[simp] theorem q_any_less : ((("any" : Str)) == ("less" : Str)) = false := by decide
@[simp] theorem q_any_one : ((("any" : Str)) == ("one" : Str)) = false := by decide
@[simp] theorem q_any_two : ((("any" : Str)) == ("two" : Str)) = false := by decide
@[simp] theorem q_less_any : ((("less" : Str)) == ("any" : Str)) = false := by decide
@[simp] theorem q_less_less : ((("less" : Str)) == ("less" : Str)) = true := by decide
@[simp] theorem q_less_one : ((("less" : Str)) == ("one" : Str)) = false := by decide
@[simp] theorem q_less_two : ((("less" : Str)) == ("two" : Str)) = false := by decide
abbrev tailS : MS := mIfS (mAnd (mTest (mVar 7)) (mAnd (mTest (m2 (fI0 fun i j => .bl (decide (j < i))) (mN fLen (mCons (mVar 2) mNil)) (mC (.int 0)))) (mTest (m2 fEq (m2 fAdd (m2 fIx (m2 fIx (mVar 2) (m1 (fU fun i => .int (-i)) (mC (.int 1)))) (mC (.int 1))) (mC (.int 1))) (mVar 3))))) (mAsg (mTup (mCons (m2 fIx (m2 fIx (mVar 2) (m1 (fU fun i => .int (-i)) (mC (.int 1)))) (mC (.int 0))) (mCons (mVar 4) mNil))) (mgSub (mVar 2) (m1 (fU fun i => .int (-i)) (mC (.int 1))))) (mIfS (mTest (mVar 7)) (mDrop (mMeth false fAppend (mVar 2) (mCons (mTup (mCons (mVar 3) (mCons (mVar 4) mNil))) mNil))) mNext)
theorem tail_ {acc : Pss} {v one two : Bool} {lo hi : Int} {y0 y1 y5 y6 : Option S} {n0 : Nat} {nx bk ct : PS → Prop} {rt : S → List O → Prop} {ex : MX} (la : acc.length ≤ 10000)
    (h : nx ⟨hp ++ [.lst (psD (ch1 (fun _ => v) acc ⟨lo, hi, one, two⟩).reverse)], [y0, y1, some (.mu hp.length), some (.d (.int lo)), some (.d (.int hi)), y5, y6, some (.d (.bl v))], n0⟩) :
    tailS ⟨hp ++ [.lst (psD acc.reverse)], [y0, y1, some (.mu hp.length), some (.d (.int lo)), some (.d (.int hi)), y5, y6, some (.d (.bl v))], n0⟩ ⟨nx, bk, ct, rt, ex⟩ := by
  unfold tailS
  cases v with
  | false =>
    simp
    simpa [ch1] using h
  | true =>
    cases acc with
    | nil =>
      simp
      simpa [ch1] using h
    | cons q acc =>
      have hps : psD (q :: acc).reverse = psD acc.reverse ++ [pD q] := by simp
      have nx1 : q.2 + 1 = lo → nx ⟨hp ++ [.lst (psD acc.reverse ++ [pD (q.1, hi)])], [y0, y1, some (.mu hp.length), some (.d (.int lo)), some (.d (.int hi)), y5, y6, some (.d (.bl true))], n0⟩ := fun c => by
        rw [show ch1 (fun _ => true) (q :: acc) ⟨lo, hi, one, two⟩ = (q.1, hi) :: acc by unfold ch1; simp [c]] at h
        simpa using h
      have nx2 : ¬ q.2 + 1 = lo → nx ⟨hp ++ [.lst (psD acc.reverse ++ [pD q] ++ [pD (lo, hi)])], [y0, y1, some (.mu hp.length), some (.d (.int lo)), some (.d (.int hi)), y5, y6, some (.d (.bl true))], n0⟩ := fun c => by
        rw [show ch1 (fun _ => true) (q :: acc) ⟨lo, hi, one, two⟩ = (lo, hi) :: q :: acc by unfold ch1; simp [c]] at h
        simpa using h
      rw [hps]
      have lL : (psD acc.reverse).length ≤ 10000 := by simp at la ⊢; omega
      clear hps h
      generalize psD acc.reverse = L at nx1 nx2 lL ⊢
      have e1 : atI (L ++ [pD q]) (-1) = some (pD q) := at_last
      have e3 : ixN (L.length + 1) (-1) = some L.length := by
        unfold ixN
        simp
        omega
      by_cases c : q.2 + 1 = lo
      · have := nx1 c
        simp [e1, e3, c]
        simpa using this
      · have := nx2 c
        simp [e1, e3, c]
        refine ⟨by omega, ?_⟩
        simpa using this
theorem sp_chosen {Rs : Rws} {w : Rw → Bool} {d : Str} {tg : Tg (m__law_chosen, R, Xp)} (hd : (d = "one" ∧ w = fun r => r.one) ∨ (d = "two" ∧ w = fun r => r.two) ∨ (d = "both" ∧ w = fun r => r.one && r.two) ∨ (d = "any" ∧ w = fun r => r.one || r.two) ∨ (d = "less" ∧ w = fun r => r.one && !r.two))
    (hl : Rs.length ≤ 4000) (h : R (.d (.tup (psD (chL w Rs)))) hp) : mfH m__law_chosen hp [.d (.lst (rwsD Rs)), .d (.str d)] R Xp tg := by
  refine mfH_of ?_
  unfold m__law_chosen
  simp [-x_seq]
  rw [x_seq]
  simp [-x_seq]
  refine seq_cut (fun hp' env' => hp' = hp ++ [.lst (psD (chL w Rs))] ∧ ∃ y1 y3 y4 y5 y6 y7, env' = [y1, some (.d (.str d)), some (.mu hp.length), y3, y4, y5, y6, y7]) (fun N hN => ?_) ?_
  · simp [-x_seq]
    refine forH_of (fun ds hp' env' => ∃ (a b : Rws) (y3 y4 y5 y6 y7 : Option S), Rs = a ++ b ∧ ds = rwsD b ∧ hp' = hp ++ [.lst (psD (a.foldl (ch1 w) []).reverse)] ∧ env' = [some (.d (.lst (rwsD Rs))), some (.d (.str d)), some (.mu hp.length), y3, y4, y5, y6, y7]) ⟨[], Rs, none, none, none, none, none, rfl, rfl, rfl, rfl⟩ ?_ ?_
    · rintro dd ds _ _ N2 ⟨a, b, y3, y4, y5, y6, y7, el, er, rfl, rfl⟩ hN2
      cases b with
      | nil => cases er
      | cons r b =>
        cases er
        have lacc : (a.foldl (ch1 w) []).length ≤ a.length := by
          have key : ∀ (l : Rws) (acc : Pss), (l.foldl (ch1 w) acc).length ≤ acc.length + l.length := by
            intro l
            induction l with
            | nil => intro acc; simp
            | cons q l ih =>
              intro acc
              rw [List.foldl_cons]
              have h1 := ih (ch1 w acc q)
              have h2 := ch1_len (w := w) (acc := acc) (r := q)
              simp only [List.length_cons]
              omega
          simpa using key a []
        have lr : a.length ≤ 4000 := by rw [el] at hl; simp at hl; omega
        have nx : ∀ y3 y4 y5 y6 y7, N2 ⟨hp ++ [.lst (psD (ch1 w (a.foldl (ch1 w) []) r).reverse)], [some (.d (.lst (rwsD Rs))), some (.d (.str d)), some (.mu hp.length), y3, y4, y5, y6, y7], hp.length⟩ := fun y3 y4 y5 y6 y7 =>
          hN2 _ _ trivial ⟨a ++ [r], b, y3, y4, y5, y6, y7, by rw [el]; simp, rfl, by rw [List.foldl_append]; rfl, rfl⟩
        generalize a.foldl (ch1 w) [] = acc at lacc nx ⊢
        obtain ⟨lo, hi, one, two⟩ := r
        have la : acc.length ≤ 10000 := by omega
        rcases hd with ⟨rfl, rfl⟩ | ⟨rfl, rfl⟩ | ⟨rfl, rfl⟩ | ⟨rfl, rfl⟩ | ⟨rfl, rfl⟩
        all_goals
          cases one
          all_goals
            cases two
            all_goals
              simp [-x_seq]
              rw [x_seq]
              simp [-x_seq]
              rw [x_seq]
              simp [-x_seq]
              rw [x_seq]
              simp [-x_seq]
              rw [x_seq]
              simp [-x_seq]
              rw [x_seq]
              rw [x_ifS]
              simp [-x_seq, -x_ifS]
              rw [← List.map_reverse]
              refine tail_ (one := true) (two := true) la ?_
              exact nx _ _ _ _ _
    · rintro _ _ ⟨a, b, y3, y4, y5, y6, y7, el, er, rfl, rfl⟩
      have : b = [] := by cases b with | nil => rfl | cons _ _ => cases er
      subst this
      rw [List.append_nil] at el
      subst el
      exact hN _ _ ⟨rfl, _, _, _, _, _, _, rfl⟩
  rintro _ _ ⟨rfl, y1, y3, y4, y5, y6, y7, rfl⟩
  simp
  exact h
end
end Qk14
set_option Elab.async false
set_option linter.all false
set_option maxRecDepth 100000
set_option maxHeartbeats 2000000
namespace Pl
open PySem PySem.Spec PyProof.Rows L2 Mp
def plN : Nat → D → Bool
  | 0, _ => false
  | _ + 1, .int _ => true
  | _ + 1, .bl _ => true
  | _ + 1, .str x => shD (.str x)
  | _ + 1, .non => true
  | k + 1, .tup ds => decide (ds.length ≤ 1000000) && ds.all (plN k)
  | k + 1, .lst ds => decide (ds.length ≤ 1000000) && ds.all (plN k)
  | _ + 1, .fl _ => false
  | _ + 1, .ty _ => false
  | _ + 1, .obj _ _ _ => false
def eqS : Nat → D → D → Bool
  | 0, _, _ => false
  | _ + 1, .int a, .int b => decide (a = b)
  | _ + 1, .bl a, .bl b => a == b
  | _ + 1, .str a, .str b => a == b
  | _ + 1, .non, .non => true
  | k + 1, .tup xs, .tup ys => decide (xs.length = ys.length) && (xs.zip ys).all fun p => eqS k p.1 p.2
  | k + 1, .lst xs, .lst ys => decide (xs.length = ys.length) && (xs.zip ys).all fun p => eqS k p.1 p.2
  | _ + 1, _, _ => false
theorem zip_all {k : Nat} : ∀ {xs ys : List D}, xs.length = ys.length → ((xs.zip ys).all fun p => eqS k p.1 p.2) = decide (∀ i (h1 : i < xs.length) (h2 : i < ys.length), eqS k xs[i] ys[i] = true)
  | [], [], _ => by simp
  | [], _ :: _, h => by cases h
  | _ :: _, [], h => by cases h
  | x :: xs, y :: ys, h => by
    rw [List.zip_cons_cons, List.all_cons, zip_all (Nat.succ.inj h)]
    by_cases c : eqS k x y = true
    · rw [c, Bool.true_and]
      apply decide_eq_decide.mpr
      constructor
      · intro z i h1 h2
        cases i with
        | zero => exact c
        | succ i => exact z i (by simpa using h1) (by simpa using h2)
      · intro z i h1 h2
        exact z (i + 1) (by simpa using h1) (by simpa using h2)
    · rw [Bool.eq_false_iff.mpr c, Bool.false_and]
      symm
      exact decide_eq_false fun z => c (z 0 (by simp) (by simp))
theorem eqS_eq : ∀ {k : Nat} {d e : D}, eqS k d e = true → d = e
  | 0, _, _, h => by cases h
  | k + 1, d, e, h => by
    have many : ∀ {xs ys : List D}, (decide (xs.length = ys.length) && (xs.zip ys).all fun p => eqS k p.1 p.2) = true → xs = ys := fun {xs ys} h => by
      obtain ⟨a, b⟩ := He.ba h
      have hl : xs.length = ys.length := of_decide_eq_true a
      rw [zip_all hl] at b
      have b' := of_decide_eq_true b
      exact List.ext_getElem hl fun i h1 h2 => eqS_eq (b' i h1 h2)
    cases d <;> cases e <;> first
      | rfl
      | (cases h; done)
      | exact congrArg _ (of_decide_eq_true h)
      | exact congrArg _ (eq_of_beq h)
      | exact congrArg _ (many h)
theorem eqS_refl : ∀ {k : Nat} {d : D}, plN k d = true → eqS k d d = true
  | 0, _, h => by cases h
  | k + 1, d, h => by
    have many : ∀ {xs : List D}, (decide (xs.length ≤ 1000000) && xs.all (plN k)) = true → (decide (xs.length = xs.length) && (xs.zip xs).all fun p => eqS k p.1 p.2) = true := fun {xs} h => by
      obtain ⟨a, b⟩ := He.ba h
      rw [zip_all rfl, decide_eq_true rfl, Bool.true_and]
      exact decide_eq_true fun i h1 h2 => eqS_refl (List.all_eq_true.mp b _ (List.getElem_mem _))
    cases d with
    | int => exact decide_eq_true rfl
    | bl b => exact beq_self_eq_true b
    | str s => exact beq_self_eq_true s
    | non => rfl
    | tup xs => exact many h
    | lst xs => exact many h
    | fl xs => cases h
    | ty xs => cases h
    | obj => cases h
theorem eqS_dec {k : Nat} {d e : D} (h : plN k d = true) (hn : d ≠ e) : eqS k d e = false := Bool.eq_false_iff.mpr fun z => hn (eqS_eq z)
theorem sp_equal : ∀ (k : Nat) (d e : D), plN k d = true → plN k e = true → ∀ {hp : List O} {s t : S} {R : S → List O → Prop} {Xp : MX} {tg : Tg (m__law_equal k, R, Xp)}, val hp s = some d → val hp t = some e → R (.d (.bl (eqS k d e))) hp → mfH (m__law_equal k) hp [s, t] R Xp tg
  | 0, _, _, z, _, _, _, _, _, _, _, _, _, _ => by cases z
  | k + 1, d, e, z, w, hp, s, t, R, Xp, tg, hv, hw, h => by
    refine mfH_of ?_
    show b__law_equal (m__law_equal k) hp _ R Xp
    unfold b__law_equal
    cases d with
    | ty => cases z
    | fl => cases z
    | obj => cases z
    | int i =>
      rw [val_eq hv (fun _ => by simp)]
      cases e with
      | ty => cases w
      | fl => cases w
      | obj => cases w
      | lst g => simp [hw, Mp.isNon]; exact h
      | _ =>
        rw [val_eq hw (fun _ => by simp)]
        simp [Mp.isNon]
        first | exact h | exact ⟨z, h⟩ | exact ⟨z, w, h⟩ | trace_state
    | bl i =>
      rw [val_eq hv (fun _ => by simp)]
      cases e with
      | ty => cases w
      | fl => cases w
      | obj => cases w
      | lst g => simp [hw, Mp.isNon]; exact h
      | _ =>
        rw [val_eq hw (fun _ => by simp)]
        simp [Mp.isNon]
        first | exact h | exact ⟨z, h⟩ | exact ⟨z, w, h⟩ | trace_state
    | str i =>
      rw [val_eq hv (fun _ => by simp)]
      cases e with
      | ty => cases w
      | fl => cases w
      | obj => cases w
      | lst g => simp [hw, Mp.isNon]; exact h
      | _ =>
        rw [val_eq hw (fun _ => by simp)]
        simp [Mp.isNon]
        first | exact h | exact ⟨z, h⟩ | exact ⟨z, w, h⟩ | trace_state
    | non =>
      rw [val_eq hv (fun _ => by simp)]
      cases e with
      | ty => cases w
      | fl => cases w
      | obj => cases w
      | lst g => simp [hw, Mp.isNon]; exact h
      | _ =>
        rw [val_eq hw (fun _ => by simp)]
        simp [Mp.isNon]
        first | exact h | exact ⟨z, h⟩ | exact ⟨z, w, h⟩ | trace_state
    | tup g =>
      obtain ⟨z1, z2⟩ := He.ba (show (decide (g.length ≤ 1000000) && g.all (plN k)) = true from z)
      have hl : g.length ≤ 1000000 := of_decide_eq_true z1
      have hr1 : (-4611686018427387904 : Int) ≤ g.length := by omega
      have hr2 : (g.length : Int) < 4611686018427387904 := by omega
      cases e with
      | ty => cases w
      | fl => cases w
      | obj => cases w
      | tup g' =>
        obtain ⟨w1, w2⟩ := He.ba (show (decide (g'.length ≤ 1000000) && g'.all (plN k)) = true from w)
        by_cases hg : g.length = g'.length
        · have hgi : ((g.length : Int) = (g'.length : Int)) := by omega
          have eh : eqS (k + 1) (.tup g) (.tup g') = decide (∀ i (h1 : i < g.length) (h2 : i < g'.length), eqS k g[i] g'[i] = true) := by
            show (decide (g.length = g'.length) && (g.zip g').all fun p => eqS k p.1 p.2) = _
            rw [decide_eq_true hg, Bool.true_and, zip_all hg]
          simp [hv, hw, hr1, hr2, hg] at hr1 hr2 ⊢
          refine ⟨by omega, ?_⟩
          refine forH_rng (fun i hp' env' => (∀ j (h1 : j < g.length) (h2 : j < g'.length), j < i → eqS k g[j] g'[j] = true) ∧ hp = hp' ∧ ∃ y, env' = [some s, some t, y]) ⟨fun j _ _ z => by omega, rfl, _, rfl⟩ ?_ ?_
          · rintro i _ _ N hi ⟨hj, rfl, y, rfl⟩ hN
            have a1 : atI g (i : Int) = some g[i] := by rw [atI_nat (by omega) (by omega)]; simp
            have a2 : atI g' (i : Int) = some g'[i] := by rw [atI_nat (by omega) (by omega)]; simp
            simp [hv, hw, a1, a2]
            refine sp_equal k g[i] g'[i] (List.all_eq_true.mp z2 _ (List.getElem_mem _)) (List.all_eq_true.mp w2 _ (List.getElem_mem _)) rfl rfl ?_
            cases c : eqS k g[i] g'[i] with
            | true =>
              simp
              refine hN _ _ ⟨fun j h1 h2 h3 => ?_, rfl, _, rfl⟩
              by_cases e : j = i
              · subst e; exact c
              · exact hj j h1 h2 (by omega)
            | false =>
              have hf : eqS (k + 1) (.tup g) (.tup g') = false := by
                rw [eh]
                exact decide_eq_false fun q => by rw [q i (by omega) (by omega)] at c; cases c
              rw [hf] at h
              simp
              exact h
          · rintro _ _ ⟨hj, rfl, y, rfl⟩
            have hf : eqS (k + 1) (.tup g) (.tup g') = true := by
              rw [eh]
              exact decide_eq_true fun i h1 h2 => hj i h1 h2 (by omega)
            rw [hf] at h
            simpa using h
        · have hgi : ¬ ((g.length : Int) = (g'.length : Int)) := by omega
          have eh : eqS (k + 1) (.tup g) (.tup g') = false := by
            show (decide (g.length = g'.length) && (g.zip g').all fun p => eqS k p.1 p.2) = _
            rw [decide_eq_false hg, Bool.false_and]
          rw [eh] at h
          simp [hv, hw, hgi]
          exact h
      | lst g' =>
        simp [hv, hw]
        exact h
      | _ =>
        rw [val_eq hw (fun _ => by simp)]
        simp [hv]
        exact h
    | lst g =>
      obtain ⟨z1, z2⟩ := He.ba (show (decide (g.length ≤ 1000000) && g.all (plN k)) = true from z)
      have hl : g.length ≤ 1000000 := of_decide_eq_true z1
      have hr1 : (-4611686018427387904 : Int) ≤ g.length := by omega
      have hr2 : (g.length : Int) < 4611686018427387904 := by omega
      cases e with
      | ty => cases w
      | fl => cases w
      | obj => cases w
      | lst g' =>
        obtain ⟨w1, w2⟩ := He.ba (show (decide (g'.length ≤ 1000000) && g'.all (plN k)) = true from w)
        by_cases hg : g.length = g'.length
        · have hgi : ((g.length : Int) = (g'.length : Int)) := by omega
          have eh : eqS (k + 1) (.lst g) (.lst g') = decide (∀ i (h1 : i < g.length) (h2 : i < g'.length), eqS k g[i] g'[i] = true) := by
            show (decide (g.length = g'.length) && (g.zip g').all fun p => eqS k p.1 p.2) = _
            rw [decide_eq_true hg, Bool.true_and, zip_all hg]
          simp [hv, hw, hr1, hr2, hg] at hr1 hr2 ⊢
          refine ⟨by omega, ?_⟩
          refine forH_rng (fun i hp' env' => (∀ j (h1 : j < g.length) (h2 : j < g'.length), j < i → eqS k g[j] g'[j] = true) ∧ hp = hp' ∧ ∃ y, env' = [some s, some t, y]) ⟨fun j _ _ z => by omega, rfl, _, rfl⟩ ?_ ?_
          · rintro i _ _ N hi ⟨hj, rfl, y, rfl⟩ hN
            have a1 : atI g (i : Int) = some g[i] := by rw [atI_nat (by omega) (by omega)]; simp
            have a2 : atI g' (i : Int) = some g'[i] := by rw [atI_nat (by omega) (by omega)]; simp
            simp [hv, hw, a1, a2]
            refine sp_equal k g[i] g'[i] (List.all_eq_true.mp z2 _ (List.getElem_mem _)) (List.all_eq_true.mp w2 _ (List.getElem_mem _)) rfl rfl ?_
            cases c : eqS k g[i] g'[i] with
            | true =>
              simp
              refine hN _ _ ⟨fun j h1 h2 h3 => ?_, rfl, _, rfl⟩
              by_cases e : j = i
              · subst e; exact c
              · exact hj j h1 h2 (by omega)
            | false =>
              have hf : eqS (k + 1) (.lst g) (.lst g') = false := by
                rw [eh]
                exact decide_eq_false fun q => by rw [q i (by omega) (by omega)] at c; cases c
              rw [hf] at h
              simp
              exact h
          · rintro _ _ ⟨hj, rfl, y, rfl⟩
            have hf : eqS (k + 1) (.lst g) (.lst g') = true := by
              rw [eh]
              exact decide_eq_true fun i h1 h2 => hj i h1 h2 (by omega)
            rw [hf] at h
            simpa using h
        · have hgi : ¬ ((g.length : Int) = (g'.length : Int)) := by omega
          have eh : eqS (k + 1) (.lst g) (.lst g') = false := by
            show (decide (g.length = g'.length) && (g.zip g').all fun p => eqS k p.1 p.2) = _
            rw [decide_eq_false hg, Bool.false_and]
          rw [eh] at h
          simp [hv, hw, hgi]
          exact h
      | tup g' =>
        simp [hv, hw]
        exact h
      | _ =>
        rw [val_eq hw (fun _ => by simp)]
        simp [hv]
        exact h
end Pl
set_option Elab.async false
set_option linter.all false
set_option maxRecDepth 100000
set_option maxHeartbeats 1600000
namespace Qk14
open PySem PySem.Spec PyProof.Rows L2 Mp Pl Tb Rg Rn
theorem pl_tup {l : Pss} (h : l.length ≤ 10000) : plD 4 (.tup (psD l)) = true := by
  simp [plD]
  omega
theorem pl_lst {l : Pss} (h : l.length ≤ 10000) : plD 4 (.lst (psD l)) = true := by
  simp [plD]
  omega
structure Sit (x y : Pss) (Rs : Rws) : Prop where
  nx : Nrm x
  ny : Nrm y
  lx : x.length ≤ 400
  ly : y.length ≤ 400
  c : Cnt Rs
  t : Tells x y Rs
  l : Rs.length ≤ 1700
section
variable {x y : Pss} {Rs : Rws} (s : Sit x y Rs)
include s
theorem Sit.one : chL (fun r => r.one) Rs = x := nrm_uniq (chL_ok s.c).1 s.nx (ch_one s.c s.t)
theorem Sit.two : chL (fun r => r.two) Rs = y := nrm_uniq (chL_ok s.c).1 s.ny (ch_two s.c s.t)
theorem Sit.both {r : Pss} (n : Nrm r) (h : ∀ z, Mem r z ↔ Mem x z ∧ Mem y z) : chL (fun r => r.one && r.two) Rs = r := nrm_uniq (chL_ok s.c).1 n fun z => by rw [ch_both s.c s.t, h]
theorem Sit.any {r : Pss} (n : Nrm r) (h : ∀ z, Mem r z ↔ Mem x z ∨ Mem y z) : chL (fun r => r.one || r.two) Rs = r := nrm_uniq (chL_ok s.c).1 n fun z => by rw [ch_any s.c s.t, h]
theorem Sit.less {r : Pss} (n : Nrm r) (h : ∀ z, Mem r z ↔ Mem x z ∧ ¬ Mem y z) : chL (fun r => r.one && !r.two) Rs = r := nrm_uniq (chL_ok s.c).1 n fun z => by rw [ch_less s.c s.t, h]
theorem Sit.turn : Sit y x (turn Rs) := ⟨s.ny, s.nx, s.ly, s.lx, turn_cnt s.c, turn_tells s.t, by unfold Rg.turn; rw [List.length_map]; exact s.l⟩
omit s in
theorem ch_len {w : Rw → Bool} (c : Cnt Rs) (l : Rs.length ≤ 1700) : (chL w Rs).length ≤ 1700 := Nat.le_trans (chL_ok c).2.2 l
end
section
variable {hp : List O} {n : Nat} {o : O} {R : S → List O → Prop} {Xp : MX}
theorem sp_is_right {l : Pss} {ks : List Int} {s : S} {tg : Tg (m__law_is_right, R, Xp)} (hv : val hp s = some (.lst (iL ks))) (hl : l.length ≤ 10000) (h : R (.d (.bl true)) hp) : mfH m__law_is_right hp [.d (rgD l), .d (.tup (psD l)), s] R Xp tg := by
  obtain ⟨v, hw, hst, hvl⟩ := walkO_of hv
  refine mfH_of ?_
  unfold m__law_is_right
  simp
  refine sp_pairs ?_
  simp
  refine eq_pl 4 _ (pl_tup hl) rfl rfl ?_
  simp
  refine compH_map (fun d => d) trivial (by rw [le_size]; simp; omega) (fun d hd N hN => ?_) ?_
  · simp
    exact hN
  simp
  refine eq_pl 4 _ (pl_lst hl) rfl rfl ?_
  simp
  refine sp_many (by omega) ?_
  simp
  refine sp_members (.inl rfl) ?_
  simp
  refine eq_pl 4 (.int (tot l)) rfl rfl rfl ?_
  simp [hw]
  refine forH_ints (fun a r hp' env' => hp = hp' ∧ ∃ y3 y4, env' = [some (.d (rgD l)), some (.d (.tup (psD l))), some s, y3, y4]) ⟨rfl, _, _, rfl⟩ ?_ ?_
  · rintro a x r _ _ N es ⟨rfl, y3, y4, rfl⟩ hN
    simp
    refine sp_contains (by omega) ?_
    simp
    refine sp_within (.inl rfl) ?_
    simp
    exact hN _ _ hst ⟨rfl, _, _, rfl⟩
  · rintro _ _ ⟨rfl, y3, y4, rfl⟩
    simp
    exact h
theorem sp_all_right {x y : Pss} {Rs : Rws} {ks : List Int} {pr : S} {tg : Tg (m__law_all_right, R, Xp)} (hv : val hp pr = some (.lst (iL ks))) (s : Sit x y Rs) (h : R (.d (.bl true)) hp) : mfH m__law_all_right hp [.d (rgD x), .d (rgD y), .d (.lst (rwsD Rs)), pr] R Xp tg := by
  have lx := s.lx
  have ly := s.ly
  have lR : Rs.length ≤ 4000 := by have := s.l; omega
  refine mfH_of ?_
  unfold m__law_all_right
  simp [-x_seq]
  rw [x_seq]
  simp [-x_seq]
  refine sp_chosen (.inl ⟨rfl, rfl⟩) lR ?_
  rw [s.one]
  simp [-x_seq]
  refine sp_chosen (.inr (.inl ⟨rfl, rfl⟩)) lR ?_
  rw [s.two]
  simp [-x_seq]
  refine sp_chosen (.inr (.inr (.inl ⟨rfl, rfl⟩))) lR ?_
  simp [-x_seq]
  refine sp_chosen (.inr (.inr (.inr (.inl ⟨rfl, rfl⟩)))) lR ?_
  simp [-x_seq]
  rw [x_seq]
  simp [-x_seq]
  refine sp_and s.nx s.ny (by omega) (by omega) fun r nr lr mr => ?_
  rw [s.both nr mr]
  simp [-x_seq]
  refine sp_or (by omega) (by omega) fun r2 nr2 lr2 mr2 => ?_
  rw [s.any nr2 mr2]
  simp [-x_seq]
  rw [x_seq]
  simp [-x_seq]
  refine forH_L ?_
  rw [show rng 0 1 4 = [.int 0, .int 1, .int 2, .int 3] from rfl]
  have l1 : r.length ≤ 10000 := by omega
  have l2 : r2.length ≤ 10000 := by omega
  rw [x_forC]
  simp [-x_forC]
  refine sp_is_right hv (by omega) ?_
  simp [-x_forC]
  rw [x_forC]
  simp [-x_forC]
  refine sp_is_right hv (by omega) ?_
  simp [-x_forC]
  rw [x_forC]
  simp [-x_forC]
  refine sp_is_right hv l1 ?_
  simp [-x_forC]
  rw [x_forC]
  simp [-x_forC]
  refine sp_is_right hv l2 ?_
  simp
  refine sp_sub s.nx s.ny (by omega) (by omega) fun r3 nr3 lr3 mr3 => ?_
  simp
  refine sp_chosen (.inr (.inr (.inr (.inr ⟨rfl, rfl⟩)))) lR ?_
  have e3 := s.less nr3 mr3
  have l3 := ch_len (w := fun r => r.one && !r.two) s.c s.l
  rw [e3] at l3
  rw [e3]
  simp
  refine sp_is_right hv (by omega) ?_
  simp
  exact h
end
end Qk14
set_option Elab.async false
set_option linter.all false
set_option maxRecDepth 100000
set_option maxHeartbeats 1600000
namespace Qk14
open PySem PySem.Spec PyProof.Rows L2 Mp Pl Tb Rg Rn
theorem plN_tup {l : Pss} (h : l.length ≤ 10000) : plN 4 (.tup (psD l)) = true := by
  simp [plN]
  omega
theorem psD_inj : ∀ {l m : Pss}, psD l = psD m → l = m
  | [], [], _ => rfl
  | [], _ :: _, h => by cases h
  | _ :: _, [], h => by cases h
  | p :: l, q :: m, h => by
    have h1 : pD p = pD q := (List.cons.inj h).1
    have h2 : psD l = psD m := (List.cons.inj h).2
    obtain ⟨a, b⟩ := p
    obtain ⟨c, d⟩ := q
    simp only [pD] at h1
    injection h1 with h1
    injection h1 with h3 h1
    injection h1 with h4 _
    injection h3 with h3
    injection h4 with h4
    rw [h3, h4, psD_inj h2]
theorem eqS_ps {l m : Pss} (hl : l.length ≤ 10000) : eqS 4 (.tup (psD l)) (.tup (psD m)) = decide (l = m) := by
  by_cases c : l = m
  · subst c
    rw [eqS_refl (plN_tup hl), decide_eq_true rfl]
  · rw [decide_eq_false c]
    refine eqS_dec (plN_tup hl) fun z => c ?_
    injection z with z
    exact psD_inj z
theorem mgd_rev {l : Pss} (n : Nrm l) : mgd l.reverse = l := by
  have m := mgd_ok (l := l.reverse)
  exact nrm_uniq m.1 n fun x => by rw [m.2, mem_rev]
section
variable {hp : List O} {n : Nat} {o : O} {R : S → List O → Prop} {Xp : MX}
@[simp] theorem dec_self {τ : Type} [DecidableEq τ] {a : τ} : decide (a = a) = true := decide_eq_true rfl
theorem sp_equals_right {x y : Pss} {Rs : Rws} {tg : Tg (m__law_equals_right, R, Xp)} (s : Sit x y Rs) (h : R (.d (.bl true)) hp) : mfH m__law_equals_right hp [.d (rgD x), .d (rgD y), .d (.lst (rwsD Rs))] R Xp tg := by
  have lx := s.lx
  have ly := s.ly
  have lR : Rs.length ≤ 4000 := by have := s.l; omega
  refine mfH_of ?_
  unfold m__law_equals_right
  simp [-x_seq]
  rw [x_seq]
  simp [-x_seq]
  refine sp_chosen (.inl ⟨rfl, rfl⟩) lR ?_
  rw [s.one]
  simp [-x_seq]
  rw [x_seq]
  simp [-x_seq]
  refine sp_chosen (.inr (.inl ⟨rfl, rfl⟩)) lR ?_
  rw [s.two]
  simp [-x_seq]
  rw [x_seq]
  simp [-x_seq]
  refine sp_and s.nx s.ny (by omega) (by omega) fun r nr lr mr => ?_
  simp [-x_seq]
  rw [x_seq]
  simp [-x_seq]
  refine sp_sub s.nx s.ny (by omega) (by omega) fun r3 nr3 lr3 mr3 => ?_
  have l3 : r3.length ≤ 1700 := by
    have e3 := s.less nr3 mr3
    have := ch_len (w := fun r => r.one && !r.two) s.c s.l
    rw [e3] at this
    exact this
  simp [-x_seq]
  rw [x_seq]
  simp [-x_seq]
  rw [← List.map_reverse]
  refine sp_mkQ (l := x.reverse) (by simp; omega) (.inr (.inl rfl)) ?_
  rw [mgd_rev s.nx]
  simp [-x_seq]
  refine sp_eqO ?_
  simp [-x_seq]
  refine sp_or (l := r3) (m := r) (by omega) (by omega) fun r4 nr4 lr4 mr4 => ?_
  have e4 : r4 = x := nrm_uniq nr4 s.nx fun z => by
    rw [mr4, mr3, mr]
    by_cases c : Mem y z
    · exact ⟨fun w => w.elim (fun w => w.1) fun w => w.1, fun w => .inr ⟨w, c⟩⟩
    · exact ⟨fun w => w.elim (fun w => w.1) fun w => w.1, fun w => .inl ⟨w, c⟩⟩
  have e4' := e4.symm
  subst e4'
  simp [-x_seq]
  refine sp_eqO ?_
  simp [-x_seq]
  refine sp_and s.ny s.nx (by omega) (by omega) fun r5 nr5 lr5 mr5 => ?_
  have e5 : r5 = r := nrm_uniq nr5 nr fun z => by rw [mr5, mr]; exact ⟨fun w => ⟨w.2, w.1⟩, fun w => ⟨w.2, w.1⟩⟩
  have e5' := e5.symm
  subst e5'
  simp [-x_seq]
  refine sp_eqO ?_
  simp [-x_seq]
  rw [x_seq]
  simp [-x_seq]
  refine sp_eqO ?_
  simp [-x_seq]
  refine sp_equal 4 _ _ (plN_tup (by omega)) (plN_tup (by omega)) rfl rfl ?_
  rw [eqS_ps (by omega)]
  simp [-x_seq]
  refine sp_eqO ?_
  simp [-x_seq]
  refine sp_chosen (.inr (.inr (.inl ⟨rfl, rfl⟩))) lR ?_
  rw [s.both nr mr]
  have eb : decide (r3 = x) = decide (r = []) := by
    refine decide_eq_decide.mpr ⟨fun e => ?_, fun e => ?_⟩
    · refine nrm_uniq nr trivial fun z => ?_
      rw [mr]
      exact ⟨fun w => absurd w.2 ((mr3 z).mp (e ▸ w.1)).2, fun w => absurd w mem_nil⟩
    · refine nrm_uniq nr3 s.nx fun z => ?_
      rw [mr3]
      exact ⟨fun w => w.1, fun w => ⟨w, fun w2 => mem_nil (e ▸ (mr z).mpr ⟨w, w2⟩)⟩⟩
  have ez : decide (((psD r).length : Int) = 0) = decide (r = []) := by
    refine decide_eq_decide.mpr ⟨fun e => ?_, fun e => ?_⟩
    · simp at e; exact e
    · subst e; rfl
  rw [eb]
  simp [-x_seq]
  rw [x_seq]
  simp [-x_seq]
  rw [x_seq]
  simp [-x_seq]
  generalize (1361129467683753853853498429727072845823 : Int) = top
  refine sp_mkQ (l := [(top, top)]) (by simp) (.inr (.inl rfl)) ?_
  have mt := mgd_ok (l := [(top, top)])
  have lt := mgd_len (l := [(top, top)])
  have ht : ∀ z, Mem (mgd [(top, top)]) z ↔ z = top := fun z => by
    rw [mt.2, mem_cons]
    exact ⟨fun w => w.elim (fun w => by omega) fun w => absurd w mem_nil, fun w => .inl (by subst w; exact ⟨Int.le_refl _, Int.le_refl _⟩)⟩
  generalize mgd [(top, top)] = u at mt lt ht
  simp at lt
  simp [-x_seq]
  refine sp_or (l := x) (m := u) (by omega) (by omega) fun r6 nr6 lr6 mr6 => ?_
  simp [-x_seq]
  refine sp_eqO ?_
  simp [-x_seq]
  refine sp_within (.inl rfl) ?_
  have e6 : decide (x = r6) = has x top := by
    rw [Bool.eq_iff_iff, decide_eq_true_eq, has_iff]
    constructor
    · intro e
      rw [e, mr6]
      exact .inr ((ht top).mpr rfl)
    · intro e
      refine nrm_uniq s.nx nr6 fun z => ?_
      rw [mr6, ht]
      exact ⟨.inl, fun w => w.elim id fun w => by rw [w]; exact e⟩
  rw [e6]
  simp
  refine sp_eqN rfl ?_
  simp
  refine sp_eqN rfl ?_
  simp
  refine sp_eqN rfl ?_
  simp
  refine sp_eqN rfl ?_
  simp
  exact h
end
end Qk14
set_option Elab.async false
set_option linter.all false
set_option maxRecDepth 100000
set_option maxHeartbeats 1600000
namespace Qk14
open PySem PySem.Spec PyProof.Rows L2 Mp Pl Tb Rg Rn
section
variable {hp : List O} {n : Nat} {o : O} {R : S → List O → Prop} {Xp : MX}
theorem sp_some_pairs {ls : List O} {tg : Tg (m__law_some_pairs, R, Xp)} (hs : Pl.St o) (h : ∀ (l : Pss) o', Pl.St o' → Bp l → R (.d (.lst (psD l))) (o' :: ls)) : mfH m__law_some_pairs (o :: ls) [.mu 0] R Xp tg := by
  have pick5 : ∀ (o1 : O) (c1 : Pl.St o1) {R2 : S → List O → Prop} {Xp2 : MX} {tg2}, (∀ (m : Nat) o', Pl.St o' → 2 ≤ m → m ≤ 400 → R2 (.d (.int m)) (o' :: ls)) → mfH m__law_pick (o1 :: ls) [.mu 0, .d (.lst [.int 20, .int 50, .int 100, .int 399, .int 400])] R2 Xp2 tg2 := by
    intro o1 hs1 R2 Xp2 tg2 h2
    refine s_pick (hp := o1 :: ls) (n := 0) rfl hs1 (by simp) (by simp) fun j hj o2 hs2 => ?_
    obtain ⟨b, eb, hb⟩ : ∃ b : Nat, [D.int 20, .int 50, .int 100, .int 399, .int 400][j]'hj = .int (b : Int) ∧ 2 ≤ b ∧ b ≤ 400 := by
      simp only [List.length_cons, List.length_nil] at hj
      match j, hj with
      | 0, _ => exact ⟨20, rfl, by decide⟩
      | 1, _ => exact ⟨50, rfl, by decide⟩
      | 2, _ => exact ⟨100, rfl, by decide⟩
      | 3, _ => exact ⟨399, rfl, by decide⟩
      | 4, _ => exact ⟨400, rfl, by decide⟩
    rw [eb]
    exact h2 b o2 hs2 hb.1 hb.2
  have pick7 : ∀ (o1 : O) (c1 : Pl.St o1) {R2 : S → List O → Prop} {Xp2 : MX} {tg2}, (∀ (m : Int) o', Pl.St o' → 0 ≤ m → m ≤ 30 → R2 (.d (.int m)) (o' :: ls)) → mfH m__law_pick (o1 :: ls) [.mu 0, .d (.lst [.int 1, .int 2, .int 3, .int 6, .int 6, .int 12, .int 30])] R2 Xp2 tg2 := by
    intro o1 hs1 R2 Xp2 tg2 h2
    refine s_pick (hp := o1 :: ls) (n := 0) rfl hs1 (by simp) (by simp) fun j hj o2 hs2 => ?_
    obtain ⟨b, eb, hb⟩ : ∃ b : Int, [D.int 1, .int 2, .int 3, .int 6, .int 6, .int 12, .int 30][j]'hj = .int b ∧ 0 ≤ b ∧ b ≤ 30 := by
      simp only [List.length_cons, List.length_nil] at hj
      match j, hj with
      | 0, _ => exact ⟨_, rfl, by decide⟩
      | 1, _ => exact ⟨_, rfl, by decide⟩
      | 2, _ => exact ⟨_, rfl, by decide⟩
      | 3, _ => exact ⟨_, rfl, by decide⟩
      | 4, _ => exact ⟨_, rfl, by decide⟩
      | 5, _ => exact ⟨_, rfl, by decide⟩
      | 6, _ => exact ⟨_, rfl, by decide⟩
    rw [eb]
    exact h2 b o2 hs2 hb.1 hb.2
  refine mfH_of ?_
  unfold m__law_some_pairs
  simp [-x_seq]
  rw [x_seq]
  simp [-x_seq]
  refine s_take (hp := o :: ls) (n := 0) rfl hs (by omega) fun q o1 hs1 _ _ _ => ?_
  by_cases c : q = 9
  · simp [c]
    refine pick5 o1 hs1 fun m o2 hs2 m1 m2 => ?_
    simp
    refine sp_spread hs2 m1 m2 fun l o3 hs3 bl => ?_
    simp
    exact h l o3 hs3 bl
  · simp [c]
    refine pick7 o1 hs1 fun m o3 hs3 m1 m2 => ?_
    simp
    refine sp_loose hs3 m1 m2 fun l o4 hs4 bl => ?_
    simp
    exact h l o4 hs4 bl
theorem sub_ps {l : Pss} : ∀ {ys : List D}, (∀ y ∈ ys, y ∈ psD l) → ∃ m : Pss, ys = psD m ∧ ∀ p ∈ m, p ∈ l
  | [], _ => ⟨[], rfl, (fun _ h => nomatch h)⟩
  | y :: ys, h => by
    obtain ⟨p, hp, rfl⟩ := List.mem_map.mp (h y List.mem_cons_self)
    obtain ⟨m, rfl, hm⟩ := sub_ps (ys := ys) fun z hz => h z (List.mem_cons_of_mem _ hz)
    refine ⟨p :: m, rfl, fun q hq => ?_⟩
    rcases List.mem_cons.mp hq with rfl | hq
    · exact hp
    · exact hm q hq
theorem sp_beside {l : Pss} {ls : List O} {tg : Tg (m__law_beside, R, Xp)} (hs : Pl.St o) (bl : Bp l) (h : ∀ (l : Pss) o', Pl.St o' → Bp l → R (.d (.lst (psD l))) (o' :: ls)) : mfH m__law_beside (o :: ls) [.mu 0, .d (.lst (psD l))] R Xp tg := by
  have hl := bl.len
  refine mfH_of ?_
  unfold m__law_beside
  simp [-x_seq]
  rw [x_seq]
  simp [-x_seq]
  rw [x_seq]
  simp [-x_seq]
  rw [x_seq]
  simp [-x_seq]
  refine sp_some (ls := ls ++ [O.lst []]) (xs := psD l) hs (by simp; omega) fun ys o1 hs1 hy hm => ?_
  obtain ⟨m, rfl, hm2⟩ := sub_ps hm
  clear hm hm2
  simp at hy
  simp [-x_seq]
  refine forH_of (fun ds hp' env' => ∃ (a b c : Pss) (o' : O) (y4 y5 y6 : Option S), Pl.St o' ∧ m = a ++ b ∧ ds = psD b ∧ c.length = a.length ∧ (∀ p ∈ c, (-(2 ^ 140) ≤ p.1 ∧ p.1 ≤ 2 ^ 140) ∧ -(2 ^ 140) ≤ p.2 ∧ p.2 ≤ 2 ^ 140) ∧ hp' = o' :: (ls ++ [.lst (psD c)]) ∧
    env' = [some (.mu 0), some (.d (.lst (psD l))), some (.d (.int E130)), some (.mu (ls.length + 1)), y4, y5, y6]) ⟨[], m, [], o1, none, none, none, hs1, rfl, rfl, rfl, (fun _ h => nomatch h), rfl, rfl⟩ ?_ ?_
  · rintro d ds _ _ N ⟨a, b, c, o2, y4, y5, y6, hs2, e, er, lc, bc, rfl, rfl⟩ hN
    cases b with
    | nil => cases er
    | cons p b =>
      cases er
      have la : a.length + 1 ≤ 400 := by rw [e] at hy; simp at hy; omega
      simp
      refine s_take (hp := o2 :: (ls ++ [O.lst (psD c)])) (n := 0) rfl hs2 (by omega) fun q o3 hs3 _ _ _ => ?_
      simp
      refine s_take (hp := o3 :: (ls ++ [O.lst (psD c)])) (n := 0) rfl hs3 (by omega) fun q2 o4 hs4 _ _ _ => ?_
      simp
      refine sp_clamp ?_
      simp
      refine sp_clamp ?_
      simp
      refine ⟨by omega, hN _ _ trivial ⟨a ++ [p], b, c ++ [(max (-E130) (min E130 (p.1 + q - 1)), max (-E130) (min E130 (p.2 + q2 - 1)))], o4, _, _, _, hs4, by rw [e]; simp, rfl, by simp [lc], fun z hz => ?_, by simp, rfl⟩⟩
      rcases List.mem_append.mp hz with hz | hz
      · exact bc z hz
      · rw [List.mem_singleton.mp hz]; exact ⟨bd130, bd130⟩
  · rintro _ _ ⟨a, b, c, o2, y4, y5, y6, hs2, e, er, lc, bc, rfl, rfl⟩
    have : b = [] := by cases b with | nil => rfl | cons _ _ => cases er
    subst this
    rw [List.append_nil] at e
    subst e
    simp
    refine sp_shuffled (hp := o2 :: (ls ++ [O.lst (psD c)])) (xs := psD c) (n := 0) (by simp) rfl hs2 (by simp; omega) fun ys o3 hs3 pm => ?_
    obtain ⟨d, rfl, hd⟩ := sub_ps (l := c) (ys := ys) fun y hy => pm.mem_iff.mp hy
    have ld := pm.length_eq
    simp at ld
    have hf : ¬ ls.length + 1 < ls.length := by omega
    have fin := h d o3 hs3 ⟨by omega, fun p hp => bc p (hd p hp)⟩
    simp [hf]
    simpa using fin
end
theorem sit_of {a b : Pss} (ba : Bp a) (bb : Bp b) : Sit (mgd a) (mgd b) (rowsOf a b) := by
  have ma := mgd_ok (l := a)
  have mb := mgd_ok (l := b)
  have hfa : ∀ p ∈ fl_ a, p.1 ≤ p.2 := fun p hp => by have := (List.mem_filter.mp hp).2; simpa [full] using this
  have hfb : ∀ p ∈ fl_ b, p.1 ≤ p.2 := fun p hp => by have := (List.mem_filter.mp hp).2; simpa [full] using this
  have mf : ∀ {l : Pss} {x : Int}, Mem (fl_ l) x ↔ Mem l x := fun {l x} => by
    constructor
    · rintro ⟨p, hp, h⟩
      exact ⟨p, (List.mem_filter.mp hp).1, h⟩
    · rintro ⟨p, hp, h⟩
      exact ⟨p, List.mem_filter.mpr ⟨hp, by simp [full]; omega⟩, h⟩
  have inE : ∀ {l : Pss} {p : Int × Int}, p ∈ fl_ l → p.1 ∈ ends l ∧ p.2 + 1 ∈ ends l := fun {l p} hp => ⟨List.mem_flatMap.mpr ⟨p, hp, by simp⟩, List.mem_flatMap.mpr ⟨p, hp, by simp⟩⟩
  have k := stre_ok (a := fl_ a) (b := fl_ b) (S := srtN (ends a ++ ends b)) hfa hfb srt_uniq
    (fun p hp => ⟨mem_srtN.mpr (List.mem_append_left _ (inE hp).1), mem_srtN.mpr (List.mem_append_left _ (inE hp).2)⟩)
    (fun p hp => ⟨mem_srtN.mpr (List.mem_append_right _ (inE hp).1), mem_srtN.mpr (List.mem_append_right _ (inE hp).2)⟩)
  refine ⟨ma.1, mb.1, Nat.le_trans mgd_len ba.len, Nat.le_trans mgd_len bb.len, k.1, ⟨fun r hr x h1 h2 => ?_, fun x hx => ?_⟩, ?_⟩
  · have := k.2.row r hr x h1 h2
    rw [mf, mf] at this
    rw [ma.2, mb.2]
    exact this
  · rw [ma.2, mb.2] at hx
    exact k.2.out x (by rw [mf, mf]; exact hx)
  · unfold rowsOf
    refine Nat.le_trans stre_len ?_
    unfold srtN
    rw [List.length_mergeSort]
    have h1 := uniq_len (ends a ++ ends b)
    have h2 := ends_len (l := a)
    have h3 := ends_len (l := b)
    have h4 := ba.len
    have h5 := bb.len
    simp only [List.length_append] at h1
    omega
theorem rw_slice {r : Rw} : cutD [D.int r.lo, D.int r.hi, D.bl r.one, D.bl r.two] none (some 2) = [.int r.lo, .int r.hi] := by
  have := cut_takeD (l := [D.int r.lo, D.int r.hi, D.bl r.one, D.bl r.two]) (k := 2) (by simp)
  exact this
theorem pure_law (ns : List Int) (hl : ns.length ≤ 63) (hb : ∀ z ∈ ns, Builtin.Int.intBits z ≤ 1048576) : m_law [] [.d (.fl (ns.map D.int))] (fun s _ => s = .d (.bl true)) (fun _ _ => False) := by
  unfold m_law
  simp [-x_seq]
  rw [x_seq]
  simp [-x_seq]
  refine s_store hl fun o ho => ?_
  simp [-x_seq]
  rw [x_seq]
  simp [-x_seq]
  rw [x_seq]
  simp [-x_seq]
  refine sp_some_pairs ho fun a o1 ho1 ba => ?_
  simp [-x_seq]
  rw [x_seq]
  simp [-x_seq]
  refine sp_some_pairs ho1 fun b0 o2 ho2 bb0 => ?_
  simp [-x_seq]
  refine seq_cut (fun hp' env' => ∃ (b : Pss) (o' : O), Pl.St o' ∧ Bp b ∧ hp' = [o'] ∧ env' = [some (.d (.fl (ns.map D.int))), some (.mu 0), some (.d (.int E130)), some (.d (.lst (psD a))), some (.d (.lst (psD b))), none, none, none, none, none, none, none, none, none, none, none, none]) (fun N hN => ?_) ?_
  · simp
    refine s_take (hp := [o2]) (n := 0) rfl ho2 (by omega) fun q o3 hs3 _ _ _ => ?_
    by_cases c : q = 0
    · simp [c]
      refine sp_beside (ls := []) hs3 ba fun b o4 hs4 bb => ?_
      simp
      exact hN _ _ ⟨b, o4, hs4, bb, rfl, rfl⟩
    · simp [c]
      exact hN _ _ ⟨b0, o3, hs3, bb0, rfl, rfl⟩
  rintro _ _ ⟨b, o3, ho3, bb, rfl, rfl⟩
  have la := ba.len
  have lb := bb.len
  have sit := sit_of ba bb
  have lR := sit.l
  rw [x_seq]
  simp [-x_seq]
  refine sp_stretches la lb ?_
  generalize rowsOf a b = Rs at sit lR ⊢
  simp [-x_seq]
  rw [x_seq]
  simp [-x_seq]
  refine seq_cut (fun hp' env' => ∃ (o' : O) (ks : List Int) (y7 y8 : Option S), Pl.St o' ∧ hp' = [o', .lst (iL ks)] ∧ env' = [some (.d (.fl (ns.map D.int))), some (.mu 0), some (.d (.int E130)), some (.d (.lst (psD a))), some (.d (.lst (psD b))), some (.d (.lst (rwsD Rs))), some (.mu 1), y7, y8, none, none, none, none, none, none, none, none]) (fun N hN => ?_) ?_
  · simp
    refine forH_rng (fun i hp' env' => ∃ (o' : O) (ks : List Int) (y7 y8 : Option S), Pl.St o' ∧ ks.length ≤ 3 + i ∧ hp' = [o', .lst (iL ks)] ∧ env' = [some (.d (.fl (ns.map D.int))), some (.mu 0), some (.d (.int E130)), some (.d (.lst (psD a))), some (.d (.lst (psD b))), some (.d (.lst (rwsD Rs))), some (.mu 1), y7, y8, none, none, none, none, none, none, none, none]) ⟨o3, [0, E130, -E130], none, none, ho3, by simp, rfl, rfl⟩ ?_ ?_
    · rintro i _ _ N2 him ⟨o4, ks, y7, y8, hs4, hk, rfl, rfl⟩ hN2
      by_cases c : 0 < Rs.length
      · simp [c]
        refine s_pick (hp := [o4, O.lst (iL ks)]) (n := 0) rfl hs4 (by simpa using c) (by simp; omega) fun j hj o5 hs5 => ?_
        obtain ⟨r, er⟩ : ∃ r : Rw, (rwsD Rs)[j]'hj = rwD r := ⟨Rs[j]'(by simpa using hj), by simp⟩
        rw [er]
        simp [rw_slice]
        refine Rn.s_pickT (hp := [o5, O.lst (iL ks)]) (n := 0) rfl hs5 (by simp) (by simp) fun j hj o6 hs6 => ?_
        obtain ⟨z, ez⟩ : ∃ z : Int, [D.int r.lo, .int r.hi][j]'hj = .int z := by
          simp only [List.length_cons, List.length_nil] at hj
          match j, hj with
          | 0, _ => exact ⟨_, rfl⟩
          | 1, _ => exact ⟨_, rfl⟩
        rw [ez]
        simp
        refine s_take (hp := [o6, O.lst (iL ks)]) (n := 0) rfl hs6 (by omega) fun u o7 hs7 _ _ _ => ?_
        simp
        refine sp_clamp ?_
        simp
        refine ⟨by omega, hN2 _ _ ⟨o7, ks ++ [max (-E130) (min E130 (z + u - 1))], _, _, hs7, by simp; omega, by simp [iL], rfl⟩⟩
      · simp [c]
        exact hN2 _ _ ⟨o4, ks, _, _, hs4, by omega, rfl, rfl⟩
    · rintro _ _ ⟨o4, ks, y7, y8, hs4, hk, rfl, rfl⟩
      exact hN _ _ ⟨o4, ks, _, _, hs4, rfl, rfl⟩
  rintro _ _ ⟨o4, ks, y7, y8, hs4, rfl, rfl⟩
  have la1 : a.length < 16777216 := by omega
  have lb1 : b.length < 16777216 := by omega
  rw [x_seq]
  simp [-x_seq, la1]
  rw [x_seq]
  simp [-x_seq]
  refine sp_mkQ (hp := [o4, O.lst (iL ks), O.lst (psD a)]) (l := a) (by omega) (.inr (.inr ⟨2, rfl, rfl⟩)) ?_
  simp [-x_seq]
  rw [x_seq]
  simp [-x_seq]
  refine sp_mkQ (hp := [o4, O.lst (iL ks), O.lst (psD a)]) (l := b) (by omega) (.inl rfl) ?_
  simp [-x_seq]
  refine seq_cut (fun hp' env' => hp' = [o4, O.lst (iL ks), O.lst (psD a)] ∧ env' = [some (.d (.fl (ns.map D.int))), some (.mu 0), some (.d (.int E130)), some (.d (.lst (psD a))), some (.d (.lst (psD b))), some (.d (.lst (rwsD Rs))), some (.mu 1), y7, y8, some (.mu 2), some (.d (rgD (mgd a))), some (.d (rgD (mgd b))), none, none, none, none, none]) (fun N hN => ?_) ?_
  · by_cases c : a = []
    · subst c
      simp
      refine sp_mkQ (hp := [o4, O.lst (iL ks), O.lst []]) (l := []) (by simp) (.inl rfl) ?_
      simp
      exact hN _ _ ⟨rfl, rfl⟩
    · simp [c]
      exact hN _ _ ⟨rfl, rfl⟩
  rintro _ _ ⟨rfl, rfl⟩
  rw [x_seq]
  simp [-x_seq]
  refine sp_all_right (ks := ks) rfl sit ?_
  simp [-x_seq]
  refine eq_pl 4 _ (pl_lst (l := a) (by omega)) rfl rfl ?_
  simp [-x_seq]
  rw [x_seq]
  simp [-x_seq, la1]
  rw [x_seq]
  have hix : ixN (a.length + 1) 0 = some 0 := by
    have := ixN_nat (n := a.length + 1) (i := 0) (by omega) (by omega)
    simpa using this
  simp [-x_seq, hix]
  rw [x_seq]
  simp [-x_seq]
  generalize O.lst ((psD a ++ [D.tup [D.int (-E130), D.int E130]]).set 0 (D.tup [D.int 0, D.int 0])) = o5
  refine sp_equals_right sit ?_
  simp [-x_seq]
  refine sp_all_right (ks := ks) rfl sit ?_
  simp [-x_seq]
  rw [x_seq]
  by_cases c : (100 : Int) < (Rs.length : Int)
  · simp [c]
  simp [c]
  refine compH_of (fun acc rest hp' => ∃ (p q : Rws), rest = rwsD q ∧ hp' = [o4, O.lst (iL ks), o5] ∧ Rs = p ++ q ∧ acc = rwsD (turn p)) (by rw [le_size]; simp; omega) ⟨[], Rs, rfl, rfl, rfl, rfl⟩ ?_ ?_
  · rintro acc d rest _ N2 ⟨p, q, er, rfl, e, rfl⟩ hN2
    cases q with
    | nil => cases er
    | cons r q =>
      cases er
      simp
      exact hN2 _ _ trivial ⟨p ++ [r], q, rfl, rfl, by rw [e]; simp, by simp [turn]⟩
  · rintro acc _ ⟨p, q, er, rfl, e, rfl⟩
    have : q = [] := by cases q with | nil => rfl | cons _ _ => cases er
    subst this
    rw [List.append_nil] at e
    subst e
    simp
    refine sp_all_right (ks := ks) rfl sit.turn ?_
    simp
end Qk14
set_option Elab.async false
set_option linter.all false
set_option maxRecDepth 100000
set_option maxHeartbeats 0
namespace Qk14
open PySem PySem.Spec PyProof.Rows L2 Mp Pl
def loose : List Str := (["_wall", "TagoctetsError", "Absent", "merged", "shared", "remaining", "Ranges", "_law_mix", "_law_store", "_law_take", "_law_pick", "_law_shuffled", "_law_some", "_law_equal", "_law_clamp", "_law_loose_pairs", "_law_within", "_law_members", "_law_spread", "_law_some_pairs", "_law_beside", "_law_mark", "_law_stretches", "_law_chosen", "_law_is_right", "_law_all_right", "_law_equals_right"] : List Str)
abbrev R : PySem.W.OpenRow := PySem.W.OpenLaw.row PySem.Challenge.rw_tagoctets_k14_ranges_operators
def as_ : List Addr := [3, 21, 50, 60, 67, 74, 90, 97, 103, 111, 119, 127, 134, 141, 148, 155, 162, 167, 174, 181, 188, 202, 209, 216, 223, 230, 237, 244, 251, 258, 265, 272, 277, 284, 291, 298, 305, 312, 317, 324, 331, 336, 9, 13, 20, 27, 41, 49, 59, 66, 73, 80, 89, 96, 102, 110, 118, 126, 133, 140, 147, 154, 161, 166, 173, 180, 187, 201, 208, 215, 222, 229, 236, 243, 250, 257, 264, 271, 276, 283, 290, 297, 304, 311, 316, 323, 330, 335, 0, 1, 6, 24, 30, 37, 52, 77, 190, 31, 53, 191, 98, 104, 112, 120, 10, 14, 23, 28, 32, 33, 34, 36, 42, 54, 55, 76, 81, 192, 193, 194, 195, 38, 4, 5, 7, 11, 15, 17, 18, 22, 25, 29, 35, 39, 43, 44, 47, 51, 56, 61, 63, 64, 68, 70, 71, 75, 78, 82, 83, 84, 87, 91, 93, 94, 99, 105, 107, 108, 113, 115, 116, 121, 123, 124, 128, 130, 131, 135, 137, 138, 142, 145, 149, 152, 156, 159, 163, 168, 170, 171, 175, 177, 178, 182, 185, 189, 196, 198, 199, 203, 205, 206, 210, 212, 213, 217, 220, 224, 226, 227, 231, 233, 234, 238, 240, 241, 245, 247, 248, 252, 254, 255, 259, 261, 262, 266, 268, 269, 273, 278, 280, 281, 285, 287, 288, 292, 294, 295, 299, 301, 302, 306, 308, 309, 313, 318, 320, 321, 325, 327, 328, 332, 2, 8, 12, 16, 19, 26, 40, 45, 48, 57, 58, 62, 65, 69, 72, 79, 85, 88, 92, 95, 100, 101, 106, 109, 114, 117, 122, 125, 129, 132, 136, 139, 143, 146, 150, 153, 157, 160, 164, 165, 169, 172, 176, 179, 183, 186, 197, 200, 204, 207, 211, 214, 218, 221, 225, 228, 232, 235, 239, 242, 246, 249, 253, 256, 260, 263, 267, 270, 274, 275, 279, 282, 286, 289, 293, 296, 300, 303, 307, 310, 314, 315, 319, 322, 326, 329, 333, 334]
abbrev hk : PySem.W.Hook := hookZL P as_ fa fn xs bs prs tabs
def ob (s : PySem.W.SharedT) : AlZ := obsZL P as_ fa fn xs bs prs tabs (HandSHeadRun.getT s)
theorem ob_eq (s : PySem.W.SharedT) : ob s = hk.obs s.abs := obsZL_eq (HandSHeadRun.getT_eq s)
theorem run0 (w : World) (os : OsState) : (HandSHeadRun.endF (HandSHeadRun.stepQ (HandSHeadRun.denQ HandSHeadRun.tabQ) R.prog w) 20000 R.prog w os).map (fun s => (HandSHeadRun.looksF R.prog (PySem.W.boot_heap w.params) s.abs, HandSHeadRun.seenQ (PySem.W.view R.prog [30]) loose (importedModules R.prog.main.body) (fun s => PySem.W.xlAt (PySem.W.view R.prog [30]) [] s && PySem.W.recOk R.toRowW.records s) s.abs)) = some (true, PySem.W.openGood (PySem.W.view R.prog [30]) loose) := by
  kernel_rfl
theorem run1 (w : World) (os : OsState) : (HandSHeadRun.endF (HandSHeadRun.stepQ (HandSHeadRun.denQ HandSHeadRun.tabQ) R.prog w) 20000 R.prog w os).map (fun s => fa.all fun f => f.ok (He.frG (HandSHeadRun.getT s) (cStatics :: as_))) = some true := by
  kernel_rfl
theorem run2 (w : World) (os : OsState) : (HandSHeadRun.endF (HandSHeadRun.stepQ (HandSHeadRun.denQ HandSHeadRun.tabQ) R.prog w) 20000 R.prog w os).map (fun s => fn.all fun d => d.ok (He.frG (HandSHeadRun.getT s) (cStatics :: as_))) = some true := by
  kernel_rfl
theorem run3 (w : World) (os : OsState) : (HandSHeadRun.endF (HandSHeadRun.stepQ (HandSHeadRun.denQ HandSHeadRun.tabQ) R.prog w) 20000 R.prog w os).map (fun s => fn.map fun d => He.fnW (He.frG (HandSHeadRun.getT s) (cStatics :: as_)) d.at_) = some (fn.map He.DefD.val) := by
  kernel_rfl
theorem run4 (w : World) (os : OsState) : (HandSHeadRun.endF (HandSHeadRun.stepQ (HandSHeadRun.denQ HandSHeadRun.tabQ) R.prog w) 20000 R.prog w os).map (fun s => (((xs.all fun d => (d.tests P (He.frG (HandSHeadRun.getT s) (cStatics :: as_))).all id) && bs.all fun b => b (He.frG (HandSHeadRun.getT s) (cStatics :: as_))), (xs.map fun d => xObs (He.frG (HandSHeadRun.getT s) (cStatics :: as_)) d.x), (prs.all fun d => d.ok (He.frG (HandSHeadRun.getT s) (cStatics :: as_))), (prs.map fun d => d.obs (He.frG (HandSHeadRun.getT s) (cStatics :: as_))))) = some (true, xs.map XcD.val, true, prs.map PrD.val) := by
  kernel_rfl
theorem run5 (w : World) (os : OsState) : (HandSHeadRun.endF (HandSHeadRun.stepQ (HandSHeadRun.denQ HandSHeadRun.tabQ) R.prog w) 20000 R.prog w os).map (fun s => tabs.map fun t => He.dicW (He.frG (HandSHeadRun.getT s) (cStatics :: as_)) (gtA t.1 (He.frG (HandSHeadRun.getT s) (cStatics :: as_)))) = some (tabs.map fun t => some (He.keysIn w.params t.2)) := by
  kernel_rfl
theorem run (w : World) : HandSHeadRun.RunEq R (PySem.W.view R.prog [30]) hk ob 20000 loose w := runZ_of (run0 w) (run1 w) (run2 w) (run3 w) (run4 w) (run5 w)
theorem at_law {w : World} {K : PySem.W.Frag} {h : Heap} {mg : Str → Option Value} {f : Addr} (X : K.In h) (G : h.Ns mainGlobals mg) (hfa : mg ("law" : Str) = some (.ref f)) (c : SaysZ P fa fn xs bs prs tabs w K) :
    EndAtS PySem.Challenge.rw_tagoctets_k14_ranges_operators w K (L2.CX (PySem.Challenge.rw_tagoctets_k14_ranges_operators).prog w) 8 63 "_law_script" mg f h := by
  obtain ⟨Z, _⟩ := zs (w := w) X G c
  have e : f = Z.f_law := by
    have q := hfa.symm.trans Z.g_law
    injection q with q
    injection q
  subst e
  have b := FunD.bindsA (ps := ["_law_script"]) Z.F_law fun _ _ _ _ _ _ us hl => match us, hl with | [_], _ => rfl
  refine ⟨Z.fd_law, [], spM K 1 false m_law, fun _ h => (List.not_mem_nil h).elim, fun _ h => (List.not_mem_nil h).elim, fun _ h => (List.not_mem_nil h).elim, fun s v => b s [v] rfl, fun H a ns hl hb _ hS => ?_, fun base _ _ _ => ok_law Z⟩
  exact script_start hS (pure_law ns hl hb)
end Qk14
open PySem PySem.W PySem.Calls PyProof.Rows
theorem PySem.Challenge.cw_tagoctets_k14_ranges_operators_holds : PySem.Challenge.rw_tagoctets_k14_ranges_operators.Holds := by
  w_on; o_law
  refine HandSHeadRun.head_any (r := OpenLaw.row PySem.Challenge.rw_tagoctets_k14_ranges_operators) (q := view (OpenLaw.row PySem.Challenge.rw_tagoctets_k14_ranges_operators).prog [30]) (H := Qk14.hk) (ob := Qk14.ob) (M := 20000) (loose := Qk14.loose) (d := HandSHeadRun.topDef (OpenLaw.row PySem.Challenge.rw_tagoctets_k14_ranges_operators).prog 30) (kwd := []) Qk14.ob_eq
    (by kernel_rfl) (fun s => by kernel_rfl) Qk14.run (by kernel_rfl) (by kernel_rfl) (by kernel_rfl) (by rfl) (by first | assumption | decide +kernel) (by decide +kernel) ⟨rfl, rfl, rfl, rfl, rfl, by decide +kernel⟩ ?hw ?hc
  case hw => w_witness2
  case hc =>
    refine LamX.walk_ofTsE (l := PySem.Challenge.rw_tagoctets_k14_ranges_operators) (n := 63) (k := 8) (x := "_law_script") (CX := fun w => L2.CX (PySem.Challenge.rw_tagoctets_k14_ranges_operators).prog w) rfl (by decide) (by kernel_rfl) ⟨rfl, by decide, by decide⟩ ?F (fun w H s e s' z => Mp.cx_end z)
    intro w mg f h Y G hmg0
    obtain ⟨K, KX, c⟩ := Y
    have hmg : mg ("law" : PySem.Str) = some (.ref f) := by
      have e : (HandSHeadRun.topDef (OpenLaw.row PySem.Challenge.rw_tagoctets_k14_ranges_operators).prog 30).name = ("law" : PySem.Str) := by kernel_rfl
      rw [← e]
      exact hmg0
    exact ⟨K, KX, Qk14.at_law KX G hmg c⟩
