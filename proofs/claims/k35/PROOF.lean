import PyProof.Rows.All
import Wide.All
import OpenK.AllK
import Wide.FinOn
import HandS.ForMost
import HandS.Exc
import HandS.TryOnly
import HandS.TryMany
import HandS.ExcOwn
import HandS.WordsExc
import HandS.CallSlots
import HandS.Defaults
import HandS.HeadHook2
import HandS.HeadHook4
import HandS.Lambda
import HandS.IsInst
import PyProof.StrBlock2
import HandS.Wide
import HandS.Deep
import HandS.TupAny
import HandS.Text
import KE.KStateDown
import HandS.Head0
import HandS.Head1
import HandS.Head2
import HandS.HeadEnd
import HandS.HeadHook1
import HandS.HeadWalk
import HandS.Style
import KE.KSuper
import KE.KExcSuper
import HandS.ExcInit
import HandS.FStr
import HandS.ExcIs
import HandS.ExcField
import KE.KExcIs
import HandS.Property
import HandS.MakeKwOnly
import HandS.Rev
import HandS.TupMul
import KE.SortData
import HandS.RevRange
import HandS.TupSets
import KE.GoesEnum
import HandS.HeadHook3
import HandS.Flow
import KE.DataMinMax
import HandS.StrMore
import HandS.ReplaceLit
import HandS.SetFor
import HandS.Zip
import PyProof.AutoSeq1
import PyProof.LongRange
import KE.BitLaws
import HandS.SlotsOwn
import HandS.IterVal
import HandS.OwnIter
import HandS.DictComp
import HandS.BoundDict
import HandS.SetKeys
import PyProof.DictMoreH
import PyProof.ListRange
import KE.GoesZip
import KE.GoesMore
import HandS.HotCalls
import HandS.Conv
import HandS.Nested
import HandS.More
import KE.SortKeyHeap
import HandS.EndTab
import HandS.TupLe
import PyProof.ReprRoads
import HandS.EndBits
import PyProof.StrLawsRepr
import HandS.FStrTup
import PyProof.StrLawsChain
import KE.KIntText
import KE.IntTextLaws
import PyProof.Rows.StrDouble
import HandS.DictTup
import PyProof.Rows.StrCountLaw
import PyProof.StrLawsLast
import PySem.Challenge.RW_tagoctets_k35_unread_places
set_option Elab.async false
set_option linter.all false
set_option maxRecDepth 100000
set_option maxHeartbeats 4000000
namespace Mp
open PySem PySem.Spec PyProof.Rows L2
abbrev Frag := PySem.W.Frag
inductive D where
  | non | bl (b : Bool) | int (i : Int) | str (x : Str) | ty (n : String) | tup (xs : List D) | lst (xs : List D) | fl (xs : List D) | obj (C : Str) (fs : List Str) (xs : List D)
inductive Nd where
  | d (x : D) | nd (k : Nat)
inductive Gn where
  | lst (xs : List Nd) | ins (C : Str) (fs : List (Str × Nd)) | tup (xs : List Nd) | dct (kvs : List (Key × Nd))
inductive O where
  | lst (xs : List D) | dct (kvs : List (Key × D)) | reg (gs : List Gn) | dtp (kvs : List (List Key × D)) | tbl (q : Str) | gone
structure Exn where
  cls : Str
  fs : List (Str × D)
inductive S where
  | d (x : D) | mu (n : Nat) | ob (n k : Nat) | exn (a : Addr) (c : Value) (d : Option Addr) (x : Exn)
abbrev Av := Addr → Prop
def hp0 : Hp := fun _ => none
def noA : Av := fun _ => False
mutual
def Rep (K : Frag) (A : Av) (H : Hp) : D → V → Prop
  | .non, v => v = .non
  | .bl b, v => v = .bl b
  | .int i, v => v = .int i
  | .str x, v => v = .str x
  | .ty n, v => v = .ty n
  | .tup ds, v => ∃ a vs, v = .ref a ∧ ((H a = some (.tup vs) ∧ ¬ A a) ∨ SqT K hp0 a vs) ∧ RepL K A H ds vs
  | .lst ds, v => ∃ a vs, v = .ref a ∧ (H a = some (.lst vs) ∧ ¬ A a) ∧ RepL K A H ds vs
  | .fl ds, v => ∃ a vs, v = .ref a ∧ ((Rd H a (.lst vs) ∧ ¬ A a) ∨ SqL K hp0 a vs) ∧ RepL K A H ds vs
  | .obj C fs ds, v => ∃ a vs dx, v = .ref a ∧ (H a = some (.ins (He.ga K C) dx (fs.zip vs)) ∧ ¬ A a) ∧ RepL K A H ds vs
def RepL (K : Frag) (A : Av) (H : Hp) : List D → List V → Prop
  | [], vs => vs = []
  | d :: ds, vs => ∃ v r, vs = v :: r ∧ Rep K A H d v ∧ RepL K A H ds r
end
structure Step (A M : Av) (H : Hp) (A' M' : Av) (H' : Hp) : Prop where
  keep : ∀ a o, H a = some o → ¬ M a → H' a = some o
  newA : ∀ a, A' a → A a ∨ H a = none
  newM : ∀ a, M' a → M a ∨ H a = none
  sub : ∀ a, M a → A a
  stay : ∀ a o, H a = some o → ∃ u, H' a = some u
theorem Step.refl {A M : Av} {H : Hp} (h : ∀ a, M a → A a) : Step A M H A M H := ⟨fun _ _ h _ => h, fun _ h => .inl h, fun _ h => .inl h, h, fun _ o h => ⟨o, h⟩⟩
theorem Step.trans {A M A1 M1 A2 M2 : Av} {H H1 H2 : Hp} (a : Step A M H A1 M1 H1) (b : Step A1 M1 H1 A2 M2 H2) : Step A M H A2 M2 H2 where
  keep := fun x o h n => b.keep x o (a.keep x o h n) fun n1 => (a.newM x n1).elim n fun z => by rw [h] at z; cases z
  newA := fun x h => by
    rcases b.newA x h with h | h
    · exact a.newA x h
    · cases e : H x with
      | none => exact .inr rfl
      | some o =>
        by_cases n : M x
        · exact .inl (a.sub x n)
        · rw [a.keep x o e n] at h; cases h
  newM := fun x h => by
    rcases b.newM x h with h | h
    · exact a.newM x h
    · cases e : H x with
      | none => exact .inr rfl
      | some o =>
        by_cases n : M x
        · exact .inl n
        · rw [a.keep x o e n] at h; cases h
  sub := a.sub
  stay := fun x o h => by
    obtain ⟨u, hu⟩ := a.stay x o h
    exact b.stay x u hu
theorem Step.not {A M A1 M1 : Av} {H H1 : Hp} (s : Step A M H A1 M1 H1) {a : Addr} {o : HO} (h : H a = some o) (n : ¬ A a) : ¬ A1 a := fun n1 => (s.newA a n1).elim n fun z => by rw [h] at z; cases z
theorem Step.kept {A M A1 M1 : Av} {H H1 : Hp} (s : Step A M H A1 M1 H1) {a : Addr} {o : HO} (h : H a = some o) (n : ¬ A a) : H1 a = some o := s.keep a o h fun z => n (s.sub a z)
theorem Step.rd {A M A1 M1 : Av} {H H1 : Hp} (s : Step A M H A1 M1 H1) {a : Addr} {u : HO} (h : Rd H a u) (n : ¬ A a) : Rd H1 a u ∧ ¬ A1 a := by
  rcases h with h | ⟨o, h⟩
  · exact ⟨.inl (s.kept h n), s.not h n⟩
  · exact ⟨.inr ⟨o, s.kept h n⟩, s.not h n⟩
theorem Step.fresh {A M : Av} {H : Hp} {p : Addr} {o : HO} (hs : ∀ a, M a → A a) (h : H p = none) : Step A M H A M (upd H p o) := ⟨fun a u e _ => by rw [upd_ne (ne_of_none e h)]; exact e, fun _ h => .inl h, fun _ h => .inl h, hs, fun a u e => ⟨u, by rw [upd_ne (ne_of_none e h)]; exact e⟩⟩
mutual
theorem Rep.mono {K : Frag} {A M A' M' : Av} {H H' : Hp} (s : Step A M H A' M' H') : ∀ (d : D) (v : V), Rep K A H d v → Rep K A' H' d v
  | .non, _, h => h
  | .bl _, _, h => h
  | .int _, _, h => h
  | .str _, _, h => h
  | .ty _, _, h => h
  | .tup ds, v, ⟨a, vs, e, h, r⟩ => ⟨a, vs, e, h.elim (fun h => .inl ⟨s.kept h.1 h.2, s.not h.1 h.2⟩) .inr, RepL.mono s ds vs r⟩
  | .lst ds, v, ⟨a, vs, e, h, r⟩ => ⟨a, vs, e, ⟨s.kept h.1 h.2, s.not h.1 h.2⟩, RepL.mono s ds vs r⟩
  | .fl ds, v, ⟨a, vs, e, h, r⟩ => ⟨a, vs, e, h.elim (fun h => .inl (s.rd h.1 h.2)) .inr, RepL.mono s ds vs r⟩
  | .obj C fs ds, v, ⟨a, vs, dx, e, h, r⟩ => ⟨a, vs, dx, e, ⟨s.kept h.1 h.2, s.not h.1 h.2⟩, RepL.mono s ds vs r⟩
theorem RepL.mono {K : Frag} {A M A' M' : Av} {H H' : Hp} (s : Step A M H A' M' H') : ∀ (ds : List D) (vs : List V), RepL K A H ds vs → RepL K A' H' ds vs
  | [], _, h => h
  | d :: ds, _, ⟨v, r, e, h, t⟩ => ⟨v, r, e, Rep.mono s d v h, RepL.mono s ds r t⟩
end
section
variable {K : Frag} {A : Av} {H : Hp}
theorem RepL.length : ∀ {ds : List D} {vs : List V}, RepL K A H ds vs → ds.length = vs.length
  | [], _, h => by cases h; rfl
  | d :: ds, _, ⟨v, r, e, _, t⟩ => by subst e; exact congrArg Nat.succ (RepL.length t)
theorem RepL.nil : RepL K A H [] [] := rfl
theorem RepL.cons {d : D} {ds : List D} {v : V} {vs : List V} (h : Rep K A H d v) (t : RepL K A H ds vs) : RepL K A H (d :: ds) (v :: vs) := ⟨v, vs, rfl, h, t⟩
theorem RepL.append : ∀ {ds es : List D} {vs us : List V}, RepL K A H ds vs → RepL K A H es us → RepL K A H (ds ++ es) (vs ++ us)
  | [], _, _, _, h, g => by cases h; exact g
  | d :: ds, _, _, _, ⟨v, r, e, h, t⟩, g => by subst e; exact ⟨v, r ++ _, rfl, h, RepL.append t g⟩
theorem RepL.get : ∀ {ds : List D} {vs : List V} {i : Nat} {d : D}, RepL K A H ds vs → ds[i]? = some d → ∃ v, vs[i]? = some v ∧ Rep K A H d v
  | [], _, _, _, _, e => by simp at e
  | d :: ds, _, 0, _, ⟨v, r, e, h, _⟩, g => by subst e; simp at g; subst g; exact ⟨v, rfl, h⟩
  | d :: ds, _, i + 1, _, ⟨v, r, e, _, t⟩, g => by subst e; obtain ⟨u, h1, h2⟩ := RepL.get (i := i) t (by simpa using g); exact ⟨u, by simpa using h1, h2⟩
theorem RepL.take : ∀ (n : Nat) {ds : List D} {vs : List V}, RepL K A H ds vs → RepL K A H (ds.take n) (vs.take n)
  | 0, _, _, _ => by simp [RepL]
  | n + 1, [], _, h => by cases h; simp [RepL]
  | n + 1, d :: ds, _, ⟨v, r, e, h, t⟩ => by subst e; exact ⟨v, r.take n, rfl, h, RepL.take n t⟩
theorem RepL.drop : ∀ (n : Nat) {ds : List D} {vs : List V}, RepL K A H ds vs → RepL K A H (ds.drop n) (vs.drop n)
  | 0, _, _, h => h
  | n + 1, [], _, h => by cases h; simp [RepL]
  | n + 1, d :: ds, _, ⟨v, r, e, h, t⟩ => by subst e; exact RepL.drop n t
theorem RepL.set : ∀ (n : Nat) {ds : List D} {vs : List V} {d : D} {v : V}, RepL K A H ds vs → Rep K A H d v → RepL K A H (ds.set n d) (vs.set n v)
  | _, [], _, _, _, h, _ => by cases h; simp [RepL]
  | 0, d :: ds, _, _, _, ⟨v, r, e, h, t⟩, g => by subst e; exact ⟨_, r, rfl, g, t⟩
  | n + 1, d :: ds, _, _, _, ⟨v, r, e, h, t⟩, g => by subst e; exact ⟨v, _, rfl, h, RepL.set n t g⟩
theorem RepL.reverse {ds : List D} {vs : List V} (h : RepL K A H ds vs) : RepL K A H ds.reverse vs.reverse := by
  induction ds generalizing vs with
  | nil => cases h; simp [RepL]
  | cons d ds ih =>
    obtain ⟨v, r, e, h, t⟩ := h
    subst e
    rw [List.reverse_cons, List.reverse_cons]
    exact (ih t).append (.cons h .nil)
theorem RepL.dropLast {ds : List D} {vs : List V} (h : RepL K A H ds vs) : RepL K A H ds.dropLast vs.dropLast := by
  rw [List.dropLast_eq_take, List.dropLast_eq_take, h.length]
  exact h.take _
end
def RepT (K : Frag) (A : Av) (H : Hp) (d : D) (v : V) : Prop := match d with
  | .lst ds => ∃ a vs, v = .ref a ∧ H a = some (.lst vs) ∧ RepL K A H ds vs
  | d => Rep K A H d v
theorem Rep.t {K : Frag} {A : Av} {H : Hp} {d : D} {v : V} (h : Rep K A H d v) : RepT K A H d v := by
  cases d <;> first | exact h | (obtain ⟨a, vs, e, h, r⟩ := h; exact ⟨a, vs, e, h.1, r⟩)
def RepK {κ : Type} (K : Frag) (A : Av) (H : Hp) : List (κ × D) → List (κ × V) → Prop
  | [], ws => ws = []
  | (k, d) :: r, ws => ∃ v t, ws = (k, v) :: t ∧ Rep K A H d v ∧ RepK K A H r t
def RepN (K : Frag) (A : Av) (H : Hp) (as : List Addr) : Nd → V → Prop
  | .d x, v => Rep K A H x v
  | .nd k, v => ∃ a, as[k]? = some a ∧ v = .ref a
def RepNL (K : Frag) (A : Av) (H : Hp) (as : List Addr) : List Nd → List V → Prop := Paired (RepN K A H as)
def RepNF (K : Frag) (A : Av) (H : Hp) (as : List Addr) : List (Str × Nd) → List (Str × V) → Prop := Paired fun x w => x.1 = w.1 ∧ RepN K A H as x.2 w.2
def RepNK (K : Frag) (A : Av) (H : Hp) (as : List Addr) : List (Key × Nd) → List (Key × V) → Prop := Paired fun x w => x.1 = w.1 ∧ RepN K A H as x.2 w.2
def GR (K : Frag) (A : Av) (H : Hp) (as : List Addr) (a : Addr) : Gn → Prop
  | .lst xs => ∃ vs, H a = some (.lst vs) ∧ RepNL K A H as xs vs
  | .ins C fs => ∃ dx ws, H a = some (.ins (He.ga K C) dx ws) ∧ RepNF K A H as fs ws
  | .tup xs => ∃ vs, H a = some (.tup vs) ∧ RepNL K A H as xs vs
  | .dct kvs => ∃ ws, H a = some (.dK ws) ∧ RepNK K A H as kvs ws
abbrev adr (p : Addr × List Addr) : List Addr := p.1 :: p.2
def lamQ (f : Str) : Str := f ++ ".<locals>." ++ "<lambda>"
def tabA (K : Frag) (f : Str) : Addr := He.tabOf K (He.codeOf K (f, none))
def OR (K : Frag) (A : Av) (H : Hp) (p : Addr × List Addr) : O → Prop
  | .lst ds => p.2 = [] ∧ ∃ vs, H p.1 = some (.lst vs) ∧ RepL K A H ds vs
  | .dct kvs => p.2 = [] ∧ ∃ ws, H p.1 = some (.dK ws) ∧ RepK K A H kvs ws
  | .reg gs => (adr p).length = gs.length ∧ ∀ (k : Nat) (g : Gn) (a : Addr), gs[k]? = some g → (adr p)[k]? = some a → GR K A H (adr p) a g
  | .dtp kvs => p.2 = [] ∧ ∃ ws, H p.1 = some (.dT ws) ∧ RepK K A H kvs ws
  | .tbl f => p = (tabA K f, []) ∧ ∃ ps : Array Value, H p.1 = some (.tbl ps) ∧ TriplesOk ps.toList ∧ ∀ (pos : Pos) (cv : Value), codeAmong pos ps.toList = some cv → ∃ c, cv = .ref c ∧ H c = some (LamX.CodeO c (lamQ f)) ∧ ¬ A c
  | .gone => True
structure Mp_ where
  own : List (Addr × List Addr)
  ban : Av
def Mt (α : Mp_) (hp : List O) (a : Addr) : Prop := ∃ (n : Nat) (p : Addr × List Addr) (o : O), α.own[n]? = some p ∧ hp[n]? = some o ∧ o ≠ .gone ∧ (a = p.1 ∨ a ∈ p.2)
def Al (α : Mp_) (hp : List O) (a : Addr) : Prop := Mt α hp a ∨ α.ban a
theorem al_sub {α : Mp_} {hp : List O} : ∀ a, Mt α hp a → Al α hp a := fun _ h => .inl h
structure WOk (K : Frag) (α : Mp_) (hp : List O) (H : Hp) : Prop where
  len : α.own.length = hp.length
  obj : ∀ (n : Nat) (o : O) (p : Addr × List Addr), hp[n]? = some o → α.own[n]? = some p → OR K (Al α hp) H p o
  one : ∀ (n : Nat) (o : O) (p : Addr × List Addr), hp[n]? = some o → α.own[n]? = some p → o ≠ .gone → p.1 ∉ p.2 ∧ p.2.Nodup
  inj : ∀ (m n : Nat) (o u : O) (p q : Addr × List Addr), hp[m]? = some o → α.own[m]? = some p → o ≠ .gone → hp[n]? = some u → α.own[n]? = some q → u ≠ .gone → m ≠ n → ∀ a, (a = p.1 ∨ a ∈ p.2) → ¬ (a = q.1 ∨ a ∈ q.2)
  ban : ∀ a, α.ban a → (∃ o, H a = some o) ∧ ¬ Mt α hp a
def RepXF (K : Frag) (A : Av) (H : Hp) : List (Str × D) → List (Str × V) → Prop
  | [], ws => ws = []
  | (k, d) :: r, ws => ∃ v t, ws = (k, v) :: t ∧ Rep K A H d v ∧ RepXF K A H r t
def XRep (K : Frag) (A : Av) (H : Hp) (x : Exn) (c : Value) (dd : Option Addr) : Prop :=
  c = .ref (He.ga K x.cls) ∧ (x.fs = [] ∨ ∃ a ws, dd = some a ∧ (H a = some (.xd ws) ∧ ¬ A a) ∧ RepXF K A H x.fs ws)
theorem RepXF.mono {K : Frag} {A M A' M' : Av} {H H' : Hp} (s : Step A M H A' M' H') : ∀ {l : List (Str × D)} {ws : List (Str × V)}, RepXF K A H l ws → RepXF K A' H' l ws
  | [], _, h => h
  | (k, d) :: r, _, ⟨v, t, e, h, q⟩ => ⟨v, t, e, Rep.mono s d v h, RepXF.mono s q⟩
theorem XRep.mono {K : Frag} {A M A' M' : Av} {H H' : Hp} {x : Exn} {c : Value} {dd : Option Addr} (s : Step A M H A' M' H') (r : XRep K A H x c dd) : XRep K A' H' x c dd :=
  ⟨r.1, r.2.imp id fun ⟨a, ws, h1, h2, h3⟩ => ⟨a, ws, h1, ⟨s.kept h2.1 h2.2, s.not h2.1 h2.2⟩, RepXF.mono s h3⟩⟩
def SRep (K : Frag) (α : Mp_) (hp : List O) (H : Hp) : S → V → Prop
  | .d x, v => Rep K (Al α hp) H x v
  | .mu n, v => ∃ p, α.own[n]? = some p ∧ v = .ref p.1
  | .ob n k, v => ∃ p a, α.own[n]? = some p ∧ (adr p)[k]? = some a ∧ v = .ref a
  | .exn a c d x, v => v = .ref a ∧ XRep K (Al α hp) H x c d
def EnvR (K : Frag) (α : Mp_) (hp : List O) (H : Hp) (env : List (Option S)) (σ : L2.St) : Prop :=
  env.length = σ.length ∧ ∀ (i : Nat) (s : S), env[i]? = some (some s) → ∃ v, σ[i]? = some (some v) ∧ SRep K α hp H s v
def OwnLe (l m : List (Addr × List Addr)) : Prop := ∀ (n : Nat) (p : Addr × List Addr), l[n]? = some p → ∃ q : Addr × List Addr, m[n]? = some q ∧ q.1 = p.1 ∧ p.2 <+: q.2
theorem OwnLe.refl (l : List (Addr × List Addr)) : OwnLe l l := fun n p h => ⟨p, h, rfl, List.prefix_refl _⟩
theorem OwnLe.trans {l m k : List (Addr × List Addr)} (a : OwnLe l m) (b : OwnLe m k) : OwnLe l k := fun n p h => by
  obtain ⟨q, h1, h2, h3⟩ := a n p h
  obtain ⟨r, g1, g2, g3⟩ := b n q h1
  exact ⟨r, g1, g2.trans h2, h3.trans g3⟩
theorem OwnLe.app (l m : List (Addr × List Addr)) : OwnLe l (l ++ m) := fun n p h => ⟨p, by rw [List.getElem?_append_left (List.getElem?_eq_some_iff.mp h).1]; exact h, rfl, List.prefix_refl _⟩
theorem OwnLe.len {l m : List (Addr × List Addr)} (h : OwnLe l m) : l.length ≤ m.length := by
  by_cases c : l.length ≤ m.length
  · exact c
  · have hl : m.length < l.length := by omega
    obtain ⟨q, h1, _⟩ := h m.length _ (List.getElem?_eq_getElem hl)
    rw [List.getElem?_eq_none (Nat.le_refl _)] at h1
    cases h1
theorem OwnLe.take {l m : List (Addr × List Addr)} (h : OwnLe l m) {k : Nat} (hk : l.length ≤ k) : OwnLe l (m.take k) := fun n p e => by
  obtain ⟨q, h1, h2⟩ := h n p e
  have hn : n < l.length := (List.getElem?_eq_some_iff.mp e).1
  exact ⟨q, by rw [List.getElem?_take_of_lt (by omega)]; exact h1, h2⟩
theorem OwnLe.appR {l m k : List (Addr × List Addr)} (h : OwnLe l m) : OwnLe l (m ++ k) := h.trans (OwnLe.app m k)
structure Pre (α α' : Mp_) : Prop where
  own : OwnLe α.own α'.own
  ban : α'.ban = α.ban
theorem Pre.refl (α : Mp_) : Pre α α := ⟨OwnLe.refl _, rfl⟩
theorem Pre.trans {α β γ : Mp_} (a : Pre α β) (b : Pre β γ) : Pre α γ := ⟨a.own.trans b.own, b.ban.trans a.ban⟩
theorem Pre.get {α β : Mp_} (h : Pre α β) {n : Nat} {p : Addr × List Addr} (e : α.own[n]? = some p) : ∃ q, β.own[n]? = some q ∧ q.1 = p.1 := by
  obtain ⟨q, h1, h2, _⟩ := h.own n p e
  exact ⟨q, h1, h2⟩
theorem adr_le {p q : Addr × List Addr} (h1 : q.1 = p.1) (h2 : p.2 <+: q.2) {k : Nat} {a : Addr} (h : (adr p)[k]? = some a) : (adr q)[k]? = some a := by
  cases k with
  | zero => simp [adr] at h ⊢; exact h1.trans h
  | succ k =>
    have h' : p.2[k]? = some a := h
    obtain ⟨t, ht⟩ := h2
    show q.2[k]? = some a
    rw [← ht, List.getElem?_append_left (List.getElem?_eq_some_iff.mp h').1]
    exact h'
abbrev StepW (α : Mp_) (hp : List O) (H : Hp) (α' : Mp_) (hp' : List O) (H' : Hp) : Prop := Step (Al α hp) (Mt α hp) H (Al α' hp') (Mt α' hp') H'
abbrev StepA (α : Mp_) (hp : List O) (H : Hp) (α' : Mp_) (hp' : List O) (H' : Hp) : Prop := Step (Al α hp) (Al α hp) H (Al α' hp') (Al α' hp') H'
theorem Step.toA {α α' : Mp_} {hp hp' : List O} {H H' : Hp} (s : StepW α hp H α' hp' H') : StepA α hp H α' hp' H' := ⟨fun a o h n => s.keep a o h fun z => n (.inl z), s.newA, s.newA, fun _ h => h, s.stay⟩
structure Ext (α : Mp_) (hp : List O) (H : Hp) (α' : Mp_) (hp' : List O) (H' : Hp) : Prop where
  pre : Pre α α'
  step : StepW α hp H α' hp' H'
  nw : ∀ (n : Nat) (p : Addr × List Addr), α.own.length ≤ n → α'.own[n]? = some p → H p.1 = none
theorem none_back {H H' : Hp} (h : ∀ a o, H a = some o → ∃ u, H' a = some u) {a : Addr} (e : H' a = none) : H a = none := by
  cases q : H a with
  | none => rfl
  | some o =>
    obtain ⟨u, hu⟩ := h a o q
    rw [e] at hu
    cases hu
theorem at_none {τ : Type} {l : List τ} {n : Nat} {x : τ} (h : l.length ≤ n) (e : l[n]? = some x) : False := by
  rw [List.getElem?_eq_none h] at e
  cases e
theorem Ext.refl {α : Mp_} {hp : List O} {H : Hp} : Ext α hp H α hp H := ⟨Pre.refl _, Step.refl al_sub, fun _ _ h e => (at_none h e).elim⟩
theorem Ext.trans {α β γ : Mp_} {hp hp1 hp2 : List O} {H H1 H2 : Hp} (a : Ext α hp H β hp1 H1) (b : Ext β hp1 H1 γ hp2 H2) : Ext α hp H γ hp2 H2 := ⟨a.pre.trans b.pre, a.step.trans b.step, fun n p h e => by
  by_cases hn : n < β.own.length
  · obtain ⟨q, h1, h2⟩ := b.pre.get (List.getElem?_eq_getElem hn)
    rw [e] at h1
    cases h1
    rw [h2]
    exact a.nw n _ h (List.getElem?_eq_getElem hn)
  · exact none_back a.step.stay (b.nw n p (by omega) e)⟩
theorem SRep.mono {K : Frag} {α β : Mp_} {hp hp1 : List O} {H H1 : Hp} (e : Ext α hp H β hp1 H1) : ∀ {s : S} {v : V}, SRep K α hp H s v → SRep K β hp1 H1 s v
  | .d x, v, h => Rep.mono e.step x v h
  | .mu n, v, ⟨p, h, q⟩ => by
    obtain ⟨p', h', e'⟩ := e.pre.get h
    exact ⟨p', h', by rw [q, e']⟩
  | .ob n k, v, ⟨p, a, h, g, q⟩ => by
    obtain ⟨p', h', e1, e2⟩ := e.pre.own n p h
    exact ⟨p', a, h', adr_le e1 e2 g, q⟩
  | .exn a c d x, v, ⟨q, h⟩ => ⟨q, h.mono e.step⟩
theorem EnvR.mono {K : Frag} {α β : Mp_} {hp hp1 : List O} {H H1 : Hp} {env : List (Option S)} {σ : L2.St} (e : Ext α hp H β hp1 H1) (h : EnvR K α hp H env σ) : EnvR K β hp1 H1 env σ :=
  ⟨h.1, fun i s hi => by obtain ⟨v, h1, h2⟩ := h.2 i s hi; exact ⟨v, h1, h2.mono e⟩⟩
theorem RepK.mono {κ : Type} {K : Frag} {A M A' M' : Av} {H H' : Hp} (s : Step A M H A' M' H') : ∀ {l : List (κ × D)} {ws : List (κ × V)}, RepK K A H l ws → RepK K A' H' l ws
  | [], _, h => h
  | (k, d) :: r, _, ⟨v, t, e, h, q⟩ => ⟨v, t, e, Rep.mono s d v h, RepK.mono s q⟩
theorem RepN.mono {K : Frag} {A M A' M' : Av} {H H' : Hp} {as bs : List Addr} (s : Step A M H A' M' H') (l : ∀ (k : Nat) (a : Addr), as[k]? = some a → bs[k]? = some a) : ∀ {x : Nd} {v : V}, RepN K A H as x v → RepN K A' H' bs x v
  | .d _, _, h => Rep.mono s _ _ h
  | .nd k, _, ⟨a, h, e⟩ => ⟨a, l k a h, e⟩
theorem GR.mono {K : Frag} {A M A' M' : Av} {H H' : Hp} {as bs : List Addr} (s : Step A M H A' M' H') (l : ∀ (k : Nat) (a : Addr), as[k]? = some a → bs[k]? = some a) {a : Addr} (ha : H' a = H a) : ∀ {g : Gn}, GR K A H as a g → GR K A' H' bs a g
  | .lst _, ⟨vs, h, r⟩ => ⟨vs, ha.trans h, L2.Paired.mapP r fun _ _ q => q.mono s l⟩
  | .ins _ _, ⟨dx, ws, h, r⟩ => ⟨dx, ws, ha.trans h, L2.Paired.mapP r fun _ _ q => ⟨q.1, q.2.mono s l⟩⟩
  | .tup _, ⟨vs, h, r⟩ => ⟨vs, ha.trans h, L2.Paired.mapP r fun _ _ q => q.mono s l⟩
  | .dct _, ⟨ws, h, r⟩ => ⟨ws, ha.trans h, L2.Paired.mapP r fun _ _ q => ⟨q.1, q.2.mono s l⟩⟩
theorem GR.there {K : Frag} {A : Av} {H : Hp} {as : List Addr} {a : Addr} : ∀ {g : Gn}, GR K A H as a g → ∃ o, H a = some o
  | .lst _, ⟨vs, h, r⟩ => ⟨_, h⟩
  | .ins _ _, ⟨dx, ws, h, r⟩ => ⟨_, h⟩
  | .tup _, ⟨_, h, _⟩ => ⟨_, h⟩
  | .dct _, ⟨_, h, _⟩ => ⟨_, h⟩
theorem WOk.mt {K : Frag} {α : Mp_} {hp : List O} {H : Hp} (w : WOk K α hp H) {a : Addr} (h : Mt α hp a) : ∃ o, H a = some o := by
  obtain ⟨n, p, o, h1, h2, h3, h4⟩ := h
  have q := w.obj n o p h2 h1
  cases o with
  | lst ds =>
    obtain ⟨e, vs, h, _⟩ := q
    rcases h4 with z | z
    · subst z; exact ⟨_, h⟩
    · rw [e] at z; cases z
  | dct kvs =>
    obtain ⟨e, vs, h, _⟩ := q
    rcases h4 with z | z
    · subst z; exact ⟨_, h⟩
    · rw [e] at z; cases z
  | reg gs =>
    obtain ⟨e, r⟩ := q
    obtain ⟨k, hk, e2⟩ := List.mem_iff_getElem.mp (show a ∈ adr p from List.mem_cons.mpr h4)
    exact (r k gs[k] a (List.getElem?_eq_getElem (by omega)) (by rw [List.getElem?_eq_getElem hk, e2])).there
  | dtp kvs =>
    obtain ⟨e, vs, h, _⟩ := q
    rcases h4 with z | z
    · subst z; exact ⟨_, h⟩
    · rw [e] at z; cases z
  | tbl q' =>
    obtain ⟨e, vs, h, _⟩ := q
    rcases h4 with z | z
    · subst z; exact ⟨_, h⟩
    · rw [congrArg Prod.snd e] at z; cases z
  | gone => exact absurd rfl h3
theorem WOk.there {K : Frag} {α : Mp_} {hp : List O} {H : Hp} (w : WOk K α hp H) {a : Addr} (h : Al α hp a) : ∃ o, H a = some o := h.elim w.mt fun h => (w.ban a h).1
theorem WOk.non {K : Frag} {α : Mp_} {hp : List O} {H : Hp} (w : WOk K α hp H) : ∀ a, H a = none → ¬ Al α hp a := fun a h z => by
  obtain ⟨o, ho⟩ := w.there z
  rw [h] at ho
  cases ho
theorem Ext.fresh {α : Mp_} {hp : List O} {H : Hp} {p : Addr} {o : HO} (h : H p = none) : Ext α hp H α hp (upd H p o) := ⟨Pre.refl _, Step.fresh al_sub h, fun _ _ h e => (at_none h e).elim⟩
theorem OR.mono {K : Frag} {A M A' M' : Av} {H H' : Hp} {p : Addr × List Addr} (s : Step A M H A' M' H') : ∀ {o : O}, OR K A H p o → (o ≠ .gone → ∀ b, b = p.1 ∨ b ∈ p.2 → H' b = H b) → OR K A' H' p o
  | .lst ds, ⟨e, vs, h, r⟩, k => ⟨e, vs, by rw [k (fun z => nomatch z) _ (.inl rfl)]; exact h, RepL.mono s _ _ r⟩
  | .dct kvs, ⟨e, vs, h, r⟩, k => ⟨e, vs, by rw [k (fun z => nomatch z) _ (.inl rfl)]; exact h, r.mono s⟩
  | .reg gs, ⟨e, r⟩, k => ⟨e, fun j g a h1 h2 => (r j g a h1 h2).mono s (fun _ _ h => h) (k (fun z => nomatch z) a (List.mem_cons.mp (List.mem_iff_getElem?.mpr ⟨j, h2⟩)))⟩
  | .dtp kvs, ⟨e, vs, h, r⟩, k => ⟨e, vs, by rw [k (fun z => nomatch z) _ (.inl rfl)]; exact h, r.mono s⟩
  | .tbl q, ⟨e, ps, h, t, r⟩, k => ⟨e, ps, by rw [k (fun z => nomatch z) _ (.inl rfl)]; exact h, t, fun pos cv hc => by
    obtain ⟨c, h1, h2, h3⟩ := r pos cv hc
    exact ⟨c, h1, s.kept h2 h3, s.not h2 h3⟩⟩
  | .gone, _, _ => trivial
theorem WOk.fresh {K : Frag} {α : Mp_} {hp : List O} {H : Hp} {p : Addr} {o : HO} (w : WOk K α hp H) (h : H p = none) : WOk K α hp (upd H p o) :=
  ⟨w.len, fun n u q h1 h2 => (w.obj n u q h1 h2).mono (Step.fresh al_sub h) fun hg b hb => by
    obtain ⟨x, hx⟩ := w.mt ⟨n, q, u, h2, h1, hg, hb⟩
    exact upd_ne (ne_of_none hx h), w.one, w.inj, fun a ha => by
    obtain ⟨⟨x, hx⟩, hm⟩ := w.ban a ha
    exact ⟨⟨x, by rw [upd_ne (ne_of_none hx h)]; exact hx⟩, hm⟩⟩
theorem WOk.banned {K : Frag} {α : Mp_} {hp : List O} {H : Hp} {p : Addr} {o : HO} (w : WOk K α hp H) (h : H p = none) : WOk K { α with ban := fun a => α.ban a ∨ a = p } hp (upd H p o) ∧ StepW α hp H { α with ban := fun a => α.ban a ∨ a = p } hp (upd H p o) := by
  have st : StepW α hp H { α with ban := fun a => α.ban a ∨ a = p } hp (upd H p o) := ⟨fun a u e _ => by rw [upd_ne (ne_of_none e h)]; exact e, fun a z => by
    rcases z with z | z | z
    · exact .inl (.inl z)
    · exact .inl (.inr z)
    · subst z; exact .inr h, fun _ z => .inl z, al_sub, fun a u e => ⟨u, by rw [upd_ne (ne_of_none e h)]; exact e⟩⟩
  refine ⟨⟨w.len, fun n u q h1 h2 => (w.obj n u q h1 h2).mono st fun hg b hb => by
    obtain ⟨x, hx⟩ := w.mt ⟨n, q, u, h2, h1, hg, hb⟩
    exact upd_ne (ne_of_none hx h), w.one, w.inj, fun a ha => ?_⟩, st⟩
  rcases ha with ha | ha
  · obtain ⟨⟨x, hx⟩, hm⟩ := w.ban a ha
    exact ⟨⟨x, by rw [upd_ne (ne_of_none hx h)]; exact hx⟩, hm⟩
  · subst ha
    exact ⟨⟨o, upd_same⟩, fun z => by
      obtain ⟨x, hx⟩ := w.mt z
      rw [h] at hx
      cases hx⟩
end Mp
set_option Elab.async false
set_option linter.all false
set_option maxRecDepth 100000
set_option maxHeartbeats 4000000
namespace Mp
open PySem PySem.Spec PyProof.Rows L2
structure PS where
  hp : List O
  env : List (Option S)
  n0 : Nat
abbrev MX := Exn → List O → Prop
abbrev ME := PS → (S → List O → Prop) → MX → Prop
abbrev MT := PS → (Bool → List O → Prop) → MX → Prop
abbrev MA := PS → (List S → List O → Prop) → MX → Prop
def PostE (K : Frag) (α : Mp_) (hp : List O) (H : Hp) (R : S → List O → Prop) (Q : VK) : Prop :=
  ∀ s hp' α' H' v, R s hp' → Ext α hp H α' hp' H' → WOk K α' hp' H' → SRep K α' hp' H' s v → Q v H'
def PostT (K : Frag) (α : Mp_) (hp : List O) (H : Hp) (R : Bool → List O → Prop) (Q : Bool → Hp → Prop) : Prop :=
  ∀ b hp' α' H', R b hp' → Ext α hp H α' hp' H' → WOk K α' hp' H' → Q b H'
def SRepL (K : Frag) (α : Mp_) (hp : List O) (H : Hp) : List S → List V → Prop := Paired (SRep K α hp H)
def PostA (K : Frag) (α : Mp_) (hp : List O) (H : Hp) (R : List S → List O → Prop) (Q : List V → Hp → Prop) : Prop :=
  ∀ ss hp' α' H' vs, R ss hp' → Ext α hp H α' hp' H' → WOk K α' hp' H' → SRepL K α' hp' H' ss vs → Q vs H'
def PostX (K : Frag) (W : WX) (σ : L2.St) (α : Mp_) (hp : List O) (H : Hp) (Xp : MX) : Prop :=
  ∀ x hp' α' H' c dd, Xp x hp' → Ext α hp H α' hp' H' → WOk K α' hp' H' → XRep K (Al α' hp') H' x c dd → W c dd σ H'
section
variable {K : Frag} {W : WX} {σ : L2.St} {α β : Mp_} {hp hp1 : List O} {H H1 : Hp}
theorem PostE.at {R : S → List O → Prop} {Q : VK} (p : PostE K α hp H R Q) (e : Ext α hp H β hp1 H1) : PostE K β hp1 H1 R Q := fun s h a h' v r e' w q => p s h a h' v r (e.trans e') w q
theorem PostT.at {R : Bool → List O → Prop} {Q : Bool → Hp → Prop} (p : PostT K α hp H R Q) (e : Ext α hp H β hp1 H1) : PostT K β hp1 H1 R Q := fun s h a h' r e' w => p s h a h' r (e.trans e') w
theorem PostA.at {R : List S → List O → Prop} {Q : List V → Hp → Prop} (p : PostA K α hp H R Q) (e : Ext α hp H β hp1 H1) : PostA K β hp1 H1 R Q := fun s h a h' v r e' w q => p s h a h' v r (e.trans e') w q
theorem PostX.at {Xp : MX} (p : PostX K W σ α hp H Xp) (e : Ext α hp H β hp1 H1) : PostX K W σ β hp1 H1 Xp := fun x h a h' c dd r e' w q => p x h a h' c dd r (e.trans e') w q
theorem SRepL.mono (e : Ext α hp H β hp1 H1) {ss : List S} {vs : List V} (h : SRepL K α hp H ss vs) : SRepL K β hp1 H1 ss vs := L2.Paired.mapP h fun _ _ q => q.mono e
end
def SimE (K : Frag) (W : WX) (t : TE) (M : ME) : Prop := ∀ (α : Mp_) (s : PS) (H : Hp) (σ : L2.St), WOk K α s.hp H → EnvR K α s.hp H s.env σ → ∀ R Xp, M s R Xp → ∀ Q : VK, PostE K α s.hp H R Q → PostX K W σ α s.hp H Xp → t σ H Q
def SimT (K : Frag) (W : WX) (t : TT) (M : MT) : Prop := ∀ (α : Mp_) (s : PS) (H : Hp) (σ : L2.St), WOk K α s.hp H → EnvR K α s.hp H s.env σ → ∀ R Xp, M s R Xp → ∀ Q : Bool → Hp → Prop, PostT K α s.hp H R Q → PostX K W σ α s.hp H Xp → t σ H Q
def SimA (K : Frag) (W : WX) (t : TA) (M : MA) : Prop := ∀ (α : Mp_) (s : PS) (H : Hp) (σ : L2.St), WOk K α s.hp H → EnvR K α s.hp H s.env σ → ∀ R Xp, M s R Xp → ∀ Q : List V → Hp → Prop, PostA K α s.hp H R Q → PostX K W σ α s.hp H Xp → t σ H Q
def on {τ : Type} (o : Option τ) (k : τ → Prop) : Prop := match o with
  | some x => k x
  | none => False
@[simp] theorem on_some {τ : Type} {x : τ} {k : τ → Prop} : on (some x) k = k x := rfl
@[simp] theorem on_none {τ : Type} {k : τ → Prop} : on (none : Option τ) k = False := rfl
theorem on.ex {τ : Type} {o : Option τ} {k : τ → Prop} (h : on o k) : ∃ x, o = some x ∧ k x := by
  cases o with
  | none => exact h.elim
  | some x => exact ⟨x, rfl, h⟩
def dsOf : List Nd → Option (List D)
  | [] => some []
  | .d x :: r => (dsOf r).map (x :: ·)
  | .nd _ :: _ => none
def nodeAt (hp : List O) (n k : Nat) : Option Gn := match hp[n]? with
  | some (.reg gs) => gs[k]?
  | _ => none
theorem nodeAt_some {hp : List O} {n k : Nat} {g : Gn} (h : nodeAt hp n k = some g) : ∃ gs, hp[n]? = some (.reg gs) ∧ gs[k]? = some g := by
  unfold nodeAt at h
  split at h
  · rename_i gs e; exact ⟨gs, e, h⟩
  · cases h
theorem RepNL.ds {K : Frag} {A : Av} {H : Hp} {as : List Addr} : ∀ {xs : List Nd} {vs : List V} {ds : List D}, RepNL K A H as xs vs → dsOf xs = some ds → RepL K A H ds vs
  | [], _, ds, h, e => by cases h; cases e; exact .nil
  | .d x :: r, _, ds, h, e => by
    cases h with
    | cons h t =>
      unfold dsOf at e
      cases g : dsOf r with
      | none => rw [g] at e; cases e
      | some es =>
        rw [g] at e
        cases e
        exact .cons h (RepNL.ds t g)
  | .nd _ :: _, _, _, _, e => by cases e
theorem WOk.node {K : Frag} {α : Mp_} {hp : List O} {H : Hp} (w : WOk K α hp H) {n k : Nat} {g : Gn} {p : Addr × List Addr} {a : Addr} (h : nodeAt hp n k = some g) (hp' : α.own[n]? = some p) (ha : (adr p)[k]? = some a) : GR K (Al α hp) H (adr p) a g := by
  obtain ⟨gs, h1, h2⟩ := nodeAt_some h
  exact (w.obj n _ p h1 hp').2 k g a h2 ha
def val (hp : List O) : S → Option D
  | .d x => some x
  | .mu n => match hp[n]? with
    | some (.lst ds) => some (.lst ds)
    | _ => none
  | .ob n k => match nodeAt hp n k with
    | some (.lst xs) => (dsOf xs).map .lst
    | _ => none
  | .exn _ _ _ _ => none
@[simp] theorem val_d {hp : List O} {x : D} : val hp (.d x) = some x := rfl
theorem SRep.val {K : Frag} {α : Mp_} {hp : List O} {H : Hp} (w : WOk K α hp H) : ∀ {s : S} {v : V} {d : D}, SRep K α hp H s v → val hp s = some d → RepT K (Al α hp) H d v
  | .d x, v, d, h, e => by cases e; exact h.t
  | .mu n, v, d, ⟨p, h, q⟩, e => by
    simp only [Mp.val] at e
    cases g : hp[n]? with
    | none => rw [g] at e; cases e
    | some o =>
      rw [g] at e
      cases o with
      | lst ds =>
        cases e
        obtain ⟨_, vs, h1, h2⟩ := w.obj n _ p g h
        exact ⟨p.1, vs, q, h1, h2⟩
      | dct _ => cases e
      | reg _ => cases e
      | dtp _ => cases e
      | tbl _ => cases e
      | gone => cases e
  | .ob n k, v, d, ⟨p, a, h, ha, q⟩, e => by
    simp only [Mp.val] at e
    cases g : nodeAt hp n k with
    | none => rw [g] at e; cases e
    | some o =>
      rw [g] at e
      cases o with
      | lst xs =>
        obtain ⟨vs, h1, h2⟩ := w.node g h ha
        cases z : dsOf xs with
        | none => simp only [z] at e; cases e
        | some ds =>
          simp only [z] at e
          cases e
          exact ⟨a, vs, q, h1, h2.ds z⟩
      | ins _ _ => cases e
      | tup _ => cases e
      | dct _ => cases e
  | .exn _ _ _ _, _, _, _, e => by cases e
def mVar (i : Nat) : ME := fun s R _ => match s.env[i]? with
  | some (some v) => R v s.hp
  | _ => False
theorem sim_var {K : Frag} {W : WX} (i : Nat) : SimE K W (tVar i) (mVar i) := by
  intro α s H σ w e R Xp m Q q _
  unfold mVar at m
  cases g : s.env[i]? with
  | none => rw [g] at m; exact m.elim
  | some o =>
    rw [g] at m
    cases o with
    | none => exact m.elim
    | some x =>
      obtain ⟨v, h1, h2⟩ := e.2 i x g
      exact ⟨v, h1, q x s.hp α H v m Ext.refl w h2⟩
def mC (d : D) : ME := fun s R _ => R (.d d) s.hp
theorem sim_c {K : Frag} {W : WX} {v : V} {d : D} (h : ∀ A H, Rep K A H d v) : SimE K W (tC v) (mC d) := fun α s H σ w e R Xp m Q q _ => q _ _ α H v m Ext.refl w (h _ _)
theorem WOk.grown {K : Frag} {α : Mp_} {hp : List O} {H H' : Hp} (w : WOk K α hp H) (st : H' = H ∨ ∃ p o, H p = none ∧ H' = upd H p o) : Ext α hp H α hp H' ∧ WOk K α hp H' := by
  rcases st with rfl | ⟨p0, o, hn, rfl⟩
  · exact ⟨Ext.refl, w⟩
  · exact ⟨Ext.fresh hn, w.fresh hn⟩
abbrev F2 := D → D → (D → Prop) → Prop
def Sim2 (K : Frag) (r : R2) (f : F2) : Prop := ∀ (A : Av) (H : Hp) (d1 d2 : D) (v1 v2 : V), (∀ a, H a = none → ¬ A a) → RepT K A H d1 v1 → RepT K A H d2 v2 → ∀ P, f d1 d2 P → ∀ Q : VK, (∀ d v H', P d → Rep K A H' d v → (H' = H ∨ ∃ p o, H p = none ∧ H' = upd H p o) → Q v H') → r v1 v2 H Q
def m2 (f : F2) (Ma Mb : ME) : ME := fun s R Xp => Ma s (fun x hp1 => Mb { s with hp := hp1 } (fun y hp2 => on (val hp2 x) fun d1 => on (val hp2 y) fun d2 => f d1 d2 fun d => R (.d d) hp2) Xp) Xp
theorem sim_op {K : Frag} {W : WX} {r : R2} {f : F2} {ta tb : TE} {Ma Mb : ME} (hr : Sim2 K r f) (ha : SimE K W ta Ma) (hb : SimE K W tb Mb) : SimE K W (tOp r ta tb) (m2 f Ma Mb) := by
  intro α s H σ w e R Xp m Q q qx
  refine ha α s H σ w e _ _ m _ (fun x hp1 α1 H1 v1 m1 e1 w1 r1 => ?_) qx
  refine hb α1 { s with hp := hp1 } H1 σ w1 (e.mono e1) _ _ m1 _ (fun y hp2 α2 H2 v2 m2 e2 w2 r2 => ?_) (qx.at e1)
  have r1' := r1.mono e2
  obtain ⟨d1, g1, m2⟩ := on.ex m2
  obtain ⟨d2, g2, m2⟩ := on.ex m2
  refine hr _ H2 d1 d2 v1 v2 w2.non (r1'.val w2 g1) (r2.val w2 g2) _ m2 Q fun d v H' p rp st => ?_
  rcases st with rfl | ⟨p0, o, hn, rfl⟩
  · exact q _ _ α2 _ v p (e1.trans e2) w2 rp
  · exact q _ _ α2 _ v p ((e1.trans e2).trans (Ext.fresh hn)) (w2.fresh hn) rp
abbrev F1 := D → (D → Prop) → Prop
def Sim1 (K : Frag) (r : V → Hp → VK → Prop) (f : F1) : Prop := ∀ (A : Av) (H : Hp) (d1 : D) (v1 : V), (∀ a, H a = none → ¬ A a) → RepT K A H d1 v1 → ∀ P, f d1 P → ∀ Q : VK, (∀ d v H', P d → Rep K A H' d v → (H' = H ∨ ∃ p o, H p = none ∧ H' = upd H p o) → Q v H') → r v1 H Q
def m1 (f : F1) (Ma : ME) : ME := fun s R Xp => Ma s (fun x hp1 => on (val hp1 x) fun d1 => f d1 fun d => R (.d d) hp1) Xp
theorem sim_un {K : Frag} {W : WX} {r : V → Hp → VK → Prop} {f : F1} {ta : TE} {Ma : ME} (hr : Sim1 K r f) (ha : SimE K W ta Ma) : SimE K W (tUn r ta) (m1 f Ma) := by
  intro α s H σ w e R Xp m Q q qx
  refine ha α s H σ w e _ _ m _ (fun x hp1 α1 H1 v1 m1 e1 w1 r1 => ?_) qx
  obtain ⟨d1, g1, m1⟩ := on.ex m1
  all_goals
    refine hr _ H1 d1 v1 w1.non (r1.val w1 g1) _ m1 Q fun d v H' p rp st => ?_
    rcases st with rfl | ⟨p0, o, hn, rfl⟩
    · exact q _ _ α1 _ v p e1 w1 rp
    · exact q _ _ α1 _ v p (e1.trans (Ext.fresh hn)) (w1.fresh hn) rp
def mNil : MA := fun s R _ => R [] s.hp
def mCons (Ma : ME) (Mr : MA) : MA := fun s R Xp => Ma s (fun x hp1 => Mr { s with hp := hp1 } (fun xs hp2 => R (x :: xs) hp2) Xp) Xp
theorem sim_nil {K : Frag} {W : WX} : SimA K W tNil mNil := fun α s H σ w e R Xp m Q q _ => q _ _ α H [] m Ext.refl w .nil
theorem sim_cons {K : Frag} {W : WX} {ta : TE} {tr : TA} {Ma : ME} {Mr : MA} (ha : SimE K W ta Ma) (hr : SimA K W tr Mr) : SimA K W (tCons ta tr) (mCons Ma Mr) := by
  intro α s H σ w e R Xp m Q q qx
  refine ha α s H σ w e _ _ m _ (fun x hp1 α1 H1 v1 m1 e1 w1 r1 => ?_) qx
  refine hr α1 { s with hp := hp1 } H1 σ w1 (e.mono e1) _ _ m1 _ (fun xs hp2 α2 H2 vs m2 e2 w2 r2 => ?_) (qx.at e1)
  exact q _ _ α2 _ _ m2 (e1.trans e2) w2 (.cons (r1.mono e2) r2)
def vals (hp : List O) : List S → Option (List D)
  | [] => some []
  | x :: xs => match val hp x, vals hp xs with
    | some d, some ds => some (d :: ds)
    | _, _ => none
abbrev FN := List D → (D → Prop) → Prop
def RepTL (K : Frag) (A : Av) (H : Hp) : List D → List V → Prop := Paired (RepT K A H)
theorem SRepL.vals {K : Frag} {α : Mp_} {hp : List O} {H : Hp} (w : WOk K α hp H) : ∀ {ss : List S} {vs : List V} {ds : List D}, SRepL K α hp H ss vs → vals hp ss = some ds → RepTL K (Al α hp) H ds vs
  | [], _, ds, h, e => by cases h; cases e; exact .nil
  | x :: xs, _, ds, h, e => by
    cases h with
    | cons h t =>
      unfold Mp.vals at e
      cases g1 : val hp x with
      | none => rw [g1] at e; cases e
      | some d =>
        cases g2 : Mp.vals hp xs with
        | none => rw [g1, g2] at e; cases e
        | some es =>
          rw [g1, g2] at e
          cases e
          exact .cons (h.val w g1) (SRepL.vals w t g2)
def SimN (K : Frag) (r : List V → Hp → VK → Prop) (f : FN) : Prop := ∀ (A : Av) (H : Hp) (ds : List D) (vs : List V), (∀ a, H a = none → ¬ A a) → RepTL K A H ds vs → ∀ P, f ds P → ∀ Q : VK, (∀ d v H', P d → Rep K A H' d v → (H' = H ∨ ∃ p o, H p = none ∧ H' = upd H p o) → Q v H') → r vs H Q
def mN (f : FN) (Ma : MA) : ME := fun s R Xp => Ma s (fun xs hp1 => on (vals hp1 xs) fun ds => f ds fun d => R (.d d) hp1) Xp
theorem sim_cb {K : Frag} {W : WX} {r : List V → Hp → VK → Prop} {f : FN} {ta : TA} {Ma : MA} (hr : SimN K r f) (ha : SimA K W ta Ma) : SimE K W (tCB r ta) (mN f Ma) := by
  intro α s H σ w e R Xp m Q q qx
  refine ha α s H σ w e _ _ m _ (fun x hp1 α1 H1 v1 m1 e1 w1 r1 => ?_) qx
  obtain ⟨d1, g1, m1⟩ := on.ex m1
  all_goals
    refine hr _ H1 d1 v1 w1.non (r1.vals w1 g1) _ m1 Q fun d v H' p rp st => ?_
    rcases st with rfl | ⟨p0, o, hn, rfl⟩
    · exact q _ _ α1 _ v p e1 w1 rp
    · exact q _ _ α1 _ v p (e1.trans (Ext.fresh hn)) (w1.fresh hn) rp
def allD : List S → Option (List D)
  | [] => some []
  | .d x :: xs => match allD xs with
    | some ds => some (x :: ds)
    | _ => none
  | .mu _ :: _ => none
  | .ob _ _ :: _ => none
  | .exn _ _ _ _ :: _ => none
theorem SRepL.allD {K : Frag} {α : Mp_} {hp : List O} {H : Hp} : ∀ {ss : List S} {vs : List V} {ds : List D}, SRepL K α hp H ss vs → allD ss = some ds → RepL K (Al α hp) H ds vs
  | [], _, ds, h, e => by cases h; cases e; exact .nil
  | .d x :: xs, _, ds, h, e => by
    cases h with
    | cons h t =>
      unfold Mp.allD at e
      cases g2 : Mp.allD xs with
      | none => rw [g2] at e; cases e
      | some es =>
        rw [g2] at e
        cases e
        exact .cons h (SRepL.allD t g2)
  | .mu _ :: _, _, _, _, e => by cases e
  | .ob _ _ :: _, _, _, _, e => by cases e
  | .exn _ _ _ _ :: _, _, _, _, e => by cases e
def mTup (Ma : MA) : ME := fun s R Xp => Ma s (fun xs hp1 => on (allD xs) fun ds => ds.length ≤ sizeLine ∧ R (.d (.tup ds)) hp1) Xp
theorem sim_tup {K : Frag} {W : WX} {ta : TA} {Ma : MA} (ha : SimA K W ta Ma) : SimE K W (tTup ta) (mTup Ma) := by
  intro α s H σ w e R Xp m Q q qx
  refine ha α s H σ w e _ _ m _ (fun x hp1 α1 H1 v1 m1 e1 w1 r1 => ?_) qx
  obtain ⟨d1, g1, m1⟩ := on.ex m1
  all_goals
    have r2 := r1.allD g1
    refine ⟨by rw [← r2.length]; exact m1.1, fun p hn => ?_⟩
    have na : ¬ Al α1 hp1 p := fun z => by obtain ⟨o, ho⟩ := w1.there z; rw [hn] at ho; cases ho
    exact q _ _ α1 _ _ m1.2 (e1.trans (Ext.fresh hn)) (w1.fresh hn) ⟨p, v1, rfl, .inl ⟨upd_same, na⟩, RepL.mono (Step.fresh al_sub hn) _ _ r2⟩
def mLst (Ma : MA) : ME := fun s R Xp => Ma s (fun xs hp1 => on (allD xs) fun ds => ds.length ≤ sizeLine ∧ R (.d (.lst ds)) hp1) Xp
theorem sim_lst {K : Frag} {W : WX} {ta : TA} {Ma : MA} (ha : SimA K W ta Ma) : SimE K W (tLst ta) (mLst Ma) := by
  intro α s H σ w e R Xp m Q q qx
  refine ha α s H σ w e _ _ m _ (fun x hp1 α1 H1 v1 m1 e1 w1 r1 => ?_) qx
  obtain ⟨d1, g1, m1⟩ := on.ex m1
  all_goals
    have r2 := r1.allD g1
    refine ⟨by rw [← r2.length]; exact m1.1, fun p hn => ?_⟩
    have na : ¬ Al α1 hp1 p := fun z => by obtain ⟨o, ho⟩ := w1.there z; rw [hn] at ho; cases ho
    exact q _ _ α1 _ _ m1.2 (e1.trans (Ext.fresh hn)) (w1.fresh hn) ⟨p, v1, rfl, ⟨upd_same, na⟩, RepL.mono (Step.fresh al_sub hn) _ _ r2⟩
def Mp_.push (α : Mp_) (p : Addr × List Addr) : Mp_ := { α with own := α.own ++ [p] }
theorem mt_push {α : Mp_} {hp : List O} (hl : α.own.length = hp.length) {p : Addr × List Addr} {o : O} {a : Addr} : Mt (α.push p) (hp ++ [o]) a ↔ Mt α hp a ∨ (o ≠ .gone ∧ (a = p.1 ∨ a ∈ p.2)) := by
  constructor
  · rintro ⟨n, q, u, h1, h2, h3, h4⟩
    have h1 : (α.own ++ [p])[n]? = some q := h1
    by_cases hn : n < α.own.length
    · rw [List.getElem?_append_left hn] at h1
      rw [List.getElem?_append_left (by omega)] at h2
      exact .inl ⟨n, q, u, h1, h2, h3, h4⟩
    · have hx : n < (α.own ++ [p]).length := (List.getElem?_eq_some_iff.mp h1).1
      have en : n = α.own.length := by simp at hx; omega
      subst en
      rw [List.getElem?_append_right (Nat.le_refl _)] at h1
      rw [hl, List.getElem?_append_right (Nat.le_refl _)] at h2
      simp at h1 h2
      subst h1 h2
      exact .inr ⟨h3, h4⟩
  · rintro (⟨n, q, u, h1, h2, h3, h4⟩ | ⟨h3, h4⟩)
    · refine ⟨n, q, u, ?_, ?_, h3, h4⟩
      · show (α.own ++ [p])[n]? = _
        rw [List.getElem?_append_left (List.getElem?_eq_some_iff.mp h1).1]; exact h1
      · rw [List.getElem?_append_left (List.getElem?_eq_some_iff.mp h2).1]; exact h2
    · refine ⟨α.own.length, p, o, ?_, ?_, h3, h4⟩
      · show (α.own ++ [p])[α.own.length]? = _
        rw [List.getElem?_append_right (Nat.le_refl _)]; simp
      · rw [hl, List.getElem?_append_right (Nat.le_refl _)]; simp
theorem WOk.pushO {K : Frag} {α : Mp_} {hp : List O} {H H' : Hp} {p : Addr × List Addr} {o : O} (w : WOk K α hp H) (st : StepW α hp H (α.push p) (hp ++ [o]) H')
    (same : ∀ a, Al α hp a → H' a = H a) (na : ∀ a, (a = p.1 ∨ a ∈ p.2) → ¬ Al α hp a) (one : p.1 ∉ p.2 ∧ p.2.Nodup) (ho : OR K (Al (α.push p) (hp ++ [o])) H' p o) : WOk K (α.push p) (hp ++ [o]) H' := by
  have hl := w.len
  have cut : ∀ (n : Nat) (u : O) (q : Addr × List Addr), (hp ++ [o])[n]? = some u → (α.own ++ [p])[n]? = some q → (hp[n]? = some u ∧ α.own[n]? = some q) ∨ (n = hp.length ∧ u = o ∧ q = p) := fun n u q h1 h2 => by
    by_cases hn : n < hp.length
    · rw [List.getElem?_append_left hn] at h1
      rw [List.getElem?_append_left (by omega)] at h2
      exact .inl ⟨h1, h2⟩
    · have hx : n < (hp ++ [o]).length := (List.getElem?_eq_some_iff.mp h1).1
      have en : n = hp.length := by simp at hx; omega
      subst en
      rw [List.getElem?_append_right (Nat.le_refl _)] at h1
      rw [← hl, List.getElem?_append_right (Nat.le_refl _)] at h2
      simp at h1 h2
      exact .inr ⟨rfl, h1.symm, h2.symm⟩
  refine ⟨by show (α.own ++ [p]).length = _; simp [hl], fun n u q h1 h2 => ?_, fun n u q h1 h2 hg => ?_, fun m n u u' q q' h1 h2 h3 h4 h5 h6 hne a ha hb => ?_, fun a ha => ?_⟩
  · rcases cut n u q h1 h2 with ⟨h1, h2⟩ | ⟨_, rfl, rfl⟩
    · exact (w.obj n u q h1 h2).mono st fun hg b hb => same b (.inl ⟨n, q, u, h2, h1, hg, hb⟩)
    · exact ho
  · rcases cut n u q h1 h2 with ⟨h1, h2⟩ | ⟨_, rfl, rfl⟩
    · exact w.one n u q h1 h2 hg
    · exact one
  · rcases cut m u q h1 h2 with ⟨h1, h2⟩ | ⟨e1, rfl, rfl⟩
    · rcases cut n u' q' h4 h5 with ⟨h4, h5⟩ | ⟨e2, z1, z2⟩
      · exact w.inj m n u u' q q' h1 h2 h3 h4 h5 h6 hne a ha hb
      · rw [z2] at hb; exact na a hb (.inl ⟨m, q, u, h2, h1, h3, ha⟩)
    · rcases cut n u' q' h4 h5 with ⟨h4, h5⟩ | ⟨e2, rfl, rfl⟩
      · exact na a ha (.inl ⟨n, q', u', h5, h4, h6, hb⟩)
      · exact hne (e1.trans e2.symm)
  · have ha : α.ban a := ha
    obtain ⟨⟨x, hx⟩, hm⟩ := w.ban a ha
    refine ⟨⟨x, by rw [same a (.inr ha)]; exact hx⟩, fun z => ?_⟩
    rcases (mt_push hl).mp z with z | ⟨_, z⟩
    · exact hm z
    · exact na a z (.inr ha)
theorem Ext.push {α : Mp_} {hp : List O} {H H' : Hp} {p : Addr × List Addr} {o : O} (st : StepW α hp H (α.push p) (hp ++ [o]) H') (hn : H p.1 = none) : Ext α hp H (α.push p) (hp ++ [o]) H' :=
  ⟨⟨OwnLe.app _ _, rfl⟩, st, fun n q h e => by
    have e : (α.own ++ [p])[n]? = some q := e
    rw [List.getElem?_append_right h] at e
    cases z : n - α.own.length with
    | zero => rw [z] at e; cases e; exact hn
    | succ k => rw [z] at e; cases e⟩
theorem WOk.pushLst {K : Frag} {α : Mp_} {hp : List O} {H : Hp} {p : Addr} {ds : List D} {vs : List V} (w : WOk K α hp H) (hn : H p = none) (r : RepL K (Al α hp) H ds vs) :
    WOk K (α.push (p, [])) (hp ++ [.lst ds]) (upd H p (.lst vs)) ∧ Ext α hp H (α.push (p, [])) (hp ++ [.lst ds]) (upd H p (.lst vs)) := by
  have mt : ∀ a, Mt (α.push (p, [])) (hp ++ [.lst ds]) a → Mt α hp a ∨ a = p := fun a h => by
    rcases (mt_push w.len).mp h with h | ⟨_, h⟩
    · exact .inl h
    · rcases h with h | h
      · exact .inr h
      · cases h
  have na : ¬ Al α hp p := w.non p hn
  have st : StepW α hp H (α.push (p, [])) (hp ++ [.lst ds]) (upd H p (.lst vs)) := ⟨(Step.fresh (A := Al α hp) (M := Mt α hp) al_sub hn).keep, fun a h => by
    rcases h with h | h
    · exact (mt a h).imp .inl fun e => by rw [e]; exact hn
    · exact .inl (.inr h), fun a h => (mt a h).imp id fun e => by rw [e]; exact hn, al_sub, (Step.fresh (A := Al α hp) (M := Mt α hp) al_sub hn).stay⟩
  refine ⟨w.pushO st (fun a h => upd_ne fun e => na (e ▸ h)) (fun a h => ?_) ⟨by simp, by simp⟩ ⟨rfl, vs, upd_same, RepL.mono st _ _ r⟩, Ext.push st hn⟩
  rcases h with h | h
  · rw [h]; exact na
  · cases h
def mLstM (Ma : MA) : ME := fun s R Xp => Ma s (fun xs hp1 => on (allD xs) fun ds => ds.length ≤ sizeLine ∧ R (.mu hp1.length) (hp1 ++ [.lst ds])) Xp
theorem sim_lstM {K : Frag} {W : WX} {ta : TA} {Ma : MA} (ha : SimA K W ta Ma) : SimE K W (tLst ta) (mLstM Ma) := by
  intro α s H σ w e R Xp m Q q qx
  refine ha α s H σ w e _ _ m _ (fun x hp1 α1 H1 v1 m1 e1 w1 r1 => ?_) qx
  obtain ⟨d1, g1, m1⟩ := on.ex m1
  all_goals
    have r2 := r1.allD g1
    refine ⟨by rw [← r2.length]; exact m1.1, fun p hn => ?_⟩
    obtain ⟨w2, e2⟩ := w1.pushLst hn r2
    exact q _ _ _ _ _ m1.2 (e1.trans e2) w2 ⟨(p, []), by show (α1.own ++ [(p, [])])[hp1.length]? = _; rw [← w1.len, List.getElem?_append_right (Nat.le_refl _)]; simp, rfl⟩
def asB : S → Option Bool
  | .d (.bl b) => some b
  | _ => none
theorem SRep.asB {K : Frag} {α : Mp_} {hp : List O} {H : Hp} {s : S} {v : V} {b : Bool} (h : SRep K α hp H s v) (e : asB s = some b) : v = .bl b := by
  unfold Mp.asB at e
  split at e
  · cases e; exact h
  · cases e
def mTest (Ma : ME) : MT := fun s R Xp => Ma s (fun x hp1 => on (asB x) fun b => R b hp1) Xp
theorem sim_test {K : Frag} {W : WX} {ta : TE} {Ma : ME} (ha : SimE K W ta Ma) : SimT K W (tTest ta) (mTest Ma) := by
  intro α s H σ w e R Xp m Q q qx
  refine ha α s H σ w e _ _ m _ (fun x hp1 α1 H1 v1 m1 e1 w1 r1 => ?_) qx
  obtain ⟨b, g1, m1⟩ := on.ex m1
  exact ⟨b, r1.asB g1, q _ _ α1 _ m1 e1 w1⟩
theorem sim_tB {K : Frag} {W : WX} {ta : TE} {Ma : ME} (ha : SimE K W ta Ma) : SimT K W (tB ta) (mTest Ma) := sim_test ha
def mAnd (Ma Mb : MT) : MT := fun s R Xp => Ma s (fun b hp1 => if b = true then Mb { s with hp := hp1 } R Xp else R false hp1) Xp
def mOr (Ma Mb : MT) : MT := fun s R Xp => Ma s (fun b hp1 => if b = true then R true hp1 else Mb { s with hp := hp1 } R Xp) Xp
def mNot (Ma : MT) : MT := fun s R Xp => Ma s (fun b hp1 => R (!b) hp1) Xp
theorem sim_and {K : Frag} {W : WX} {t u : TT} {Ma Mb : MT} (ha : SimT K W t Ma) (hb : SimT K W u Mb) : SimT K W (tAnd t u) (mAnd Ma Mb) := by
  intro α s H σ w e R Xp m Q q qx
  refine ha α s H σ w e _ _ m _ (fun b hp1 α1 H1 m1 e1 w1 => ?_) qx
  cases b with
  | true => exact hb α1 { s with hp := hp1 } H1 σ w1 (e.mono e1) _ _ m1 _ (q.at e1) (qx.at e1)
  | false => exact q _ _ α1 _ m1 e1 w1
theorem sim_or {K : Frag} {W : WX} {t u : TT} {Ma Mb : MT} (ha : SimT K W t Ma) (hb : SimT K W u Mb) : SimT K W (tOr t u) (mOr Ma Mb) := by
  intro α s H σ w e R Xp m Q q qx
  refine ha α s H σ w e _ _ m _ (fun b hp1 α1 H1 m1 e1 w1 => ?_) qx
  cases b with
  | true => exact q _ _ α1 _ m1 e1 w1
  | false => exact hb α1 { s with hp := hp1 } H1 σ w1 (e.mono e1) _ _ m1 _ (q.at e1) (qx.at e1)
theorem sim_not {K : Frag} {W : WX} {t : TT} {Ma : MT} (ha : SimT K W t Ma) : SimT K W (tNot t) (mNot Ma) := by
  intro α s H σ w e R Xp m Q q qx
  exact ha α s H σ w e _ _ m _ (fun b hp1 α1 H1 m1 e1 w1 => q _ _ α1 _ m1 e1 w1) qx
def mAndV (Ma Mb : ME) : ME := fun s R Xp => Ma s (fun x hp1 => on (asB x) fun b => if b = true then Mb { s with hp := hp1 } R Xp else R (.d (.bl false)) hp1) Xp
def mOrV (Ma Mb : ME) : ME := fun s R Xp => Ma s (fun x hp1 => on (asB x) fun b => if b = true then R (.d (.bl true)) hp1 else Mb { s with hp := hp1 } R Xp) Xp
theorem sim_andV {K : Frag} {W : WX} {t u : TE} {Ma Mb : ME} (ha : SimE K W t Ma) (hb : SimE K W u Mb) : SimE K W (tAndV t u) (mAndV Ma Mb) := by
  intro α s H σ w e R Xp m Q q qx
  refine ha α s H σ w e _ _ m _ (fun x hp1 α1 H1 v1 m1 e1 w1 r1 => ?_) qx
  obtain ⟨b, g1, m1⟩ := on.ex m1
  all_goals
    refine ⟨b, r1.asB g1, ?_⟩
    cases b with
    | true => exact hb α1 { s with hp := hp1 } H1 σ w1 (e.mono e1) _ _ m1 _ (q.at e1) (qx.at e1)
    | false => exact q _ _ α1 _ _ m1 e1 w1 rfl
theorem sim_orV {K : Frag} {W : WX} {t u : TE} {Ma Mb : ME} (ha : SimE K W t Ma) (hb : SimE K W u Mb) : SimE K W (tOrV t u) (mOrV Ma Mb) := by
  intro α s H σ w e R Xp m Q q qx
  refine ha α s H σ w e _ _ m _ (fun x hp1 α1 H1 v1 m1 e1 w1 r1 => ?_) qx
  obtain ⟨b, g1, m1⟩ := on.ex m1
  all_goals
    refine ⟨b, r1.asB g1, ?_⟩
    cases b with
    | true => exact q _ _ α1 _ _ m1 e1 w1 rfl
    | false => exact hb α1 { s with hp := hp1 } H1 σ w1 (e.mono e1) _ _ m1 _ (q.at e1) (qx.at e1)
def mIf (Mc : MT) (Ma Mb : ME) : ME := fun s R Xp => Mc s (fun b hp1 => if b = true then Ma { s with hp := hp1 } R Xp else Mb { s with hp := hp1 } R Xp) Xp
theorem sim_if {K : Frag} {W : WX} {c : TT} {t u : TE} {Mc : MT} {Ma Mb : ME} (hc : SimT K W c Mc) (ha : SimE K W t Ma) (hb : SimE K W u Mb) : SimE K W (tIf c t u) (mIf Mc Ma Mb) := by
  intro α s H σ w e R Xp m Q q qx
  refine hc α s H σ w e _ _ m _ (fun b hp1 α1 H1 m1 e1 w1 => ?_) qx
  cases b with
  | true => exact ha α1 { s with hp := hp1 } H1 σ w1 (e.mono e1) _ _ m1 _ (q.at e1) (qx.at e1)
  | false => exact hb α1 { s with hp := hp1 } H1 σ w1 (e.mono e1) _ _ m1 _ (q.at e1) (qx.at e1)
end Mp
set_option Elab.async false
set_option linter.all false
set_option maxRecDepth 100000
set_option maxHeartbeats 4000000
namespace Mp
open PySem PySem.Spec PyProof.Rows L2
theorem OpR.or {X : Cx} {f : Value → Value → Sem Value} {r r' : R2} (h : OpR X f r) (h' : OpR X f r') : OpR X f (fun x y H Q => r x y H Q ∨ r' x y H Q) := by
  intro pins s σ H x y v u Q I rx ry q
  rcases q with q | q
  · exact h pins s σ H x y v u Q I rx ry q
  · exact h' pins s σ H x y v u Q I rx ry q
theorem CallR.or {X : Cx} {f : Value} {r r' : List V → Hp → VK → Prop} (h : CallR X f r) (h' : CallR X f r') : CallR X f (fun x H Q => r x H Q ∨ r' x H Q) := by
  intro pins s σ H xs us Q I rx q
  rcases q with q | q
  · exact h pins s σ H xs us Q I rx q
  · exact h' pins s σ H xs us Q I rx q
def fI (C : Int → Int → Prop) (g : Int → Int → D) : F2 := fun a b P => match a, b with
  | .int i, .int j => C i j ∧ P (g i j)
  | _, _ => False
@[simp] theorem fI_int {C : Int → Int → Prop} {g : Int → Int → D} {i j : Int} {P : D → Prop} : fI C g (.int i) (.int j) P = (C i j ∧ P (g i j)) := rfl
theorem sim_I {K : Frag} {C : Int → Int → Prop} {g : Int → Int → D} {g' : Int → Int → V} (hg : ∀ A H i j, Rep K A H (g i j) (g' i j)) : Sim2 K (rI C g') (fI C g) := by
  intro A H d1 d2 v1 v2 _ r1 r2 P p Q q
  cases d1 <;> cases d2 <;> first | exact p.elim | (cases r1; cases r2; exact ⟨_, _, rfl, rfl, p.1, q _ _ _ p.2 (hg _ _ _ _) (.inl rfl)⟩)
def fI0 (g : Int → Int → D) : F2 := fun a b P => match a, b with
  | .int i, .int j => P (g i j)
  | _, _ => False
@[simp] theorem fI0_int {g : Int → Int → D} {i j : Int} {P : D → Prop} : fI0 g (.int i) (.int j) P = P (g i j) := rfl
theorem sim_I0 {K : Frag} {g : Int → Int → D} {g' : Int → Int → V} (hg : ∀ A H i j, Rep K A H (g i j) (g' i j)) : Sim2 K (rI0 g') (fI0 g) := by
  intro A H d1 d2 v1 v2 _ r1 r2 P p Q q
  cases d1 <;> cases d2 <;> first | exact p.elim | (cases r1; cases r2; exact ⟨_, _, rfl, rfl, q _ _ _ p (hg _ _ _ _) (.inl rfl)⟩)
def fAdd : F2 := fun a b P => match a, b with
  | .int i, .int j => P (.int (i + j))
  | .str x, .str y => x.length + y.length ≤ sizeLine ∧ P (.str (x ++ y))
  | .lst x, .lst y => x.length + y.length ≤ sizeLine ∧ P (.lst (x ++ y))
  | .tup x, .tup y => x.length + y.length ≤ sizeLine ∧ P (.tup (x ++ y))
  | _, _ => False
@[simp] theorem fAdd_int {i j : Int} {P : D → Prop} : fAdd (.int i) (.int j) P = P (.int (i + j)) := rfl
@[simp] theorem fAdd_str {i j : Str} {P : D → Prop} : fAdd (.str i) (.str j) P = (i.length + j.length ≤ sizeLine ∧ P (.str (i ++ j))) := rfl
@[simp] theorem fAdd_lst {i j : List D} {P : D → Prop} : fAdd (.lst i) (.lst j) P = (i.length + j.length ≤ sizeLine ∧ P (.lst (i ++ j))) := rfl
@[simp] theorem fAdd_tup {i j : List D} {P : D → Prop} : fAdd (.tup i) (.tup j) P = (i.length + j.length ≤ sizeLine ∧ P (.tup (i ++ j))) := rfl
def rAddS2 : R2 := fun x y H Q => ∃ i j, x = .str i ∧ y = .str j ∧ i.length + j.length ≤ sizeLine ∧ Q (.str (i ++ j)) H
def rAddA (K : Frag) : R2 := fun x y H Q => rI0 (fun i j => .int (i + j)) x y H Q ∨ rAddS2 x y H Q ∨ rCat x y H Q ∨ rCatA K x y H Q
theorem op_addA {X : Cx} : OpR X (binaryOp .Add) (rAddA X.K) := OpR.or op_add (OpR.or op_add_str (OpR.or op_cat op_catA))
theorem tup_sq {K : Frag} {A : Av} {H : Hp} {ds : List D} {v : V} (h : Rep K A H (.tup ds) v) : ∃ a vs, v = .ref a ∧ SqT K H a vs ∧ RepL K A H ds vs := by
  obtain ⟨a, vs, e, h, r⟩ := h
  refine ⟨a, vs, e, ?_, r⟩
  rcases h with h | h
  · exact .inl (.inl h.1)
  · rcases h with h | h
    · rcases h with h | ⟨_, h⟩ <;> cases h
    · exact .inr h
theorem fl_sq {K : Frag} {A : Av} {H : Hp} {ds : List D} {v : V} (h : Rep K A H (.fl ds) v) : ∃ a vs, v = .ref a ∧ SqL K H a vs ∧ RepL K A H ds vs := by
  obtain ⟨a, vs, e, h, r⟩ := h
  refine ⟨a, vs, e, ?_, r⟩
  rcases h with h | h
  · exact .inl h.1
  · rcases h with h | h
    · rcases h with h | ⟨_, h⟩ <;> cases h
    · exact .inr h
theorem new_lst {K : Frag} {A : Av} {H : Hp} {ds : List D} {vs : List V} {p : Addr} (hA : ∀ a, H a = none → ¬ A a) (hn : H p = none) (r : RepL K A H ds vs) : Rep K A (upd H p (.lst vs)) (.lst ds) (.ref p) :=
  ⟨p, vs, rfl, ⟨upd_same, hA p hn⟩, RepL.mono (Step.fresh (M := noA) (fun _ z => z.elim) hn) _ _ r⟩
theorem new_tup {K : Frag} {A : Av} {H : Hp} {ds : List D} {vs : List V} {p : Addr} (hA : ∀ a, H a = none → ¬ A a) (hn : H p = none) (r : RepL K A H ds vs) : Rep K A (upd H p (.tup vs)) (.tup ds) (.ref p) :=
  ⟨p, vs, rfl, .inl ⟨upd_same, hA p hn⟩, RepL.mono (Step.fresh (M := noA) (fun _ z => z.elim) hn) _ _ r⟩
theorem sim_add {K : Frag} : Sim2 K (rAddA K) fAdd := by
  intro A H d1 d2 v1 v2 hA r1 r2 P p Q q
  cases d1 with
  | int i =>
    cases d2 with
    | int j => cases r1; cases r2; exact .inl ⟨_, _, rfl, rfl, q _ _ _ p rfl (.inl rfl)⟩
    | _ => exact p.elim
  | str i =>
    cases d2 with
    | str j => cases r1; cases r2; exact .inr (.inl ⟨_, _, rfl, rfl, p.1, q _ _ _ p.2 rfl (.inl rfl)⟩)
    | _ => exact p.elim
  | lst i =>
    cases d2 with
    | lst j =>
      obtain ⟨a, vs, rfl, h1, k1⟩ := r1
      obtain ⟨b, us, rfl, h2, k2⟩ := r2
      exact .inr (.inr (.inl ⟨a, b, vs, us, rfl, rfl, h1, h2, by rw [← k1.length, ← k2.length]; exact p.1, fun l hl => q _ _ _ p.2 (new_lst hA hl (k1.append k2)) (.inr ⟨l, _, hl, rfl⟩)⟩))
    | _ => exact p.elim
  | tup i =>
    cases d2 with
    | tup j =>
      obtain ⟨a, vs, e1, h1, k1⟩ := tup_sq (r1 : Rep K A H (.tup i) v1)
      obtain ⟨b, us, e2, h2, k2⟩ := tup_sq (r2 : Rep K A H (.tup j) v2)
      refine .inr (.inr (.inr ⟨a, b, vs, us, e1, e2, h1, h2, by rw [← k1.length, ← k2.length]; exact p.1, fun z => ?_, fun z1 z => ?_, fun _ _ l hl => q _ _ _ p.2 (new_tup hA hl (k1.append k2)) (.inr ⟨l, _, hl, rfl⟩)⟩))
      · subst z
        have e : i = [] := List.eq_nil_of_length_eq_zero (by have := k1.length; simpa using this)
        subst e
        exact q _ _ _ p.2 (e2 ▸ r2) (.inl rfl)
      · subst z
        have e : j = [] := List.eq_nil_of_length_eq_zero (by have := k2.length; simpa using this)
        subst e
        refine q _ _ _ p.2 ?_ (.inl rfl)
        rw [List.append_nil]
        exact e1 ▸ r1
    | _ => exact p.elim
  | _ => exact p.elim
def fMul : F2 := fun a b P => match a, b with
  | .int i, .int j => (CMul i j ∨ CMulW i j) ∧ P (.int (i * j))
  | .lst x, .int k => -(2 ^ 63) ≤ k ∧ k < 2 ^ 63 ∧ x.length * k.toNat ≤ sizeLine ∧ P (.lst (List.flatten (List.replicate k.toNat x)))
  | .str x, .int k => MulOk x k ∧ P (.str (Txt.mul x k))
  | _, _ => False
@[simp] theorem fMul_str {x : Str} {k : Int} {P : D → Prop} : fMul (.str x) (.int k) P = (MulOk x k ∧ P (.str (Txt.mul x k))) := rfl
@[simp] theorem fMul_int {i j : Int} {P : D → Prop} : fMul (.int i) (.int j) P = ((CMul i j ∨ CMulW i j) ∧ P (.int (i * j))) := rfl
@[simp] theorem fMul_lst {x : List D} {k : Int} {P : D → Prop} : fMul (.lst x) (.int k) P = (-(2 ^ 63) ≤ k ∧ k < 2 ^ 63 ∧ x.length * k.toNat ≤ sizeLine ∧ P (.lst (List.flatten (List.replicate k.toNat x)))) := rfl
theorem RepL.flat {K : Frag} {A : Av} {H : Hp} {ds : List D} {vs : List V} (r : RepL K A H ds vs) : ∀ n : Nat, RepL K A H (List.flatten (List.replicate n ds)) (List.flatten (List.replicate n vs))
  | 0 => rfl
  | n + 1 => by rw [List.replicate_succ, List.replicate_succ, List.flatten_cons, List.flatten_cons]; exact r.append (RepL.flat r n)
def rMulS : R2 := fun x y H Q => ∃ (a : Str) (k : Int), x = .str a ∧ y = .int k ∧ MulOk a k ∧ Q (.str (Txt.mul a k)) H
theorem op_mulS {X : Cx} : OpR X (binaryOp .Mult) rMulS := by
  intro pins s σ H x y v u Q I rx ry h
  obtain ⟨a, k, rfl, rfl, hz, q⟩ := h
  obtain ⟨t, rfl⟩ := rx
  obtain ⟨t', rfl⟩ := ry
  exact SB.mul hz fun t' tk => ⟨.str (Txt.mul a k), H, I.tok _, ⟨_, rfl⟩, q⟩
def rMulA : R2 := fun x y H Q => rI CMul (fun i j => .int (i * j)) x y H Q ∨ rI CMulW (fun i j => .int (i * j)) x y H Q ∨ rRep x y H Q ∨ rMulS x y H Q
theorem op_mulA {X : Cx} : OpR X (binaryOp .Mult) rMulA := OpR.or op_mul (OpR.or op_mulW (OpR.or op_rep op_mulS))
theorem sim_mul {K : Frag} : Sim2 K rMulA fMul := by
  intro A H d1 d2 v1 v2 hA r1 r2 P p Q q
  cases d1 with
  | int i =>
    cases d2 with
    | int j =>
      cases r1; cases r2
      rcases p.1 with c | c
      · exact .inl ⟨_, _, rfl, rfl, c, q _ _ _ p.2 rfl (.inl rfl)⟩
      · exact .inr (.inl ⟨_, _, rfl, rfl, c, q _ _ _ p.2 rfl (.inl rfl)⟩)
    | _ => exact p.elim
  | lst i =>
    cases d2 with
    | int j =>
      obtain ⟨a, vs, rfl, h1, k1⟩ := r1
      cases r2
      obtain ⟨p1, p2, p3, p4⟩ := p
      exact .inr (.inr (.inl ⟨a, _, vs, rfl, rfl, h1, p1, p2, by rw [← k1.length]; exact p3, fun l hl => q _ _ _ p4 (new_lst hA hl (k1.flat _)) (.inr ⟨l, _, hl, rfl⟩)⟩))
    | _ => exact p.elim
  | str i =>
    cases d2 with
    | int j =>
      cases r1; cases r2
      exact .inr (.inr (.inr ⟨_, _, rfl, rfl, p.1, q _ _ _ p.2 rfl (.inl rfl)⟩))
    | _ => exact p.elim
  | _ => exact p.elim
mutual
def D.py : D → PyData
  | .non => .none
  | .bl b => .bool b
  | .int i => .int i
  | .str x => .str x
  | .ty _ => .dict []
  | .tup ds => .tuple (D.pyL ds)
  | .lst ds => .list (D.pyL ds)
  | .fl ds => .list (D.pyL ds)
  | .obj _ _ _ => .dict []
def D.pyL : List D → List PyData
  | [] => []
  | d :: ds => D.py d :: D.pyL ds
end
def eqD (a b : D) : Bool := PyData.eqv a.py b.py
def shD (d : D) : Bool := SeqAt.shaped d.py
mutual
theorem Rep.dp {K : Frag} {A : Av} {H : Hp} : ∀ (d : D) (v : V), d.py.canLay0 = true → Rep K A H d v → Dp K H v d.py
  | .non, _, _, h => by cases h; exact .non
  | .bl b, _, _, h => by cases h; exact .bl b
  | .int b, _, _, h => by cases h; exact .int b
  | .str b, _, _, h => by cases h; exact .str b
  | .ty b, _, z, h => by simp [D.py, PyData.canLay0] at z
  | .obj _ _ _, _, z, h => by simp [D.py, PyData.canLay0] at z
  | .tup ds, v, z, h => by
    obtain ⟨a, vs, e, h1, r⟩ := tup_sq h
    subst e
    exact .tup h1 (RepL.dp ds vs (by simpa [D.py, PyData.canLay0] using z) r)
  | .lst ds, v, z, h => by
    obtain ⟨a, vs, e, h1, r⟩ := h
    subst e
    exact .lst (.inl (.inl h1.1)) (RepL.dp ds vs (by simpa [D.py, PyData.canLay0] using z) r)
  | .fl ds, v, z, h => by
    obtain ⟨a, vs, e, h1, r⟩ := fl_sq h
    subst e
    exact .lst h1 (RepL.dp ds vs (by simpa [D.py, PyData.canLay0] using z) r)
theorem RepL.dp {K : Frag} {A : Av} {H : Hp} : ∀ (ds : List D) (vs : List V), PyData.canLayAll0 (D.pyL ds) = true → RepL K A H ds vs → DpAll K H vs (D.pyL ds)
  | [], _, _, h => by cases h; exact .nil
  | d :: ds, _, z, ⟨v, r, e, h, t⟩ => by
    subst e
    have z2 : d.py.canLay0 = true ∧ PyData.canLayAll0 (D.pyL ds) = true := by simpa [D.pyL, PyData.canLayAll0] using z
    exact .cons (Rep.dp d v z2.1 h) (RepL.dp ds r z2.2 t)
end
theorem RepT.dp {K : Frag} {A : Av} {H : Hp} {d : D} {v : V} (z : shD d = true) (h : RepT K A H d v) : Dp K H v d.py := by
  have z1 := SeqAt.canLay_of_shaped z
  cases d with
  | lst ds =>
    obtain ⟨a, vs, e, h1, r⟩ := h
    subst e
    exact .lst (.inl (.inl h1)) (RepL.dp ds vs (by simpa [D.py, PyData.canLay0] using z1) r)
  | non => exact Rep.dp (A := A) _ _ z1 h
  | bl _ => exact Rep.dp (A := A) _ _ z1 h
  | int _ => exact Rep.dp (A := A) _ _ z1 h
  | str _ => exact Rep.dp (A := A) _ _ z1 h
  | ty _ => exact Rep.dp (A := A) _ _ z1 h
  | tup _ => exact Rep.dp (A := A) _ _ z1 h
  | fl _ => exact Rep.dp (A := A) _ _ z1 h
  | obj _ _ _ => exact Rep.dp (A := A) _ _ z1 h
def fEq : F2 := fun a b P => shD a = true ∧ shD b = true ∧ P (.bl (eqD a b))
def fNe : F2 := fun a b P => shD a = true ∧ shD b = true ∧ P (.bl (!eqD a b))
theorem sim_eq {K : Frag} : Sim2 K (rEqD K) fEq := by
  intro A H d1 d2 v1 v2 hA r1 r2 P p Q q
  exact ⟨_, _, r1.dp p.1, r2.dp p.2.1, p.1, p.2.1, q _ _ _ p.2.2 rfl (.inl rfl)⟩
theorem sim_ne {K : Frag} : Sim2 K (rNeD K) fNe := by
  intro A H d1 d2 v1 v2 hA r1 r2 P p Q q
  exact ⟨_, _, r1.dp p.1, r2.dp p.2.1, p.1, p.2.1, q _ _ _ p.2.2 rfl (.inl rfl)⟩
def isNon : D → Bool
  | .non => true
  | _ => false
theorem RepT.isNon {K : Frag} {A : Av} {H : Hp} {d : D} {v : V} (h : RepT K A H d v) : decide (v = .non) = isNon d := by
  cases d with
  | non => cases h; rfl
  | bl b => cases h; rfl
  | int b => cases h; rfl
  | str b => cases h; rfl
  | ty b => cases h; rfl
  | tup ds => obtain ⟨a, vs, e, _⟩ := h; subst e; rfl
  | fl ds => obtain ⟨a, vs, e, _⟩ := h; subst e; rfl
  | lst ds => obtain ⟨a, vs, e, _⟩ := h; subst e; rfl
  | obj _ _ _ => obtain ⟨a, vs, dx, e, _⟩ := h; subst e; rfl
def fIsN : F2 := fun a b P => match b with
  | .non => P (.bl (isNon a))
  | _ => False
@[simp] theorem fIsN_non {a : D} {P : D → Prop} : fIsN a .non P = P (.bl (isNon a)) := rfl
def rIsNo : R2 := fun x y H Q => y = .non ∧ Q (.bl (decide (x = .non))) H
theorem sim_isN {K : Frag} : Sim2 K rIsNo fIsN := by
  intro A H d1 d2 v1 v2 hA r1 r2 P p Q q
  cases d2 <;> first | exact p.elim | (cases r2; exact ⟨rfl, by rw [r1.isNon]; exact q _ _ _ p rfl (.inl rfl)⟩)
def flatD : D → Bool
  | .non => true
  | .bl _ => true
  | .int _ => true
  | .str _ => true
  | _ => false
def eqF : D → D → Bool
  | .non, .non => true
  | .bl a, .bl b => a == b
  | .bl a, .int b => (if a then 1 else 0) == b
  | .int a, .bl b => a == (if b then 1 else 0)
  | .int a, .int b => a == b
  | .str a, .str b => a == b
  | _, _ => false
theorem Rep.flat {K : Frag} {A : Av} {H : Hp} {d : D} {v : V} (h : Rep K A H d v) (f : flatD d = true) : flatV v = true := by
  cases d with
  | non => cases h; rfl
  | bl _ => cases h; rfl
  | int _ => cases h; rfl
  | str _ => cases h; rfl
  | _ => exact absurd f (by simp [flatD])
theorem RepL.flatAll {K : Frag} {A : Av} {H : Hp} : ∀ {ds : List D} {vs : List V}, RepL K A H ds vs → ds.all flatD = true → vs.all flatV = true
  | [], _, h, _ => by cases h; rfl
  | d :: ds, _, ⟨v, r, e, h, t⟩, f => by
    subst e
    rw [List.all_cons, Bool.and_eq_true] at f ⊢
    exact ⟨h.flat f.1, RepL.flatAll t f.2⟩
theorem eqF_of {K : Frag} {A : Av} {H : Hp} {d e : D} {v u : V} (h : Rep K A H d v) (g : Rep K A H e u) (f : flatD d = true) (f' : flatD e = true) : eqV v u = eqF d e := by
  cases d with
  | non => cases e with
    | non => cases h; cases g; rfl
    | bl _ => cases h; cases g; rfl
    | int _ => cases h; cases g; rfl
    | str _ => cases h; cases g; rfl
    | _ => exact absurd f' (by simp [flatD])
  | bl _ => cases e with
    | non => cases h; cases g; rfl
    | bl _ => cases h; cases g; rfl
    | int _ => cases h; cases g; rfl
    | str _ => cases h; cases g; rfl
    | _ => exact absurd f' (by simp [flatD])
  | int _ => cases e with
    | non => cases h; cases g; rfl
    | bl _ => cases h; cases g; rfl
    | int _ => cases h; cases g; rfl
    | str _ => cases h; cases g; rfl
    | _ => exact absurd f' (by simp [flatD])
  | str _ => cases e with
    | non => cases h; cases g; rfl
    | bl _ => cases h; cases g; rfl
    | int _ => cases h; cases g; rfl
    | str _ => cases h; cases g; rfl
    | _ => exact absurd f' (by simp [flatD])
  | _ => exact absurd f (by simp [flatD])
theorem inF_of {K : Frag} {A : Av} {H : Hp} {e : D} {u : V} (g : Rep K A H e u) (f' : flatD e = true) : ∀ {ds : List D} {vs : List V}, RepL K A H ds vs → ds.all flatD = true → inV u vs = ds.any fun y => eqF y e
  | [], _, h, _ => by cases h; rfl
  | d :: ds, _, ⟨v, r, q, h, t⟩, f => by
    subst q
    rw [List.all_cons, Bool.and_eq_true] at f
    show (eqV v u || inV u r) = _
    rw [List.any_cons, eqF_of h g f.1 f', inF_of g f' t f.2]
def inD (x : D) (ds : List D) : Bool := ds.any fun y => eqF y x
def items : D → Option (List D)
  | .tup ds => some ds
  | .lst ds => some ds
  | .fl ds => some ds
  | _ => none
@[simp] theorem items_tup {ds : List D} : items (.tup ds) = some ds := rfl
@[simp] theorem items_lst {ds : List D} : items (.lst ds) = some ds := rfl
@[simp] theorem items_fl {ds : List D} : items (.fl ds) = some ds := rfl
theorem RepT.items {K : Frag} {A : Av} {H : Hp} {d : D} {v : V} {ds : List D} (h : RepT K A H d v) (e : items d = some ds) : ∃ a vs, v = .ref a ∧ (SqL K H a vs ∨ SqT K H a vs) ∧ RepL K A H ds vs := by
  cases d with
  | tup ds => cases e; obtain ⟨a, vs, e1, h1, r⟩ := tup_sq (h : Rep K A H (.tup _) v); exact ⟨a, vs, e1, .inr h1, r⟩
  | lst ds => cases e; obtain ⟨a, vs, e1, h1, r⟩ := h; exact ⟨a, vs, e1, .inl (.inl (.inl h1)), r⟩
  | fl ds => cases e; obtain ⟨a, vs, e1, h1, r⟩ := fl_sq (h : Rep K A H (.fl _) v); exact ⟨a, vs, e1, .inl h1, r⟩
  | _ => cases e
def asS : D → Option Str
  | .str x => some x
  | _ => none
@[simp] theorem asS_str {x : Str} : asS (.str x) = some x := rfl
theorem RepT.asS {K : Frag} {A : Av} {H : Hp} {d : D} {v : V} {x : Str} (h : RepT K A H d v) (e : asS d = some x) : v = .str x := by
  unfold Mp.asS at e
  split at e
  · cases e; exact h
  · cases e
def fIn (neg : Bool) : F2 := fun x c P => (on (asS x) fun i => on (asS c) fun j => P (.bl (if neg then !(!(Builtin.Str.occurrences j i 0 j.length 1).isEmpty) else !(Builtin.Str.occurrences j i 0 j.length 1).isEmpty))) ∨
  on (items c) fun ds => flatD x = true ∧ ds.all flatD = true ∧ P (.bl (if neg then !inD x ds else inD x ds))
def rInS2 (neg : Bool) : R2 := fun x y H Q => ∃ i j, x = .str i ∧ y = .str j ∧ Q (.bl (if neg then !(!(Builtin.Str.occurrences j i 0 j.length 1).isEmpty) else !(Builtin.Str.occurrences j i 0 j.length 1).isEmpty)) H
def rInA (K : Frag) (neg : Bool) : R2 := fun x y H Q => rIn K neg x y H Q ∨ rInS2 neg x y H Q
theorem op_inA {X : Cx} : OpR X (compareOp .In) (rInA X.K false) := OpR.or op_in_seq op_in_str
theorem op_notInA {X : Cx} : OpR X (compareOp .NotIn) (rInA X.K true) := OpR.or op_notIn_seq op_notIn_str
theorem RepT.rep {K : Frag} {A : Av} {H : Hp} {d : D} {v : V} (h : RepT K A H d v) (f : flatD d = true) : Rep K A H d v := by
  cases d with
  | lst _ => cases f
  | _ => exact h
theorem sim_in {K : Frag} {neg : Bool} : Sim2 K (rInA K neg) (fIn neg) := by
  intro A H d1 d2 v1 v2 hA r1 r2 P p Q q
  rcases p with p | p
  · obtain ⟨i, e1, p⟩ := on.ex p
    obtain ⟨j, e2, p⟩ := on.ex p
    exact .inr ⟨_, _, r1.asS e1, r2.asS e2, q _ _ _ p rfl (.inl rfl)⟩
  · obtain ⟨ds, e, f1, f2, p⟩ := on.ex p
    obtain ⟨a, vs, e1, h1, r⟩ := r2.items e
    refine .inl ⟨a, vs, e1, h1, (r1.rep f1).flat f1, r.flatAll f2, ?_⟩
    rw [inF_of (r1.rep f1) f1 r f2]
    exact q _ _ _ p rfl (.inl rfl)
def fIx : F2 := fun x y P => match y with
  | .int i => (match x with
    | .str z => z.length ≤ sizeLine ∧ on (atI z.cps.toList i) fun c => P (.str ⟨#[c]⟩)
    | x => on (items x) fun ds => on (atI ds i) P)
  | _ => False
@[simp] theorem fIx_lst {ds : List D} {i : Int} {P : D → Prop} : fIx (.lst ds) (.int i) P = on (atI ds i) P := rfl
@[simp] theorem fIx_tup {ds : List D} {i : Int} {P : D → Prop} : fIx (.tup ds) (.int i) P = on (atI ds i) P := rfl
@[simp] theorem fIx_fl {ds : List D} {i : Int} {P : D → Prop} : fIx (.fl ds) (.int i) P = on (atI ds i) P := rfl
@[simp] theorem fIx_str {z : Str} {i : Int} {P : D → Prop} : fIx (.str z) (.int i) P = (z.length ≤ sizeLine ∧ on (atI z.cps.toList i) fun c => P (.str ⟨#[c]⟩)) := rfl
theorem RepL.atI {K : Frag} {A : Av} {H : Hp} {ds : List D} {vs : List V} {i : Int} {d : D} (r : RepL K A H ds vs) (h : atI ds i = some d) : ∃ v, L2.atI vs i = some v ∧ Rep K A H d v := by
  unfold L2.atI at h ⊢
  rw [← r.length]
  cases e : ixN ds.length i with
  | none => rw [e] at h; cases h
  | some j => rw [e] at h; exact r.get h
theorem sim_ix {K : Frag} : Sim2 K (rIx K) fIx := by
  intro A H d1 d2 v1 v2 hA r1 r2 P p Q q
  cases d2 with
  | int i =>
    cases r2
    cases d1 with
    | str z =>
      cases r1
      obtain ⟨c, e, p2⟩ := on.ex p.2
      exact .inr (.inr ⟨_, _, c, rfl, rfl, p.1, e, q _ _ _ p2 rfl (.inl rfl)⟩)
    | tup ds =>
      obtain ⟨d, e, p⟩ := on.ex (show on (atI ds i) P from p)
      obtain ⟨a, vs, e1, h1, r⟩ := tup_sq (r1 : Rep K A H (.tup ds) v1)
      obtain ⟨v, e2, r2⟩ := r.atI e
      exact .inr (.inl ⟨a, vs, i, v, e1, rfl, h1, e2, q _ _ _ p r2 (.inl rfl)⟩)
    | lst ds =>
      obtain ⟨d, e, p⟩ := on.ex (show on (atI ds i) P from p)
      obtain ⟨a, vs, e1, h1, r⟩ := r1
      obtain ⟨v, e2, r2⟩ := r.atI e
      exact .inl ⟨a, vs, i, v, e1, rfl, .inl (.inl h1), e2, q _ _ _ p r2 (.inl rfl)⟩
    | fl ds =>
      obtain ⟨d, e, p⟩ := on.ex (show on (atI ds i) P from p)
      obtain ⟨a, vs, e1, h1, r⟩ := fl_sq (r1 : Rep K A H (.fl ds) v1)
      obtain ⟨v, e2, r2⟩ := r.atI e
      exact .inl ⟨a, vs, i, v, e1, rfl, h1, e2, q _ _ _ p r2 (.inl rfl)⟩
    | _ => exact p.elim
  | _ => exact p.elim
def one (ds : List D) (k : D → Prop) : Prop := match ds with
  | [d] => k d
  | _ => False
@[simp] theorem one_one {d : D} {k : D → Prop} : one [d] k = k d := rfl
theorem one.ex {K : Frag} {A : Av} {H : Hp} {ds : List D} {vs : List V} {k : D → Prop} (h : one ds k) (r : RepTL K A H ds vs) : ∃ d v, vs = [v] ∧ RepT K A H d v ∧ k d := by
  cases r with
  | nil => exact h.elim
  | @cons d v ds vs r t =>
    cases t with
    | cons _ _ => exact h.elim
    | nil => exact ⟨d, v, rfl, r, h⟩
def two (ds : List D) (k : D → D → Prop) : Prop := match ds with
  | [d, e] => k d e
  | _ => False
@[simp] theorem two_two {d e : D} {k : D → D → Prop} : two [d, e] k = k d e := rfl
theorem two.ex {K : Frag} {A : Av} {H : Hp} {ds : List D} {vs : List V} {k : D → D → Prop} (h : two ds k) (r : RepTL K A H ds vs) : ∃ d e v u, vs = [v, u] ∧ RepT K A H d v ∧ RepT K A H e u ∧ k d e := by
  cases r with
  | nil => exact h.elim
  | @cons d v ds vs r t =>
    cases t with
    | nil => exact h.elim
    | @cons e u ds vs r2 t =>
      cases t with
      | cons _ _ => exact h.elim
      | nil => exact ⟨d, e, v, u, rfl, r, r2, h⟩
def asI : D → Option Int
  | .int x => some x
  | _ => none
@[simp] theorem asI_int {x : Int} : asI (.int x) = some x := rfl
theorem RepT.asI {K : Frag} {A : Av} {H : Hp} {d : D} {v : V} {x : Int} (h : RepT K A H d v) (e : asI d = some x) : v = .int x := by
  unfold Mp.asI at e
  split at e
  · cases e; exact h
  · cases e
def fLen : FN := fun ds P => one ds fun d => (on (asS d) fun z => z.length ≤ sizeLine ∧ P (.int z.length)) ∨ on (items d) fun xs => P (.int xs.length)
def rLenA (K : Frag) : List V → Hp → VK → Prop := fun xs H Q => ∃ x n, xs = [x] ∧ LenV K x H n ∧ Q (.int n) H
theorem sim_len {K : Frag} : SimN K (rLenA K) fLen := by
  intro A H ds vs hA r P p Q q
  obtain ⟨d, v, rfl, r, p⟩ := p.ex r
  rcases p with p | p
  · obtain ⟨z, e, p1, p2⟩ := on.ex p
    cases r.asS e
    exact ⟨_, _, rfl, ⟨p1, rfl⟩, q _ _ _ p2 rfl (.inl rfl)⟩
  · obtain ⟨xs, e, p⟩ := on.ex p
    obtain ⟨a, vs, rfl, h, r2⟩ := r.items e
    exact ⟨_, _, rfl, h.imp (fun h => ⟨vs, h, r2.length⟩) (fun h => ⟨vs, h, r2.length⟩), q _ _ _ p rfl (.inl rfl)⟩
def asB' : D → Option Bool
  | .bl x => some x
  | _ => none
@[simp] theorem asB'_bl {x : Bool} : asB' (.bl x) = some x := rfl
theorem RepT.asB {K : Frag} {A : Av} {H : Hp} {d : D} {v : V} {x : Bool} (h : RepT K A H d v) (e : asB' d = some x) : v = .bl x := by
  unfold Mp.asB' at e
  split at e
  · cases e; exact h
  · cases e
def fInt : FN := fun ds P => one ds fun d => (on (asI d) fun i => P (.int i)) ∨ on (asB' d) fun b => P (.int (if b then 1 else 0))
def rInt1 : List V → Hp → VK → Prop := fun xs H Q => (∃ i, xs = [.int i] ∧ Q (.int i) H) ∨ ∃ k, xs = [.bl k] ∧ Q (.int (if k then 1 else 0)) H
theorem sim_int {K : Frag} : SimN K rInt1 fInt := by
  intro A H ds vs hA r P p Q q
  obtain ⟨d, v, rfl, r, p⟩ := p.ex r
  rcases p with p | p
  · obtain ⟨z, e, p⟩ := on.ex p
    cases r.asI e
    exact .inl ⟨_, rfl, q _ _ _ p rfl (.inl rfl)⟩
  · obtain ⟨z, e, p⟩ := on.ex p
    cases r.asB e
    exact .inr ⟨_, rfl, q _ _ _ p rfl (.inl rfl)⟩
def fAbs : FN := fun ds P => one ds fun d => on (asI d) fun i => P (.int (if i < 0 then -i else i))
def rAbs1 : List V → Hp → VK → Prop := fun xs H Q => ∃ i, xs = [.int i] ∧ Q (.int (if i < 0 then -i else i)) H
theorem sim_abs {K : Frag} : SimN K rAbs1 fAbs := by
  intro A H ds vs hA r P p Q q
  obtain ⟨d, v, rfl, r, p⟩ := p.ex r
  obtain ⟨z, e, p⟩ := on.ex p
  cases r.asI e
  exact ⟨_, rfl, q _ _ _ p rfl (.inl rfl)⟩
def fMM (g : Int → Int → Int) : FN := fun ds P => two ds fun d e => on (asI d) fun i => on (asI e) fun j => P (.int (g i j))
def rMM (g : Int → Int → Int) : List V → Hp → VK → Prop := fun xs H Q => ∃ i j, xs = [.int i, .int j] ∧ Q (.int (g i j)) H
theorem sim_MM {K : Frag} {g : Int → Int → Int} : SimN K (rMM g) (fMM g) := by
  intro A H ds vs hA r P p Q q
  obtain ⟨d, e, v, u, rfl, r1, r2, p⟩ := p.ex r
  obtain ⟨i, e1, p⟩ := on.ex p
  obtain ⟨j, e2, p⟩ := on.ex p
  cases r1.asI e1
  cases r2.asI e2
  exact ⟨_, _, rfl, q _ _ _ p rfl (.inl rfl)⟩
def fList : FN := fun ds P => one ds fun d => on (items d) fun xs => P (.lst xs)
def rListA (K : Frag) : List V → Hp → VK → Prop := fun xs H Q => ∃ p ys, xs = [.ref p] ∧ (SqL K H p ys ∨ SqT K H p ys) ∧ ∀ l, H l = none → Q (.ref l) (upd H l (.lst ys))
theorem sim_list {K : Frag} : SimN K (rListA K) fList := by
  intro A H ds vs hA r P p Q q
  obtain ⟨d, v, rfl, r, p⟩ := p.ex r
  obtain ⟨xs, e, p⟩ := on.ex p
  obtain ⟨a, vs, rfl, h, r2⟩ := r.items e
  exact ⟨a, vs, rfl, h, fun l hl => q _ _ _ p (new_lst hA hl r2) (.inr ⟨l, _, hl, rfl⟩)⟩
def fTuple : FN := fun ds P => one ds fun d => on (items d) fun xs => P (.tup xs)
def rTupleA (K : Frag) : List V → Hp → VK → Prop := fun xs H Q => ∃ p ys, xs = [.ref p] ∧ ((SqL K H p ys ∧ ∀ l, H l = none → Q (.ref l) (upd H l (.tup ys))) ∨ (SqT K H p ys ∧ Q (.ref p) H))
theorem sim_tuple {K : Frag} : SimN K (rTupleA K) fTuple := by
  intro A H ds vs hA r P p Q q
  obtain ⟨d, v, rfl, r, p⟩ := p.ex r
  obtain ⟨xs, e, p⟩ := on.ex p
  cases d with
  | tup ds =>
    cases e
    obtain ⟨a, vs, rfl, h, r2⟩ := tup_sq (r : Rep K A H (.tup _) v)
    exact ⟨a, vs, rfl, .inr ⟨h, q _ _ _ p r (.inl rfl)⟩⟩
  | lst ds =>
    cases e
    obtain ⟨a, vs, rfl, h, r2⟩ := r
    exact ⟨a, vs, rfl, .inl ⟨.inl (.inl h), fun l hl => q _ _ _ p (new_tup hA hl r2) (.inr ⟨l, _, hl, rfl⟩)⟩⟩
  | fl ds =>
    cases e
    obtain ⟨a, vs, rfl, h, r2⟩ := fl_sq (r : Rep K A H (.fl _) v)
    exact ⟨a, vs, rfl, .inl ⟨h, fun l hl => q _ _ _ p (new_tup hA hl r2) (.inr ⟨l, _, hl, rfl⟩)⟩⟩
  | _ => cases e
def tyN : D → Option String
  | .non => some "NoneType"
  | .bl _ => some "bool"
  | .int _ => some "int"
  | .str _ => some "str"
  | .tup _ => some "tuple"
  | .lst _ => some "list"
  | .fl _ => some "list"
  | .ty _ => none
  | .obj _ _ _ => none
theorem RepT.tyx {K : Frag} {A : Av} {H : Hp} {d : D} {v : V} {n : String} (h : RepT K A H d v) (e : tyN d = some n) : TyX K H v (.type n) := by
  cases d with
  | non => cases e; cases h; exact .base .non
  | bl b => cases e; cases h; exact .base (.bl b)
  | int b => cases e; cases h; exact .base (.int b)
  | str b => cases e; cases h; exact .base (.str b)
  | ty b => cases e
  | obj _ _ _ => cases e
  | lst ds => cases e; obtain ⟨a, vs, rfl, h1, r⟩ := h; exact .base (.lst h1)
  | tup ds =>
    cases e
    obtain ⟨a, vs, rfl, h1, r⟩ := tup_sq (h : Rep K A H (.tup ds) v)
    rcases h1 with (h1 | ⟨o, h1⟩) | ⟨o, its, m, h1, h2, h3, _⟩
    · exact .base (.tup h1)
    · exact .fTuple h1
    · exact .kTuple h1 h2
  | fl ds =>
    cases e
    obtain ⟨a, vs, rfl, h1, r⟩ := fl_sq (h : Rep K A H (.fl ds) v)
    rcases h1 with (h1 | ⟨o, h1⟩) | ⟨o, its, m, h1, h2, h3, _⟩
    · exact .base (.lst h1)
    · exact .base (.frz h1)
    · exact .kList h1 h2
def tyNames : List D → Option (List String)
  | [] => some []
  | .ty m :: r => (tyNames r).bind fun l => some (m :: l)
  | _ => none
def isAny (n : String) : List String → Option Bool
  | [] => some false
  | m :: r => (kitB n m).bind fun b => if b then some true else isAny n r
theorem tyNames_ok {K : Frag} {A : Av} {H : Hp} : ∀ {ms : List D} {vs : List V} {l : List String}, RepL K A H ms vs → tyNames ms = some l → Paired ClsV vs (l.map Value.type)
  | [], _, l, r, e => by cases r; cases e; exact .nil
  | m :: ms, _, l, ⟨v, r, q, h, t⟩, e => by
    subst q
    cases m with
    | ty m =>
      cases h
      have e1 : ((tyNames ms).bind fun l => some (m :: l)) = some l := e
      cases g : tyNames ms with
      | none => rw [g] at e1; cases e1
      | some l' => rw [g] at e1; cases e1; exact .cons (.ty m) (tyNames_ok t g)
    | _ => cases e
theorem isAny_ok {K : Frag} {n : String} : ∀ {l : List String} {b : Bool}, isAny n l = some b → PySem.W.kitAny K (.type n) (l.map Value.type) = some b
  | [], b, e => by cases e; exact kitAny_nil
  | m :: r, b, e => by
    have e1 : ((kitB n m).bind fun b => if b then some true else isAny n r) = some b := e
    cases g : kitB n m with
    | none => rw [g] at e1; cases e1
    | some c =>
      rw [g] at e1
      refine kitAny_cons (kit_ty g) (fun z => ?_) (fun z => ?_)
      · subst z; exact isAny_ok e1
      · subst z; cases e1; rfl
def asTy : D → Option String
  | .ty n => some n
  | _ => none
def asTup : D → Option (List D)
  | .tup n => some n
  | _ => none
@[simp] theorem asTy_ty {n : String} : asTy (.ty n) = some n := rfl
@[simp] theorem asTup_tup {n : List D} : asTup (.tup n) = some n := rfl
def fIsi : FN := fun ds P => two ds fun d c => on (tyN d) fun n => (on (asTy c) fun m => on (kitB n m) fun b => P (.bl b)) ∨ on (asTup c) fun ms => on (tyNames ms) fun l => on (isAny n l) fun b => P (.bl b)
def rIsiA (K : Frag) : List V → Hp → VK → Prop := fun xs H Q => rIsi K xs H Q ∨ rIsiT K xs H Q ∨ rIsiK K xs H Q
theorem call_isiA {X : Cx} : CallR X (.builtin "isinstance") (rIsiA X.K) := CallR.or call_isi (CallR.or call_isiT call_isiK)
theorem sim_isi {K : Frag} : SimN K (rIsiA K) fIsi := by
  intro A H ds vs hA r P p Q q
  obtain ⟨d, c, v, u, rfl, r1, r2, p⟩ := p.ex r
  obtain ⟨n, hn, p⟩ := on.ex p
  rcases p with p | p
  · obtain ⟨m, hm, p⟩ := on.ex p
    obtain ⟨b, hb, pf⟩ := on.ex p
    cases c <;> first | cases hm | skip
    cases r2
    exact .inl ⟨v, _, _, _, b, rfl, .ty _, r1.tyx hn, kit_ty hb, q _ _ _ pf rfl (.inl rfl)⟩
  · obtain ⟨ms, hm, p⟩ := on.ex p
    obtain ⟨l, hl, p⟩ := on.ex p
    obtain ⟨b, hb, pf⟩ := on.ex p
    cases c <;> first | cases hm | skip
    obtain ⟨a, vs, rfl, h, r⟩ := (r2 : Rep K A H (.tup ms) u)
    have hc := tyNames_ok r hl
    rcases h with h | h
    · exact .inr (.inl ⟨v, a, vs, _, _, b, rfl, h.1, hc, r1.tyx hn, isAny_ok hb, q _ _ _ pf rfl (.inl rfl)⟩)
    · rcases h with h | ⟨o, its, k, h1, h2, h3, h4, h5⟩
      · rcases h with h | ⟨_, h⟩ <;> cases h
      · obtain ⟨oc, od, dt, sl⟩ := o
        simp only at h2 h3
        subst h2 h3
        have e := ClsV.all hc h5
        exact .inr (.inr ⟨v, a, od, its.toList, k, sl, _, b, rfl, by simpa using h1, r1.tyx hn, by rw [e]; exact isAny_ok hb, q _ _ _ pf rfl (.inl rfl)⟩)
end Mp
set_option Elab.async false
set_option linter.all false
set_option maxRecDepth 100000
set_option maxHeartbeats 4000000
namespace Mp
open PySem PySem.Spec PyProof.Rows L2
structure MK where
  nx : PS → Prop
  bk : PS → Prop
  ct : PS → Prop
  rt : S → List O → Prop
  ex : MX
abbrev MS := PS → MK → Prop
abbrev MG := S → PS → (PS → Prop) → Prop
structure En where
  as : List (Addr × List Addr)
  h : Hp
structure Pre0 (ρ : En) (α : Mp_) (H : Hp) : Prop where
  own : OwnLe ρ.as α.own
  nw : ∀ (n : Nat) (p : Addr × List Addr), ρ.as.length ≤ n → α.own[n]? = some p → ρ.h p.1 = none
  stay : ∀ a o, ρ.h a = some o → ∃ u, H a = some u
theorem Pre0.ext {ρ : En} {α β : Mp_} {hp hp1 : List O} {H H1 : Hp} (h : Pre0 ρ α H) (e : Ext α hp H β hp1 H1) : Pre0 ρ β H1 where
  own := h.own.trans e.pre.own
  nw := fun n p hn q => by
    by_cases hl : n < α.own.length
    · obtain ⟨p', h1, h2⟩ := e.pre.get (List.getElem?_eq_getElem hl)
      rw [q] at h1
      cases h1
      rw [h2]
      exact h.nw n _ hn (List.getElem?_eq_getElem hl)
    · exact none_back h.stay (e.nw n p (by omega) q)
  stay := fun a o q => by
    obtain ⟨u, hu⟩ := h.stay a o q
    exact e.step.stay a u hu
structure Here (K : Frag) (ρ : En) (α : Mp_) (s : PS) (H : Hp) (σ : L2.St) : Prop where
  pre : Pre0 ρ α H
  n0 : True
  ok : WOk K α s.hp H
  env : EnvR K α s.hp H s.env σ
def PostN (K : Frag) (ρ : En) (α : Mp_) (hp : List O) (H : Hp) (N : PS → Prop) (Dn : L2.St → Hp → Prop) : Prop :=
  ∀ s' α' H' σ', N s' → Here K ρ α' s' H' σ' → StepW α hp H α' s'.hp H' → α'.ban = α.ban → Dn σ' H'
structure PostS (K : Frag) (W : WX) (ρ : En) (α : Mp_) (hp : List O) (H : Hp) (k : MK) (D : Ends) : Prop where
  nx : PostN K ρ α hp H k.nx D.nx
  bk : PostN K ρ α hp H k.bk D.bk
  ct : PostN K ρ α hp H k.ct D.ct
  rt : ∀ v hp' α' H' u, k.rt v hp' → Pre0 ρ α' H' → WOk K α' hp' H' → StepW α hp H α' hp' H' → α'.ban = α.ban → SRep K α' hp' H' v u → D.rt u H'
  ex : ∀ x hp' α' H' c dd σ', k.ex x hp' → Pre0 ρ α' H' → WOk K α' hp' H' → StepW α hp H α' hp' H' → α'.ban = α.ban → XRep K (Al α' hp') H' x c dd → W c dd σ' H'
def SimS (K : Frag) (W : WX) (t : TS) (M : MS) : Prop := ∀ (ρ : En) (α : Mp_) (s : PS) (H : Hp) (σ : L2.St), Here K ρ α s H σ → ∀ k, M s k → ∀ D : Ends, PostS K W ρ α s.hp H k D → t D σ H
def SimG (K : Frag) (g : TG) (us : List Nat) (M : MG) : Prop := ∀ (ρ : En) (α : Mp_) (s : PS) (H : Hp) (σ : L2.St) (v : S) (u : V), Here K ρ α s H σ → SRep K α s.hp H v u → ∀ N, M v s N → ∀ Q : L2.St → Hp → Prop,
  (∀ s' α' H' σ', N s' → Here K ρ α' s' H' σ' → Ext α s.hp H α' s'.hp H' → (σ'.length = σ.length ∧ ∀ i, i ∉ us → σ'[i]? = σ[i]?) → Q σ' H') → g u σ H Q
section
variable {K : Frag} {W : WX} {ρ : En} {α β : Mp_} {hp hp1 : List O} {H H1 : Hp} {σ : L2.St} {s : PS}
theorem PostN.at {N : PS → Prop} {Dn : L2.St → Hp → Prop} (p : PostN K ρ α hp H N Dn) (e : StepW α hp H β hp1 H1) (b : β.ban = α.ban) : PostN K ρ β hp1 H1 N Dn := fun s' a h' σ' n i st bb => p s' a h' σ' n i (e.trans st) (bb.trans b)
theorem PostS.at {k : MK} {D : Ends} (p : PostS K W ρ α hp H k D) (e : StepW α hp H β hp1 H1) (b : β.ban = α.ban) : PostS K W ρ β hp1 H1 k D :=
  ⟨p.nx.at e b, p.bk.at e b, p.ct.at e b, fun v h a h' u r pr w st bb => p.rt v h a h' u r pr w (e.trans st) (bb.trans b), fun x h a h' c dd σ' r pr w st bb => p.ex x h a h' c dd σ' r pr w (e.trans st) (bb.trans b)⟩
theorem Here.ext (i : Here K ρ α s H σ) (e : Ext α s.hp H β hp1 H1) (w : WOk K β hp1 H1) : Here K ρ β { s with hp := hp1 } H1 σ := ⟨i.pre.ext e, i.n0, w, i.env.mono e⟩
theorem PostS.postX {k : MK} {D : Ends} (p : PostS K W ρ α hp H k D) (pre : Pre0 ρ α H) : PostX K W σ α hp H k.ex := fun x h a h' c dd r e w q => p.ex x h a h' c dd σ r (pre.ext e) w e.step e.pre.ban q
theorem EnvR.set {env : List (Option S)} {i : Nat} {v : S} {u : V} (e : EnvR K α hp H env σ) (r : SRep K α hp H v u) : EnvR K α hp H (env.set i (some v)) (σ.set i (some u)) := by
  refine ⟨by rw [List.length_set, List.length_set]; exact e.1, fun j s hj => ?_⟩
  by_cases hi : i = j
  · subst hi
    by_cases hl : i < env.length
    · rw [List.getElem?_set_self hl] at hj
      cases hj
      exact ⟨u, List.getElem?_set_self (by rw [← e.1]; exact hl), r⟩
    · rw [List.getElem?_eq_none (by simpa using hl)] at hj
      cases hj
  · rw [List.getElem?_set_ne hi] at hj
    obtain ⟨v', h1, h2⟩ := e.2 j s hj
    exact ⟨v', by rw [List.getElem?_set_ne hi]; exact h1, h2⟩
end
def mgName (i : Nat) : MG := fun v s N => N { s with env := s.env.set i (some v) }
theorem simg_name {K : Frag} (i : Nat) : SimG K (gName i) [i] (mgName i) := by
  intro ρ α s H σ v u h r N m Q q
  exact q _ α H _ m ⟨h.pre, h.n0, h.ok, h.env.set r⟩ Ext.refl ⟨List.length_set .., fun j hj => List.getElem?_set_ne fun e => hj (by simp [e])⟩
def mAsg (Ma : ME) (G : MG) : MS := fun s k => Ma s (fun v hp' => G v { s with hp := hp' } k.nx) k.ex
theorem sim_asg {K : Frag} {W : WX} {t : TE} {g : TG} {us : List Nat} {Ma : ME} {G : MG} (ha : SimE K W t Ma) (hg : SimG K g us G) : SimS K W (tAsg t g) (mAsg Ma G) := by
  intro ρ α s H σ h k m D p
  refine ha α s H σ h.ok h.env _ _ m _ (fun v hp1 α1 H1 u m1 e1 w1 r1 => ?_) (p.postX h.pre)
  refine hg ρ α1 { s with hp := hp1 } H1 σ v u (h.ext e1 w1) r1 _ m1 _ fun s' α' H' σ' n i e _ => ?_
  exact p.nx s' α' H' σ' n i (e1.trans e).step ((e1.trans e).pre.ban)
def mDrop (Ma : ME) : MS := fun s k => Ma s (fun _ hp' => k.nx { s with hp := hp' }) k.ex
theorem sim_drop {K : Frag} {W : WX} {t : TE} {Ma : ME} (ha : SimE K W t Ma) : SimS K W (tDrop t) (mDrop Ma) := by
  intro ρ α s H σ h k m D p
  refine ha α s H σ h.ok h.env _ _ m _ (fun v hp1 α1 H1 u m1 e1 w1 r1 => ?_) (p.postX h.pre)
  exact p.nx _ α1 H1 σ m1 (h.ext e1 w1) e1.step e1.pre.ban
def mRet (Ma : ME) : MS := fun s k => Ma s k.rt k.ex
theorem sim_ret {K : Frag} {W : WX} {t : TE} {Ma : ME} (ha : SimE K W t Ma) : SimS K W (tRet t) (mRet Ma) := by
  intro ρ α s H σ h k m D p
  refine ha α s H σ h.ok h.env _ _ m _ (fun v hp1 α1 H1 u m1 e1 w1 r1 => ?_) (p.postX h.pre)
  exact p.rt v hp1 α1 H1 u m1 (h.pre.ext e1) w1 e1.step e1.pre.ban r1
def mNext : MS := fun s k => k.nx s
theorem sim_next {K : Frag} {W : WX} : SimS K W tNext mNext := fun ρ α s H σ h k m D p => p.nx s α H σ m h (Step.refl al_sub) rfl
def mSeq (Ma Mb : MS) : MS := fun s k => Ma s { k with nx := fun s' => Mb s' k }
theorem sim_seq {K : Frag} {W : WX} {t u : TS} {Ma Mb : MS} (ha : SimS K W t Ma) (hb : SimS K W u Mb) : SimS K W (tSeq t u) (mSeq Ma Mb) := by
  intro ρ α s H σ h k m D p
  refine ha ρ α s H σ h _ m _ ⟨fun s' α' H' σ' n i st b => ?_, p.bk, p.ct, p.rt, p.ex⟩
  exact hb ρ α' s' H' σ' i k n D (p.at st b)
def mIfS (Mc : MT) (Ma Mb : MS) : MS := fun s k => Mc s (fun b hp' => if b = true then Ma { s with hp := hp' } k else Mb { s with hp := hp' } k) k.ex
theorem sim_ifS {K : Frag} {W : WX} {c : TT} {t u : TS} {Mc : MT} {Ma Mb : MS} (hc : SimT K W c Mc) (ha : SimS K W t Ma) (hb : SimS K W u Mb) : SimS K W (tIfS c t u) (mIfS Mc Ma Mb) := by
  intro ρ α s H σ h k m D p
  refine hc α s H σ h.ok h.env _ _ m _ (fun b hp1 α1 H1 m1 e1 w1 => ?_) (p.postX h.pre)
  cases b with
  | true => exact ha ρ α1 _ H1 σ (h.ext e1 w1) k m1 D (p.at e1.step e1.pre.ban)
  | false => exact hb ρ α1 _ H1 σ (h.ext e1 w1) k m1 D (p.at e1.step e1.pre.ban)
def envI (s : PS) (i : Nat) : Option Int := match s.env[i]? with
  | some (some (.d (.int a))) => some a
  | _ => none
def mAug (i : Nat) (f : Int → Int → Int) (Ma : ME) : MS := fun s k => on (envI s i) fun a => Ma s (fun v hp' => on (val hp' v) fun d => on (asI d) fun b => k.nx { s with hp := hp', env := s.env.set i (some (.d (.int (f a b)))) }) k.ex
theorem sim_aug {K : Frag} {W : WX} {t : TE} {Ma : ME} (i : Nat) (f : Int → Int → Int) (ha : SimE K W t Ma) : SimS K W (tAug i t (ipI f)) (mAug i f Ma) := by
  intro ρ α s H σ h k m D p
  obtain ⟨a, g, m⟩ := on.ex m
  have hx : σ[i]? = some (some (.int a)) := by
    unfold envI at g
    split at g
    · cases g
      rename_i q
      obtain ⟨v, h1, h2⟩ := h.env.2 i _ q
      cases (show v = .int a from h2)
      exact h1
    · cases g
  refine ⟨_, hx, ha α s H σ h.ok h.env _ _ m _ (fun v hp1 α1 H1 u m1 e1 w1 r1 => ?_) (p.postX h.pre)⟩
  obtain ⟨d, g1, m1⟩ := on.ex m1
  obtain ⟨b, g2, m1⟩ := on.ex m1
  have hi := h.ext e1 w1
  refine ⟨a, b, rfl, (r1.val w1 g1).asI g2, p.nx _ α1 H1 _ m1 ⟨hi.pre, hi.n0, hi.ok, hi.env.set (v := .d (.int (f a b))) rfl⟩ e1.step e1.pre.ban⟩
def whileN (Mc : MT) (Mb : MS) : Nat → MS
  | 0 => fun _ _ => False
  | n + 1 => fun s k => Mc s (fun b hp' => if b = true then Mb { s with hp := hp' } { k with nx := fun s' => whileN Mc Mb n s' k, ct := fun s' => whileN Mc Mb n s' k, bk := k.nx } else k.nx { s with hp := hp' }) k.ex
def mWhile (Mc : MT) (Mb : MS) : MS := fun s k => ∃ n, whileN Mc Mb n s k
theorem sim_while {K : Frag} {W : WX} {c : TT} {t : TS} {Mc : MT} {Mb : MS} (hc : SimT K W c Mc) (hb : SimS K W t Mb) : SimS K W (tWhile c t) (mWhile Mc Mb) := by
  intro ρ α s H σ h k ⟨n, m⟩ D p
  refine ⟨fun n σ' H' => ∃ α' s', Here K ρ α' s' H' σ' ∧ StepW α s.hp H α' s'.hp H' ∧ α'.ban = α.ban ∧ whileN Mc Mb n s' k, ⟨n, α, s, h, Step.refl al_sub, rfl, m⟩, ?_⟩
  rintro n σ' H' ⟨α', s', h', st, bb, m⟩
  cases n with
  | zero => exact m.elim
  | succ n =>
    have p' := p.at st bb
    refine hc α' s' H' σ' h'.ok h'.env _ _ m _ (fun b hp1 α1 H1 m1 e1 w1 => ?_) (p'.postX h'.pre)
    have p1 := p'.at e1.step e1.pre.ban
    cases b with
    | false => exact p1.nx _ α1 H1 σ' m1 (h'.ext e1 w1) (Step.refl al_sub) rfl
    | true =>
      show ∃ N : L2.St → Hp → Prop, _ ∧ _
      refine ⟨fun σ2 H2 => ∃ α' s', Here K ρ α' s' H2 σ2 ∧ StepW α s.hp H α' s'.hp H2 ∧ α'.ban = α.ban ∧ whileN Mc Mb n s' k, fun σ2 H2 q => ⟨n, Nat.lt_succ_self n, q⟩, ?_⟩
      have nn : PostN K ρ α1 hp1 H1 (fun s' => whileN Mc Mb n s' k) (fun σ2 H2 => ∃ α' s', Here K ρ α' s' H2 σ2 ∧ StepW α s.hp H α' s'.hp H2 ∧ α'.ban = α.ban ∧ whileN Mc Mb n s' k) := fun s2 α2 H2 σ2 n2 i2 st2 b2 => ⟨α2, s2, i2, (st.trans e1.step).trans st2, b2.trans (e1.pre.ban.trans bb), n2⟩
      exact hb ρ α1 _ H1 σ' (h'.ext e1 w1) _ m1 _ ⟨nn, p1.nx, nn, p1.rt, p1.ex⟩
inductive Wk where
  | mu (n : Nat) | ob (n k : Nat)
def Wk.ix : Wk → Nat
  | .mu n => n
  | .ob n _ => n
@[simp] theorem Wk.ix_mu {n : Nat} : (Wk.mu n).ix = n := rfl
@[simp] theorem Wk.ix_ob {n k : Nat} : (Wk.ob n k).ix = n := rfl
def nodeDs (hp : List O) (n k : Nat) : Option (List D) := match nodeAt hp n k with
  | some (.lst xs) => dsOf xs
  | _ => none
def still (v : Option Wk) (ds : List D) (hp : List O) : Prop := match v with
  | none => True
  | some (.mu n) => hp[n]? = some (.lst ds)
  | some (.ob n k) => nodeDs hp n k = some ds
@[simp] theorem still_none {ds : List D} {hp : List O} : still none ds hp = True := rfl
def sameAt (v : Option Wk) (α β : Mp_) : Prop := match v with
  | none => True
  | some (.mu n) => ∃ p q : Addr × List Addr, α.own[n]? = some p ∧ β.own[n]? = some q ∧ q.1 = p.1
  | some (.ob n k) => ∃ (p q : Addr × List Addr) (a : Addr), α.own[n]? = some p ∧ β.own[n]? = some q ∧ (adr p)[k]? = some a ∧ (adr q)[k]? = some a
theorem own_same {α β : Mp_} (h : OwnLe α.own β.own) : ∀ {v : Option Wk}, sameAt v α α → sameAt v α β
  | none, _ => trivial
  | some (.mu n), ⟨p, _, h1, _, _⟩ => by
    obtain ⟨q, g1, g2, _⟩ := h n p h1
    exact ⟨p, q, h1, g1, g2⟩
  | some (.ob n k), ⟨p, _, a, h1, _, h3, _⟩ => by
    obtain ⟨q, g1, g2, g3⟩ := h n p h1
    exact ⟨p, q, a, h1, g1, h3, adr_le g2 g3 h3⟩
theorem sameAt.trans {α β γ : Mp_} : ∀ {v : Option Wk}, sameAt v α β → sameAt v β γ → sameAt v α γ
  | none, _, _ => trivial
  | some (.mu n), ⟨p, q, h1, h2, h3⟩, ⟨p', q', g1, g2, g3⟩ => by
    rw [h2] at g1
    cases g1
    exact ⟨p, q', h1, g2, g3.trans h3⟩
  | some (.ob n k), ⟨p, q, a, h1, h2, h3, h4⟩, ⟨p', q', a', g1, g2, g3, g4⟩ => by
    rw [h2] at g1
    cases g1
    rw [h4] at g3
    cases g3
    exact ⟨p, q', a, h1, g2, h3, g4⟩
theorem sameAt.right {α β : Mp_} : ∀ {v : Option Wk}, sameAt v α β → sameAt v β β
  | none, _ => trivial
  | some (.mu n), ⟨p, q, h1, h2, h3⟩ => ⟨q, q, h2, h2, rfl⟩
  | some (.ob n k), ⟨p, q, a, h1, h2, h3, h4⟩ => ⟨q, q, a, h2, h2, h4, h4⟩
def Walks (K : Frag) (J : It) (α : Mp_) (hp : List O) (H : Hp) (v : Option Wk) (ds : List D) : Prop :=
  ∀ α' hp' H', StepA α hp H α' hp' H' → sameAt v α α' → WOk K α' hp' H' → still v ds hp' →
    (∀ i d, ds[i]? = some d → J.go i H' ∧ ∀ x H'', J.yld i H' x H'' → (H'' = H' ∨ ∃ p o, H' p = none ∧ H'' = upd H' p o) ∧ Rep K (Al α' hp') H'' d x) ∧ J.stop ds.length H'
abbrev MI := PS → (Option Wk → List D → List O → Prop) → MX → Prop
def SimI (K : Frag) (W : WX) (wi : TI) (M : MI) : Prop := ∀ (α : Mp_) (s : PS) (H : Hp) (σ : L2.St), WOk K α s.hp H → EnvR K α s.hp H s.env σ → ∀ R Xp, M s R Xp → ∀ Q : It → Hp → Prop,
  (∀ v ds hp' α' H' J, R v ds hp' → Ext α s.hp H α' hp' H' → WOk K α' hp' H' → Walks K J α' hp' H' v ds → still v ds hp' → sameAt v α' α' → Q J H') → PostX K W σ α s.hp H Xp → wi σ H Q
def walked (hp : List O) (v : S) (R : Option Wk → List D → List O → Prop) : Prop := match v with
  | .d d => on (items d) fun ds => R none ds hp
  | .mu n => match hp[n]? with
    | some (.lst ds) => R (some (.mu n)) ds hp
    | _ => False
  | .ob n k => on (nodeDs hp n k) fun ds => R (some (.ob n k)) ds hp
  | .exn _ _ _ _ => False
def iSq (K : Frag) (t : TE) : TI := fun σ H R => t σ H fun x H1 => ∃ a, x = .ref a ∧ (((∃ vs, SqL K H1 a vs) ∧ R (Itl K a) H1) ∨ ((∃ vs, SqT K H1 a vs) ∧ R (Itt K a) H1))
theorem pi_sq {X : Cx} {tg l : Expr} {t : TE} (h : PE X l t) : PI X tg l (iSq X.K t) := by
  refine ⟨fun pins st σ H R I hq => thn (h.run pins st σ H _ I hq) fun v st1 ⟨x, G, J, rv, a, ex, q⟩ => ?_⟩
  subst ex
  cases rv
  have kp : Inv X pins σ G { st1 with heap := st1.heap.push { cls := .type "x", data := .fields #[] } } := J.kept (t' := st1.toks) fun _ _ e => Heap.get?_push_of_some _ e
  have fp : ∀ b ∈ [st1.heap.objs.size], FpOk X pins G b := fun b hb => by
    cases List.mem_singleton.mp hb
    exact J.fpOk (Nat.le_refl _) (J.hok.fresh (Nat.le_refl _))
  rcases q with ⟨⟨vs, hv⟩, q⟩ | ⟨⟨vs, hv⟩, q⟩
  · obtain ⟨us, _, pl, _⟩ := J.list hv
    exact wpAny_pyIter_list pl.isList ⟨st1.heap.objs.size, [st1.heap.objs.size], _, _, G, rfl, J.kept (t' := st1.toks) (fun _ _ e => Heap.get?_push_of_some _ e), turn_list a _, ⟨_, Heap.get?_push_size _ rfl, rfl, rfl⟩, fp, q⟩
  · obtain ⟨us, _, pl, _⟩ := J.tuple hv
    exact wpAny_pyIter_tuple (show st1.heap.IsTuple a us.toArray from pl) ⟨st1.heap.objs.size, [st1.heap.objs.size], _, _, G, rfl, J.kept (t' := st1.toks) (fun _ _ e => Heap.get?_push_of_some _ e), turn_tuple a _, ⟨_, Heap.get?_push_size _ rfl, rfl, rfl⟩, fp, q⟩
theorem walks_l {K : Frag} {α : Mp_} {hp : List O} {H : Hp} {a : Addr} {v : Option Wk} {ds : List D} (h : ∀ α' hp' H', StepA α hp H α' hp' H' → sameAt v α α' → WOk K α' hp' H' → still v ds hp' → ∃ vs, SqL K H' a vs ∧ RepL K (Al α' hp') H' ds vs) : Walks K (Itl K a) α hp H v ds := by
  intro α' hp' H' st sa w stl
  obtain ⟨vs, hv, r⟩ := h α' hp' H' st sa w stl
  refine ⟨fun i d hd => ?_, ⟨vs, hv, by rw [r.length]; exact Nat.le_refl _⟩⟩
  obtain ⟨u, h1, h2⟩ := r.get hd
  refine ⟨⟨vs, u, hv, h1⟩, fun x H'' ⟨e, y⟩ => ?_⟩
  subst e
  have := y vs hv
  rw [h1] at this
  cases this
  exact ⟨.inl rfl, h2⟩
theorem walks_t {K : Frag} {α : Mp_} {hp : List O} {H : Hp} {a : Addr} {v : Option Wk} {ds : List D} (h : ∀ α' hp' H', StepA α hp H α' hp' H' → sameAt v α α' → WOk K α' hp' H' → still v ds hp' → ∃ vs, SqT K H' a vs ∧ RepL K (Al α' hp') H' ds vs) : Walks K (Itt K a) α hp H v ds := by
  intro α' hp' H' st sa w stl
  obtain ⟨vs, hv, r⟩ := h α' hp' H' st sa w stl
  refine ⟨fun i d hd => ?_, ⟨vs, hv, by rw [r.length]; exact Nat.le_refl _⟩⟩
  obtain ⟨u, h1, h2⟩ := r.get hd
  refine ⟨⟨vs, u, hv, h1⟩, fun x H'' ⟨e, y⟩ => ?_⟩
  subst e
  have := y vs hv
  rw [h1] at this
  cases this
  exact ⟨.inl rfl, h2⟩
def miSq (Ma : ME) : MI := fun s R Xp => Ma s (fun v hp' => walked hp' v R) Xp
theorem simi_sq {K : Frag} {W : WX} {t : TE} {Ma : ME} (ha : SimE K W t Ma) : SimI K W (iSq K t) (miSq Ma) := by
  intro α s H σ w e R Xp m Q q qx
  refine ha α s H σ w e _ _ m _ (fun v hp1 α1 H1 u m1 e1 w1 r1 => ?_) qx
  cases v with
  | d d =>
    obtain ⟨ds, hd, m1⟩ := on.ex (show on (items d) _ from m1)
    cases d with
    | tup xs =>
      cases hd
      obtain ⟨a, vs, eu, h1, r⟩ := tup_sq (show Rep K (Al α1 hp1) H1 (.tup _) u from r1)
      refine ⟨a, eu, .inr ⟨⟨vs, h1⟩, q none _ hp1 α1 H1 _ m1 e1 w1 (walks_t fun α' hp' H' st _ w' _ => ?_) trivial trivial⟩⟩
      obtain ⟨a', vs', eu', h1', r'⟩ := tup_sq (Rep.mono st _ _ (show Rep K (Al α1 hp1) H1 (.tup _) u from r1))
      cases eu.symm.trans eu'
      exact ⟨vs', h1', r'⟩
    | lst xs =>
      cases hd
      obtain ⟨a, vs, eu, h1, r⟩ := (show Rep K (Al α1 hp1) H1 (.lst _) u from r1)
      refine ⟨a, eu, .inl ⟨⟨vs, .inl (.inl h1.1)⟩, q none _ hp1 α1 H1 _ m1 e1 w1 (walks_l fun α' hp' H' st _ w' _ => ?_) trivial trivial⟩⟩
      obtain ⟨a', vs', eu', h1', r'⟩ := Rep.mono st _ _ (show Rep K (Al α1 hp1) H1 (.lst _) u from r1)
      cases eu.symm.trans eu'
      exact ⟨vs', .inl (.inl h1'.1), r'⟩
    | fl xs =>
      cases hd
      obtain ⟨a, vs, eu, h1, r⟩ := fl_sq (show Rep K (Al α1 hp1) H1 (.fl _) u from r1)
      refine ⟨a, eu, .inl ⟨⟨vs, h1⟩, q none _ hp1 α1 H1 _ m1 e1 w1 (walks_l fun α' hp' H' st _ w' _ => ?_) trivial trivial⟩⟩
      obtain ⟨a', vs', eu', h1', r'⟩ := fl_sq (Rep.mono st _ _ (show Rep K (Al α1 hp1) H1 (.fl _) u from r1))
      cases eu.symm.trans eu'
      exact ⟨vs', h1', r'⟩
    | _ => cases hd
  | mu n =>
    obtain ⟨p, hp, eu⟩ := r1
    simp only [walked] at m1
    cases g : hp1[n]? with
    | none => rw [g] at m1; exact m1.elim
    | some o =>
      rw [g] at m1
      cases o with
      | lst ds =>
        obtain ⟨_, vs, h1, r⟩ := w1.obj n _ p g hp
        refine ⟨p.1, eu, .inl ⟨⟨vs, .inl (.inl h1)⟩, q (some (.mu n)) ds hp1 α1 H1 _ m1 e1 w1 (walks_l fun α' hp' H' st sa w' stl => ?_) g ⟨p, p, hp, hp, rfl⟩⟩⟩
        obtain ⟨p1, p2, g1, g2, g3⟩ := sa
        rw [hp] at g1
        cases g1
        obtain ⟨_, vs', h1', r'⟩ := w'.obj n _ p2 stl g2
        rw [g3] at h1'
        exact ⟨vs', .inl (.inl h1'), r'⟩
      | dct _ => exact m1.elim
      | reg _ => exact m1.elim
      | dtp _ => exact m1.elim
      | tbl _ => exact m1.elim
      | gone => exact m1.elim
  | ob n k =>
    obtain ⟨p, a, hp, ha, eu⟩ := r1
    obtain ⟨ds, g, m1⟩ := on.ex (show on (nodeDs hp1 n k) _ from m1)
    have at_ : ∀ {α' : Mp_} {hp' : List O} {H' : Hp} {p' : Addr × List Addr}, WOk K α' hp' H' → nodeDs hp' n k = some ds → α'.own[n]? = some p' → (adr p')[k]? = some a → ∃ vs, SqL K H' a vs ∧ RepL K (Al α' hp') H' ds vs := fun {α' hp' H' p'} w' g hp ha => by
      unfold nodeDs at g
      split at g
      · rename_i xs e
        obtain ⟨vs, h1, r⟩ := w'.node e hp ha
        exact ⟨vs, .inl (.inl h1), RepNL.ds r g⟩
      · cases g
    obtain ⟨vs, h1, r⟩ := at_ w1 g hp ha
    refine ⟨a, eu, .inl ⟨⟨vs, h1⟩, q (some (.ob n k)) ds hp1 α1 H1 _ m1 e1 w1 (walks_l fun α' hp' H' st sa w' stl => ?_) g ⟨p, p, a, hp, hp, ha, ha⟩⟩⟩
    obtain ⟨p1, p2, b, g1, g2, g3, g4⟩ := sa
    rw [hp] at g1
    cases g1
    rw [ha] at g3
    cases g3
    exact at_ w' stl g2 g4
  | exn _ _ _ _ => exact m1.elim
def rng (lo c : Int) (n : Nat) : List D := (List.range n).map fun (i : Nat) => D.int (lo + (i : Int) * c)
theorem rng_len {lo c : Int} {n : Nat} : (rng lo c n).length = n := by unfold rng; simp
theorem rng_get {lo c : Int} {n i : Nat} {d : D} (h : (rng lo c n)[i]? = some d) : i < n ∧ d = .int (lo + (i : Int) * c) := by
  have hi : i < n := by have := (List.getElem?_eq_some_iff.mp h).1; rwa [rng_len] at this
  unfold rng at h
  rw [List.getElem?_map, List.getElem?_range hi] at h
  cases h
  exact ⟨hi, rfl⟩
theorem walks_r {K : Frag} {α : Mp_} {hp : List O} {H : Hp} {lo : Int} {n : Nat} : Walks K (Itr lo n) α hp H none (rng lo 1 n) := by
  intro α' hp' H' st sa w stl
  refine ⟨fun i d hd => ?_, by show n ≤ _; rw [rng_len]; exact Nat.le_refl _⟩
  obtain ⟨h1, rfl⟩ := rng_get hd
  exact ⟨h1, fun x H'' ⟨e, y⟩ => ⟨.inl e, by subst y; show V.int _ = V.int _; rw [Int.mul_one]⟩⟩
theorem walks_c {K : Frag} {α : Mp_} {hp : List O} {H : Hp} {lo c : Int} {n : Nat} : Walks K (Itc lo c n) α hp H none (rng lo c n) := by
  intro α' hp' H' st sa w stl
  refine ⟨fun i d hd => ?_, by show n ≤ _; rw [rng_len]; exact Nat.le_refl _⟩
  obtain ⟨h1, rfl⟩ := rng_get hd
  exact ⟨h1, fun x H'' ⟨e, y⟩ => ⟨.inl e, by subst y; rfl⟩⟩
def intsD : List D → Option (List Int)
  | [] => some []
  | .int i :: r => (intsD r).bind fun l => some (i :: l)
  | _ => none
theorem ints_ok {K : Frag} {A : Av} {H : Hp} : ∀ {ds : List D} {vs : List V} {l : List Int}, RepTL K A H ds vs → intsD ds = some l → vs = l.map V.int
  | [], _, l, h, e => by cases h; cases e; rfl
  | d :: ds, _, l, h, e => by
    cases h with
    | @cons _ v _ vs h t =>
      cases d with
      | int i =>
        have e1 : ((intsD ds).bind fun l => some (i :: l)) = some l := e
        cases g : intsD ds with
        | none => rw [g] at e1; cases e1
        | some l' =>
          rw [g] at e1
          cases e1
          cases (show v = .int i from h)
          rw [ints_ok t g]
          rfl
      | _ => cases e
def miRng (f : List Int → (Int → Int → Nat → Prop) → Prop) (Ma : MA) : MI := fun s R Xp => Ma s (fun vs hp' => on (vals hp' vs) fun ds => on (intsD ds) fun l => f l fun lo c n => R none (rng lo c n) hp') Xp
def f1R : List Int → (Int → Int → Nat → Prop) → Prop := fun l k => match l with
  | [j] => -(2 ^ 62) ≤ j ∧ j < 2 ^ 62 ∧ k 0 1 j.toNat
  | _ => False
def f3R : List Int → (Int → Int → Nat → Prop) → Prop := fun l k => match l with
  | [i, j, c] => ∃ n, RgC i j c n ∧ k i c n
  | _ => False
theorem simi_r1 {K : Frag} {W : WX} {t : TA} {Ma : MA} (ha : SimA K W t Ma) : SimI K W (iRng1 t) (miRng f1R Ma) := by
  intro α s H σ w e R Xp m Q q qx
  refine ha α s H σ w e _ _ m _ (fun v hp1 α1 H1 u m1 e1 w1 r1 => ?_) qx
  obtain ⟨ds, hd, m1⟩ := on.ex m1
  obtain ⟨l, hl, m1⟩ := on.ex m1
  cases ints_ok (r1.vals w1 hd) hl
  match l, m1 with
  | [j], m1 => exact ⟨j, rfl, m1.1, m1.2.1, q _ _ _ α1 H1 _ m1.2.2 e1 w1 walks_r trivial trivial⟩
theorem simi_r3 {K : Frag} {W : WX} {t : TA} {Ma : MA} (ha : SimA K W t Ma) : SimI K W (iRng3 t) (miRng f3R Ma) := by
  intro α s H σ w e R Xp m Q q qx
  refine ha α s H σ w e _ _ m _ (fun v hp1 α1 H1 u m1 e1 w1 r1 => ?_) qx
  obtain ⟨ds, hd, m1⟩ := on.ex m1
  obtain ⟨l, hl, m1⟩ := on.ex m1
  cases ints_ok (r1.vals w1 hd) hl
  match l, m1 with
  | [i, j, c], ⟨n, g, m1⟩ => exact ⟨i, j, c, n, rfl, g, q _ _ _ α1 H1 _ m1 e1 w1 walks_c trivial trivial⟩
def forL (v : Option Wk) (all : List D) (G : MG) (Mb : MS) : List D → MS
  | [] => fun s k => k.nx s
  | d :: ds => fun s k => G (.d d) s fun s1 => Mb s1 { k with nx := fun s2 => still v all s2.hp ∧ forL v all G Mb ds s2 k, ct := fun s2 => still v all s2.hp ∧ forL v all G Mb ds s2 k, bk := k.nx }
def mFor (I : MI) (G : MG) (Mb : MS) : MS := fun s k => I s (fun v ds hp' => forL v ds G Mb ds { s with hp := hp' } k) k.ex
theorem Pre0.trans {ρ : En} {α β : Mp_} {H H1 : Hp} (h : Pre0 ρ α H) (g : Pre0 ⟨α.own, H⟩ β H1) : Pre0 ρ β H1 where
  own := h.own.trans g.own
  nw := fun n p hn q => by
    by_cases hl : n < α.own.length
    · obtain ⟨p', h1, h2, _⟩ := g.own n _ (List.getElem?_eq_getElem hl)
      rw [q] at h1
      cases h1
      rw [h2]
      exact h.nw n _ hn (List.getElem?_eq_getElem hl)
    · exact none_back h.stay (g.nw n p (by show α.own.length ≤ n; omega) q)
  stay := fun a o q => by
    obtain ⟨u, hu⟩ := h.stay a o q
    exact g.stay a u hu
theorem Pre0.refl {α : Mp_} {H : Hp} : Pre0 ⟨α.own, H⟩ α H := ⟨OwnLe.refl _, fun _ _ h z => (at_none h z).elim, fun _ o h => ⟨o, h⟩⟩
theorem Here.up {K : Frag} {ρ : En} {α β : Mp_} {s : PS} {H H1 : Hp} {σ : L2.St} (pre : Pre0 ρ α H) (h : Here K ⟨α.own, H⟩ β s H1 σ) : Here K ρ β s H1 σ := ⟨pre.trans h.pre, trivial, h.ok, h.env⟩
theorem Here.new {K : Frag} {ρ : En} {α : Mp_} {s : PS} {H : Hp} {σ : L2.St} (h : Here K ρ α s H σ) : Here K ⟨α.own, H⟩ α s H σ := ⟨Pre0.refl, trivial, h.ok, h.env⟩
theorem PostN.up {K : Frag} {ρ : En} {α β : Mp_} {hp1 : List O} {H H1 : Hp} {N : PS → Prop} {Dn : L2.St → Hp → Prop} (pre : Pre0 ρ α H) (p : PostN K ρ β hp1 H1 N Dn) : PostN K ⟨α.own, H⟩ β hp1 H1 N Dn := fun s' a h' σ' n i st b => p s' a h' σ' n (i.up pre) st b
theorem PostS.up {K : Frag} {W : WX} {ρ : En} {α β : Mp_} {hp1 : List O} {H H1 : Hp} {k : MK} {D : Ends} (pre : Pre0 ρ α H) (p : PostS K W ρ β hp1 H1 k D) : PostS K W ⟨α.own, H⟩ β hp1 H1 k D :=
  ⟨p.nx.up pre, p.bk.up pre, p.ct.up pre, fun v h a h' u r pr w st bb => p.rt v h a h' u r (pre.trans pr) w st bb, fun x h a h' c dd σ' r pr w st bb => p.ex x h a h' c dd σ' r (pre.trans pr) w st bb⟩
theorem sim_for {K : Frag} {W : WX} {wi : TI} {g : TG} {us : List Nat} {t : TS} {I : MI} {G : MG} {Mb : MS} (hi : SimI K W wi I) (hg : SimG K g us G) (hb : SimS K W t Mb) : SimS K W (tFor wi g t) (mFor I G Mb) := by
  intro ρ α s H σ h k m D p
  refine hi α s H σ h.ok h.env _ _ m _ (fun v ds hp1 α1 H1 J m1 e1 w1 wk stl hvl => ?_) (p.postX h.pre)
  have h0 := h.ext e1 w1
  have p1 := (p.at e1.step e1.pre.ban).up h0.pre
  have h1 := h0.new
  let P : Nat → L2.St → Hp → Prop := fun i σ' H' => ∃ α' s', Here K ⟨α1.own, H1⟩ α' s' H' σ' ∧ StepW α1 hp1 H1 α' s'.hp H' ∧ α'.ban = α1.ban ∧ still v ds s'.hp ∧ forL v ds G Mb (ds.drop i) s' k
  refine ⟨fun i m σ' H' => m = ds.length - i ∧ i ≤ ds.length ∧ P i σ' H', ⟨ds.length, by simp, Nat.zero_le _, α1, { s with hp := hp1 }, h1, Step.refl al_sub, rfl, stl, by rw [List.drop_zero]; exact m1⟩, ?_⟩
  rintro i m σ' H' ⟨rfl, hil, α', s', h', st, bb, stl', mm⟩
  obtain ⟨w2, w3⟩ := wk α' s'.hp H' st.toA (own_same h'.pre.own hvl) h'.ok stl'
  by_cases hlt : i < ds.length
  · obtain ⟨go, yl⟩ := w2 i ds[i] (List.getElem?_eq_getElem hlt)
    refine .inr ⟨go, P (i + 1), fun σ2 H2 q => ⟨ds.length - (i + 1), by omega, rfl, hlt, q⟩, fun x H2 y => ?_⟩
    obtain ⟨gr, rx⟩ := yl x H2 y
    obtain ⟨e2, wk2⟩ := h'.ok.grown gr
    rw [List.drop_eq_getElem_cons hlt] at mm
    have p2 := (p1.at st bb).at e2.step e2.pre.ban
    refine hg ⟨α1.own, H1⟩ α' { s' with hp := s'.hp } H2 σ' (.d ds[i]) x (h'.ext e2 wk2) rx _ mm _ fun s3 α3 H3 σ3 n3 i3 e3 _ => ?_
    have p3 := p2.at e3.step e3.pre.ban
    have nn : PostN K ⟨α1.own, H1⟩ α3 s3.hp H3 (fun s2 => still v ds s2.hp ∧ forL v ds G Mb (ds.drop (i + 1)) s2 k) (P (i + 1)) := fun s4 α4 H4 σ4 n4 i4 st4 b4 =>
      ⟨α4, s4, i4, ((st.trans e2.step).trans e3.step).trans st4, b4.trans (e3.pre.ban.trans (e2.pre.ban.trans bb)), n4.1, n4.2⟩
    exact hb ⟨α1.own, H1⟩ α3 s3 H3 σ3 i3 _ n3 _ ⟨nn, p3.nx, nn, p3.rt, p3.ex⟩
  · have e : i = ds.length := by omega
    subst e
    rw [List.drop_length] at mm
    exact .inl ⟨w3, (p1.at st bb).nx s' α' H' σ' mm h' (Step.refl al_sub) rfl⟩
end Mp
set_option Elab.async false
set_option linter.all false
set_option maxRecDepth 100000
set_option maxHeartbeats 4000000
namespace Mp
open PySem PySem.Spec PyProof.Rows L2
def isD : S → Option D
  | .d x => some x
  | _ => none
@[simp] theorem isD_d {x : D} : isD (.d x) = some x := rfl
theorem SRep.isD {K : Frag} {α : Mp_} {hp : List O} {H : Hp} {s : S} {v : V} {d : D} (h : SRep K α hp H s v) (e : Mp.isD s = some d) : Rep K (Al α hp) H d v := by
  cases s with
  | d x => cases e; exact h
  | mu n => cases e
  | ob _ _ => cases e
  | exn _ _ _ _ => cases e
def noX : MX := fun _ _ => False
def wipeE (env : List (Option S)) : List Nat → List (Option S)
  | [] => env
  | v :: vs => (wipeE env vs).set v none
theorem wipe_get (σ : L2.St) (i : Nat) : ∀ vs : List Nat, (wipe σ vs)[i]? = if i ∈ vs then (if i < σ.length then some none else none) else σ[i]?
  | [] => by simp [wipe]
  | v :: vs => by
    unfold wipe
    by_cases h : v = i
    · subst h
      by_cases hl : v < σ.length
      · rw [List.getElem?_set_self (by rw [wipe_length]; exact hl)]; simp [hl]
      · rw [List.getElem?_eq_none (by rw [List.length_set, wipe_length]; omega)]; simp [hl]
    · rw [List.getElem?_set_ne h, wipe_get σ i vs]
      simp [Ne.symm h]
theorem wipeE_get (σ : List (Option S)) (i : Nat) : ∀ vs : List Nat, (wipeE σ vs)[i]? = if i ∈ vs then (if i < σ.length then some none else none) else σ[i]?
  | [] => by simp [wipeE]
  | v :: vs => by
    have hl0 : ∀ ws : List Nat, (wipeE σ ws).length = σ.length := fun ws => by
      induction ws with
      | nil => rfl
      | cons w ws ih => unfold wipeE; rw [List.length_set, ih]
    unfold wipeE
    by_cases h : v = i
    · subst h
      by_cases hl : v < σ.length
      · rw [List.getElem?_set_self (by rw [hl0]; exact hl)]; simp [hl]
      · rw [List.getElem?_eq_none (by rw [List.length_set, hl0]; omega)]; simp [hl]
    · rw [List.getElem?_set_ne h, wipeE_get σ i vs]
      simp [Ne.symm h]
theorem EnvR.wipe {K : Frag} {α : Mp_} {hp : List O} {H : Hp} {env : List (Option S)} {σ : L2.St} (e : EnvR K α hp H env σ) (vs : List Nat) : EnvR K α hp H (wipeE env vs) (wipe σ vs) := by
  refine ⟨?_, fun i s hi => ?_⟩
  · rw [wipe_length, ← e.1]
    induction vs with
    | nil => rfl
    | cons w ws ih => unfold wipeE; rw [List.length_set, ih]
  · rw [wipeE_get] at hi
    rw [wipe_get]
    by_cases h : i ∈ vs
    · rw [if_pos h] at hi
      split at hi <;> cases hi
    · rw [if_neg h] at hi ⊢
      exact e.2 i s hi
theorem wipe_back {σ σ2 : L2.St} {us vs : List Nat} (hl : σ2.length = σ.length) (hs : ∀ u ∈ us, u ∈ vs) (h : ∀ i, i ∉ us → σ2[i]? = (wipe σ vs)[i]?) : wipe σ2 vs = wipe σ vs := by
  apply List.ext_getElem?
  intro i
  rw [wipe_get, wipe_get, hl]
  by_cases hi : i ∈ vs
  · rw [if_pos hi, if_pos hi]
  · rw [if_neg hi, if_neg hi, h i fun z => hi (hs i z), wipe_get, if_neg hi]
theorem WOk.unban {K : Frag} {α : Mp_} {hp : List O} {H : Hp} {b : Av} (w : WOk K α hp H) (hb : ∀ a, b a → α.ban a) : WOk K { α with ban := b } hp H ∧ StepW α hp H { α with ban := b } hp H := by
  have st : StepW α hp H { α with ban := b } hp H := ⟨fun _ _ h _ => h, fun a h => .inl (h.imp id (hb a)), fun _ h => .inl h, al_sub, fun _ o h => ⟨o, h⟩⟩
  exact ⟨⟨w.len, fun n o p h1 h2 => (w.obj n o p h1 h2).mono st fun _ _ _ => rfl, w.one, w.inj, fun a h => w.ban a (hb a h)⟩, st⟩
theorem stay_upd {H : Hp} {p : Addr} {o : HO} : ∀ a u, H a = some u → ∃ w, upd H p o a = some w := fun a u e => by
  by_cases z : a = p
  · subst z; exact ⟨o, upd_same⟩
  · exact ⟨u, by rw [upd_ne z]; exact e⟩
theorem stepBan {α : Mp_} {hp : List O} {H : Hp} {p : Addr} {o : HO} (hp' : α.ban p) : Step (Al α hp) (Al α hp) H (Al α hp) (Al α hp) (upd H p o) :=
  ⟨fun a u e n => by
    have z : a ≠ p := fun z => by subst z; exact n (.inr hp')
    rw [upd_ne z]; exact e, fun _ h => .inl h, fun _ h => .inl h, fun _ h => h, stay_upd⟩
theorem WOk.setBan {K : Frag} {α : Mp_} {hp : List O} {H : Hp} {p : Addr} {o : HO} (w : WOk K α hp H) (hb : α.ban p) : WOk K α hp (upd H p o) :=
  ⟨w.len, fun n u q h1 h2 => (w.obj n u q h1 h2).mono (stepBan hb) fun hg b hz => upd_ne fun z => (w.ban p hb).2 (z ▸ ⟨n, q, u, h2, h1, hg, hz⟩), w.one, w.inj, fun a ha => by
    refine ⟨?_, (w.ban a ha).2⟩
    by_cases z : a = p
    · subst z; exact ⟨o, upd_same⟩
    · obtain ⟨x, hx⟩ := (w.ban a ha).1
      exact ⟨x, by rw [upd_ne z]; exact hx⟩⟩
def compL (v : Option Wk) (all : List D) (G : MG) (Mt : MT) (Me : ME) (env0 : List (Option S)) : List D → List D → List O → (List D → List O → Prop) → Prop
  | [], acc, hp, R => R acc hp
  | d :: ds, acc, hp, R => G (.d d) ⟨hp, env0, hp.length⟩ fun s1 => Mt s1 (fun b hp2 => if b = true then Me { s1 with hp := hp2 } (fun y hp3 => on (isD y) fun dy => acc.length < sizeLine ∧ still v all hp3 ∧ compL v all G Mt Me env0 ds (acc ++ [dy]) hp3 R) noX
      else still v all hp2 ∧ compL v all G Mt Me env0 ds acc hp2 R) noX
def mLc (I : MI) (G : MG) (Mt : MT) (Me : ME) (vs : List Nat) : ME := fun s R Xp => I s (fun v ds hp' => compL v ds G Mt Me (wipeE s.env vs) ds [] hp' fun acc hp2 => R (.d (.lst acc)) hp2) Xp
theorem postX_no {K : Frag} {W : WX} {σ : L2.St} {α : Mp_} {hp : List O} {H : Hp} : PostX K W σ α hp H noX := fun _ _ _ _ _ _ z => z.elim
structure Built (K : Frag) (α1 : Mp_) (hp1 : List O) (H1 : Hp) (p : Addr) (α' : Mp_) (hp' : List O) (H' : Hp) (acc : List D) : Prop where
  pre : OwnLe α1.own α'.own
  ban : α'.ban = fun a => α1.ban a ∨ a = p
  ok : WOk K α' hp' H'
  step : StepW α1 hp1 H1 α' hp' H'
  nw : ∀ (n : Nat) (p : Addr × List Addr), α1.own.length ≤ n → α'.own[n]? = some p → H1 p.1 = none
  at_ : ∃ us, H' p = some (.lst us) ∧ RepL K (Al α' hp') H' acc us
theorem Built.go {K : Frag} {α1 α2 α3 : Mp_} {hp1 hp2 hp3 : List O} {H1 H2 H3 : Hp} {p : Addr} {acc : List D} (b : Built K α1 hp1 H1 p α2 hp2 H2 acc) (e : Ext α2 hp2 H2 α3 hp3 H3) (w : WOk K α3 hp3 H3) : Built K α1 hp1 H1 p α3 hp3 H3 acc := by
  obtain ⟨us, h1, h2⟩ := b.at_
  refine ⟨b.pre.trans e.pre.own, e.pre.ban.trans b.ban, w, b.step.trans e.step, fun n q h z => ?_, us, e.step.keep p _ h1 ?_, RepL.mono e.step _ _ h2⟩
  · by_cases hn : n < α2.own.length
    · obtain ⟨q', h3, h4⟩ := e.pre.get (List.getElem?_eq_getElem hn)
      rw [z] at h3
      cases h3
      rw [h4]
      exact b.nw n _ h (List.getElem?_eq_getElem hn)
    · exact none_back b.step.stay (e.nw n q (by omega) z)
  · exact (b.ok.ban p (by rw [b.ban]; exact .inr rfl)).2
theorem Built.app {K : Frag} {α1 α2 : Mp_} {hp1 hp2 : List O} {H1 H2 : Hp} {p : Addr} {acc : List D} {d : D} {u : V} (hn : H1 p = none) (b : Built K α1 hp1 H1 p α2 hp2 H2 acc) (r : Rep K (Al α2 hp2) H2 d u) :
    ∃ us, H2 p = some (.lst us) ∧ us.length = acc.length ∧ Built K α1 hp1 H1 p α2 hp2 (upd H2 p (.lst (us ++ [u]))) (acc ++ [d]) := by
  obtain ⟨us, h1, h2⟩ := b.at_
  have hb : α2.ban p := by rw [b.ban]; exact .inr rfl
  refine ⟨us, h1, h2.length.symm, b.pre, b.ban, b.ok.setBan hb, ⟨fun a o e n => by
    have z : a ≠ p := fun z => by subst z; rw [hn] at e; cases e
    rw [upd_ne z]; exact b.step.keep a o e n, b.step.newA, b.step.newM, b.step.sub, fun a o e => by
    obtain ⟨u, hu⟩ := b.step.stay a o e
    exact stay_upd a u hu⟩, b.nw, _, upd_same, ?_⟩
  · exact (RepL.mono (stepBan hb) _ _ h2).append (.cons (Rep.mono (stepBan hb) _ _ r) .nil)
theorem Built.fin {K : Frag} {α1 α2 : Mp_} {hp1 hp2 : List O} {H1 H2 : Hp} {p : Addr} {acc : List D} (w1 : WOk K α1 hp1 H1) (hn : H1 p = none) (b : Built K α1 hp1 H1 p α2 hp2 H2 acc) :
    ∃ α3, Ext α1 hp1 H1 α3 hp2 H2 ∧ WOk K α3 hp2 H2 ∧ Rep K (Al α3 hp2) H2 (.lst acc) (.ref p) := by
  obtain ⟨us, h1, h2⟩ := b.at_
  obtain ⟨w3, st⟩ := b.ok.unban (b := α1.ban) (fun a h => by rw [b.ban]; exact .inl h)
  refine ⟨{ α2 with ban := α1.ban }, ⟨⟨b.pre, rfl⟩, b.step.trans st, b.nw⟩, w3, p, us, rfl, ⟨h1, fun z => ?_⟩, RepL.mono st _ _ h2⟩
  rcases z with z | z
  · exact (b.ok.ban p (by rw [b.ban]; exact .inr rfl)).2 z
  · obtain ⟨o, ho⟩ := (w1.ban p z).1
    rw [hn] at ho
    cases ho
theorem Here.of {K : Frag} {α : Mp_} {hp : List O} {H : Hp} {env : List (Option S)} {σ : L2.St} (w : WOk K α hp H) (e : EnvR K α hp H env σ) : Here K ⟨α.own, H⟩ α ⟨hp, env, hp.length⟩ H σ :=
  ⟨Pre0.refl, trivial, w, e⟩
theorem SRep.monoA {K : Frag} {α β : Mp_} {hp hp1 : List O} {H H1 : Hp} (st : StepA α hp H β hp1 H1) (pre : OwnLe α.own β.own) : ∀ {s : S} {v : V}, SRep K α hp H s v → SRep K β hp1 H1 s v
  | .d x, v, h => Rep.mono st x v h
  | .mu n, v, ⟨p, h, q⟩ => by
    obtain ⟨p', h', e'⟩ := Pre.get (α := α) (β := { β with ban := α.ban }) ⟨pre, rfl⟩ h
    exact ⟨p', h', by rw [q, e']⟩
  | .ob n k, v, ⟨p, a, h, g, q⟩ => by
    obtain ⟨p', h', e1, e2⟩ := pre n p h
    exact ⟨p', a, h', adr_le e1 e2 g, q⟩
  | .exn a c d x, v, ⟨q, h⟩ => ⟨q, h.mono st⟩
theorem EnvR.monoA {K : Frag} {α β : Mp_} {hp hp1 : List O} {H H1 : Hp} (st : StepA α hp H β hp1 H1) (pre : OwnLe α.own β.own) {env : List (Option S)} {σ : L2.St} (h : EnvR K α hp H env σ) : EnvR K β hp1 H1 env σ :=
  ⟨h.1, fun i s hi => by obtain ⟨v, h1, h2⟩ := h.2 i s hi; exact ⟨v, h1, h2.monoA st pre⟩⟩
theorem Walks.at {K : Frag} {J : It} {α β : Mp_} {hp hp1 : List O} {H H1 : Hp} {v : Option Wk} {ds : List D} (wk : Walks K J α hp H v ds) (st : StepA α hp H β hp1 H1) (pre : OwnLe α.own β.own) (w : WOk K α hp H) (hv : sameAt v α α) : Walks K J β hp1 H1 v ds := by
  intro α' hp' H' st' sa w' stl
  exact wk α' hp' H' (st.trans st') ((own_same pre hv).trans sa) w' stl
theorem lc_loop {K : Frag} {W0 : WX} {g : TG} {tt : TT} {te : TE} {us vs : List Nat} {G : MG} {Mt : MT} {Me : ME} (hg : SimG K g us G) (hu : ∀ u ∈ us, u ∈ vs) (ht : SimT K W0 tt Mt) (he : SimE K W0 te Me)
    {α1 α0 : Mp_} {hp1 hp0 : List O} {H1 H0 : Hp} {env : List (Option S)} {σ : L2.St} {v : Option Wk} {ds acc0 : List D} {J : It} {p : Addr} {R : List D → List O → Prop} {Fin : Hp → Prop}
    (hn : H1 p = none) (b0 : Built K α1 hp1 H1 p α0 hp0 H0 acc0) (e0 : EnvR K α0 hp0 H0 env σ) (wk : Walks K J α0 hp0 H0 v ds) (stl : still v ds hp0) (hv : sameAt v α0 α0)
    (m : compL v ds G Mt Me (wipeE env vs) ds acc0 hp0 R) (fin : ∀ α2 hp2 H2 acc, R acc hp2 → Built K α1 hp1 H1 p α2 hp2 H2 acc → StepA α0 hp0 H0 α2 hp2 H2 → OwnLe α0.own α2.own → Fin H2) :
    ∃ W : Nat → Nat → Hp → Prop, (∃ m, W 0 m H0) ∧ ∀ i m H, W i m H → (J.stop i H ∧ Fin H) ∨ (J.go i H ∧ ∃ Nx : Hp → Prop, (∀ H', Nx H' → ∃ m', m' < m ∧ W (i + 1) m' H') ∧ ∀ x H', J.yld i H x H' → g x (wipe σ vs) H' fun σ2 H2 => wipe σ2 vs = wipe σ vs ∧ tt σ2 H2 fun b H3 =>
      if b = true then te σ2 H3 fun y H4 => ∃ acc, H4 p = some (.lst acc) ∧ acc.length < sizeLine ∧ Nx (upd H4 p (.lst (acc ++ [y]))) else Nx H3) := by
  let P : Nat → Hp → Prop := fun i H' => ∃ α' hp' acc, Built K α1 hp1 H1 p α' hp' H' acc ∧ StepA α0 hp0 H0 α' hp' H' ∧ OwnLe α0.own α'.own ∧ still v ds hp' ∧ compL v ds G Mt Me (wipeE env vs) (ds.drop i) acc hp' R
  refine ⟨fun i m H' => m = ds.length - i ∧ i ≤ ds.length ∧ P i H', ⟨ds.length, by simp, Nat.zero_le _, α0, hp0, acc0, b0, Step.refl fun _ h => h, OwnLe.refl _, stl, by rw [List.drop_zero]; exact m⟩, ?_⟩
  rintro i m H' ⟨rfl, hil, α', hp', acc, b, st, pre, stl', mm⟩
  obtain ⟨w2, w3⟩ := wk α' hp' H' st (own_same pre hv) b.ok stl'
  by_cases hlt : i < ds.length
  · obtain ⟨go, yl⟩ := w2 i ds[i] (List.getElem?_eq_getElem hlt)
    refine .inr ⟨go, P (i + 1), fun H2 q => ⟨ds.length - (i + 1), by omega, rfl, hlt, q⟩, fun x H2 y => ?_⟩
    obtain ⟨gr, rx⟩ := yl x H2 y
    obtain ⟨e2, wk2⟩ := b.ok.grown gr
    have b2 := b.go e2 wk2
    have st2 := st.trans e2.step.toA
    rw [List.drop_eq_getElem_cons hlt] at mm
    have env2 : EnvR K α' hp' H2 (wipeE env vs) (wipe σ vs) := EnvR.wipe (e0.monoA st2 pre) vs
    refine hg _ α' ⟨hp', wipeE env vs, hp'.length⟩ H2 _ (.d ds[i]) x (Here.of wk2 env2) rx _ mm _ fun s3 α3 H3 σ3 n3 i3 e3 fr => ?_
    have b3 := b2.go e3 i3.ok
    refine ⟨wipe_back (by rw [fr.1, wipe_length]) hu fr.2, ?_⟩
    refine ht α3 s3 H3 σ3 i3.ok i3.env _ _ n3 _ (fun c hp4 α4 H4 m4 e4 w4 => ?_) postX_no
    have b4 := b3.go e4 w4
    cases c with
    | false => exact ⟨α4, hp4, acc, b4, (st2.trans e3.step.toA).trans e4.step.toA, (pre.trans e3.pre.own).trans e4.pre.own, m4.1, m4.2⟩
    | true =>
      refine he α4 { s3 with hp := hp4 } H4 σ3 w4 (i3.env.mono e4) _ _ m4 _ (fun y5 hp5 α5 H5 u5 m5 e5 w5 r5 => ?_) postX_no
      have b5 := b4.go e5 w5
      obtain ⟨dy, hd, hz, stl5, m5⟩ := on.ex m5
      obtain ⟨ws, h1, h2, b6⟩ := b5.app hn (r5.isD hd)
      have hb : α5.ban p := by rw [b5.ban]; exact .inr rfl
      exact ⟨ws, h1, by rw [h2]; exact hz, α5, hp5, _, b6, (((st2.trans e3.step.toA).trans e4.step.toA).trans e5.step.toA).trans (stepBan hb), ((pre.trans e3.pre.own).trans e4.pre.own).trans e5.pre.own, stl5, m5⟩
  · have e : i = ds.length := by omega
    subst e
    rw [List.drop_length] at mm
    exact .inl ⟨w3, fin α' hp' H' acc mm b st pre⟩
theorem built0 {K : Frag} {α1 : Mp_} {hp1 : List O} {H1 : Hp} {p : Addr} (w1 : WOk K α1 hp1 H1) (hn : H1 p = none) : Built K α1 hp1 H1 p { α1 with ban := fun a => α1.ban a ∨ a = p } hp1 (upd H1 p (.lst [])) [] := by
  obtain ⟨w2, st⟩ := w1.banned (o := .lst []) hn
  exact ⟨OwnLe.refl _, rfl, w2, st, fun n q h z => (at_none h z).elim, [], upd_same, .nil⟩
theorem lc_run {K : Frag} {W0 : WX} {g : TG} {tt : TT} {te : TE} {us vs : List Nat} {G : MG} {Mt : MT} {Me : ME} (hg : SimG K g us G) (hu : ∀ u ∈ us, u ∈ vs) (ht : SimT K W0 tt Mt) (he : SimE K W0 te Me)
    {α1 : Mp_} {hp1 : List O} {H1 : Hp} {env : List (Option S)} {σ : L2.St} {v : Option Wk} {ds : List D} {J : It} {p : Addr} {R : List D → List O → Prop} {Fin : Hp → Prop}
    (w1 : WOk K α1 hp1 H1) (e1 : EnvR K α1 hp1 H1 env σ) (wk : Walks K J α1 hp1 H1 v ds) (stl : still v ds hp1) (hv : sameAt v α1 α1) (hn : H1 p = none)
    (m : compL v ds G Mt Me (wipeE env vs) ds [] hp1 R) (fin : ∀ α2 hp2 H2 acc, R acc hp2 → Built K α1 hp1 H1 p α2 hp2 H2 acc → Fin H2) :
    ∃ W : Nat → Nat → Hp → Prop, (∃ m, W 0 m (upd H1 p (.lst []))) ∧ ∀ i m H, W i m H → (J.stop i H ∧ Fin H) ∨ (J.go i H ∧ ∃ Nx : Hp → Prop, (∀ H', Nx H' → ∃ m', m' < m ∧ W (i + 1) m' H') ∧ ∀ x H', J.yld i H x H' → g x (wipe σ vs) H' fun σ2 H2 => wipe σ2 vs = wipe σ vs ∧ tt σ2 H2 fun b H3 =>
      if b = true then te σ2 H3 fun y H4 => ∃ acc, H4 p = some (.lst acc) ∧ acc.length < sizeLine ∧ Nx (upd H4 p (.lst (acc ++ [y]))) else Nx H3) :=
  lc_loop hg hu ht he hn (built0 w1 hn) (e1.monoA (built0 w1 hn).step.toA (built0 w1 hn).pre) (wk.at (built0 w1 hn).step.toA (built0 w1 hn).pre w1 hv) stl (own_same (built0 w1 hn).pre hv).right m fun α2 hp2 H2 acc r b _ _ => fin α2 hp2 H2 acc r b
theorem sim_lc {K : Frag} {W W0 : WX} {wi : TI} {g : TG} {tt : TT} {te : TE} {us vs : List Nat} {I : MI} {G : MG} {Mt : MT} {Me : ME} (hi : SimI K W wi I) (hg : SimG K g us G) (hu : ∀ u ∈ us, u ∈ vs) (ht : SimT K W0 tt Mt) (he : SimE K W0 te Me) :
    SimE K W (tLc wi g tt te vs) (mLc I G Mt Me vs) := by
  intro α s H σ w e R Xp m Q q qx
  refine hi α s H σ w e _ _ m _ (fun v ds hp1 α1 H1 J m1 e1 w1 wk stl hv => fun p hn => ?_) qx
  refine lc_run hg hu ht he w1 (e.mono e1) wk stl hv hn m1 fun α2 hp2 H2 acc r b => ?_
  obtain ⟨α3, e3, w3, r3⟩ := b.fin w1 hn
  exact q _ _ _ _ _ r (e1.trans e3) w3 r3
end Mp
set_option Elab.async false
set_option linter.all false
set_option maxRecDepth 100000
set_option maxHeartbeats 4000000
namespace Mp
open PySem PySem.Spec PyProof.Rows L2
theorem set_get {τ : Type} {l : List τ} {n m : Nat} {x y : τ} (h : (l.set n x)[m]? = some y) : (n = m ∧ x = y) ∨ (n ≠ m ∧ l[m]? = some y) := by
  by_cases e : n = m
  · subst e
    have hn : n < l.length := by have := (List.getElem?_eq_some_iff.mp h).1; rwa [List.length_set] at this
    rw [List.getElem?_set_self hn] at h
    exact .inl ⟨rfl, Option.some.inj h⟩
  · rw [List.getElem?_set_ne e] at h
    exact .inr ⟨e, h⟩
theorem WOk.put {K : Frag} {α : Mp_} {hp : List O} {H : Hp} {n : Nat} {o o' : O} {p : Addr × List Addr} {x : HO} (w : WOk K α hp H) (h : hp[n]? = some o) (hg : o ≠ .gone) (ha : α.own[n]? = some p) (hg' : o' ≠ .gone)
    (ho : StepW α hp H α (hp.set n o') (upd H p.1 x) → OR K (Al α (hp.set n o')) (upd H p.1 x) p o') : WOk K α (hp.set n o') (upd H p.1 x) ∧ Ext α hp H α (hp.set n o') (upd H p.1 x) := by
  have hn : n < hp.length := (List.getElem?_eq_some_iff.mp h).1
  have mt : ∀ a, Mt α (hp.set n o') a → Mt α hp a := fun a ⟨m, q, u, h1, h2, h3, h4⟩ => by
    rcases set_get h2 with ⟨e, _⟩ | ⟨_, h2⟩
    · subst e
      exact ⟨n, q, o, h1, h, hg, h4⟩
    · exact ⟨m, q, u, h1, h2, h3, h4⟩
  have al : ∀ a, Al α (hp.set n o') a → Al α hp a := fun a z => z.imp (mt a) id
  have hp1 : Mt α hp p.1 := ⟨n, p, o, ha, h, hg, .inl rfl⟩
  have st : StepW α hp H α (hp.set n o') (upd H p.1 x) := ⟨fun a u e z => by
    have : a ≠ p.1 := fun y => by subst y; exact z hp1
    rw [upd_ne this]; exact e, fun a z => .inl (al a z), fun a z => .inl (mt a z), al_sub, stay_upd⟩
  refine ⟨⟨by rw [List.length_set]; exact w.len, fun m u q h1 h2 => ?_, fun m u q h1 h2 hz => ?_, fun m k u u' q q' h1 h2 h3 h4 h5 h6 hne a hx hy => ?_, fun a hb => ?_⟩, ⟨Pre.refl _, st, fun _ _ h e => (at_none h e).elim⟩⟩
  · rcases set_get h1 with ⟨e, e'⟩ | ⟨e, h1⟩
    · subst e e'
      rw [ha] at h2
      cases h2
      exact ho st
    · refine (w.obj m u q h1 h2).mono st fun hz b hb => ?_
      rw [upd_ne fun y => ?_]
      subst y
      exact w.inj n m o u p q h ha hg h1 h2 hz e _ (.inl rfl) hb
  · rcases set_get h1 with ⟨e, e'⟩ | ⟨e, h1⟩
    · subst e
      exact w.one n o q h h2 hg
    · exact w.one m u q h1 h2 hz
  · have f : ∀ {m : Nat} {u : O}, (hp.set n o')[m]? = some u → u ≠ .gone → ∃ u', hp[m]? = some u' ∧ u' ≠ .gone := fun {m u} h1 hz => by
      rcases set_get h1 with ⟨e, e'⟩ | ⟨e, h1⟩
      · subst e; exact ⟨o, h, hg⟩
      · exact ⟨u, h1, hz⟩
    obtain ⟨v, g1, g2⟩ := f h1 h3
    obtain ⟨v', g3, g4⟩ := f h4 h6
    exact w.inj m k v v' q q' g1 h2 g2 g3 h5 g4 hne a hx hy
  · obtain ⟨⟨y, hy⟩, hm⟩ := w.ban a hb
    obtain ⟨z, hz⟩ := st.stay a y hy
    exact ⟨⟨z, hz⟩, fun z => hm (mt a z)⟩
theorem WOk.putLst {K : Frag} {α : Mp_} {hp : List O} {H : Hp} {n : Nat} {ds ds' : List D} {p : Addr × List Addr} {us' : List V} (w : WOk K α hp H) (h : hp[n]? = some (.lst ds)) (ha : α.own[n]? = some p) (r : RepL K (Al α hp) H ds' us') :
    WOk K α (hp.set n (.lst ds')) (upd H p.1 (.lst us')) ∧ Ext α hp H α (hp.set n (.lst ds')) (upd H p.1 (.lst us')) :=
  w.put h (fun z => by cases z) ha (fun z => by cases z) fun st => ⟨(w.obj n _ p h ha).1, us', upd_same, RepL.mono st _ _ r⟩
def lstAt (hp : List O) (n : Nat) : Option (List D) := match hp[n]? with
  | some (.lst ds) => some ds
  | _ => none
theorem lstAt_some {hp : List O} {n : Nat} {ds : List D} (h : hp[n]? = some (.lst ds)) : lstAt hp n = some ds := by unfold lstAt; rw [h]
theorem lstAt_get {hp : List O} {n : Nat} {ds : List D} (h : lstAt hp n = some ds) : hp[n]? = some (.lst ds) := by
  unfold lstAt at h
  split at h
  · rename_i q; cases h; exact q
  · cases h
def dctAt (hp : List O) (n : Nat) : Option (List (Key × D)) := match hp[n]? with
  | some (.dct ds) => some ds
  | _ => none
theorem dctAt_get {hp : List O} {n : Nat} {ds : List (Key × D)} (h : dctAt hp n = some ds) : hp[n]? = some (.dct ds) := by
  unfold dctAt at h
  split at h
  · rename_i q; cases h; exact q
  · cases h
def asMu : S → Option Nat
  | .mu n => some n
  | _ => none
@[simp] theorem asMu_mu {n : Nat} : asMu (.mu n) = some n := rfl
theorem SRep.asMu {K : Frag} {α : Mp_} {hp : List O} {H : Hp} {s : S} {v : V} {n : Nat} (h : SRep K α hp H s v) (e : Mp.asMu s = some n) : ∃ p, α.own[n]? = some p ∧ v = .ref p.1 := by
  cases s with
  | d _ => cases e
  | mu m => cases e; exact h
  | ob _ _ => cases e
  | exn _ _ _ _ => cases e
theorem tyV_list {K : Frag} {H : Hp} {a : Addr} {us : List V} (h : H a = some (.lst us)) : tyV K "list" (.ref a) H := .inl ⟨rfl, _, .inl (.inl h)⟩
theorem WOk.lstOf {K : Frag} {α : Mp_} {hp : List O} {H : Hp} {n : Nat} {ds : List D} {p : Addr × List Addr} (w : WOk K α hp H) (h : lstAt hp n = some ds) (ha : α.own[n]? = some p) : ∃ us, H p.1 = some (.lst us) ∧ RepL K (Al α hp) H ds us := (w.obj n _ p (lstAt_get h) ha).2
abbrev FM := List D → List D → (D → List D → Prop) → Prop
def args (x : Bool) (hp : List O) (vs : List S) : Option (List D) := if x then vals hp vs else allD vs
def SimM (K : Frag) (x : Bool) (r : V → List V → Hp → VK → Prop) (f : FM) : Prop := ∀ (A : Av) (H : Hp) (a : Addr) (ds es : List D) (us vs : List V), H a = some (.lst us) → RepL K A H ds us → (if x then RepTL K A H es vs else RepL K A H es vs) → ∀ P, f ds es P → ∀ Q : VK,
  (∀ d ds' v us', P d ds' → (∀ A' H', (∀ e u, Rep K A H e u → Rep K A' H' e u) → Rep K A' H' d v) → RepL K A H ds' us' → Q v (upd H a (.lst us'))) → r (.ref a) vs H Q
def mMeth (x : Bool) (f : FM) (Mo : ME) (Ma : MA) : ME := fun s R Xp => Mo s (fun o hp1 => on (asMu o) fun n => on (lstAt hp1 n) fun _ => Ma { s with hp := hp1 } (fun vs hp2 => on (lstAt hp2 n) fun ds => on (args x hp2 vs) fun es => f ds es fun d ds' => R (.d d) (hp2.set n (.lst ds'))) Xp) Xp
theorem SRepL.args {K : Frag} {α : Mp_} {hp : List O} {H : Hp} (w : WOk K α hp H) {x : Bool} {vs : List S} {us : List V} {es : List D} (r : SRepL K α hp H vs us) (h : args x hp vs = some es) : if x then RepTL K (Al α hp) H es us else RepL K (Al α hp) H es us := by
  cases x with
  | true => exact r.vals w h
  | false => exact r.allD h
theorem sim_meth {K : Frag} {W : WX} {x : Bool} {r : V → List V → Hp → VK → Prop} {f : FM} {to : TE} {t : TA} {Mo : ME} {Ma : MA} (hr : SimM K x r f) (ho : SimE K W to Mo) (ha : SimA K W t Ma) : SimE K W (tBM K "list" r to t) (mMeth x f Mo Ma) := by
  intro α s H σ w e R Xp m Q q qx
  refine ho α s H σ w e _ _ m _ (fun o hp1 α1 H1 u m1 e1 w1 r1 => ?_) qx
  obtain ⟨n, g1, m1⟩ := on.ex m1
  obtain ⟨ds0, g2, m1⟩ := on.ex m1
  obtain ⟨p, h1, h2⟩ := r1.asMu g1
  obtain ⟨us0, h3, _⟩ := w1.lstOf g2 h1
  subst h2
  refine ⟨tyV_list h3, ha α1 { s with hp := hp1 } H1 σ w1 (e.mono e1) _ _ m1 _ (fun vs hp2 α2 H2 ws m2 e2 w2 r2 => ?_) (qx.at e1)⟩
  obtain ⟨ds, g3, m2⟩ := on.ex m2
  obtain ⟨es, g4, m2⟩ := on.ex m2
  obtain ⟨p2, h4, h5⟩ := e2.pre.get h1
  obtain ⟨us, h6, h7⟩ := w2.lstOf g3 h4
  rw [← h5]
  refine hr _ H2 p2.1 ds es us ws h6 h7 (r2.args w2 g4) _ m2 Q fun d ds' v us' pp rd rl => ?_
  obtain ⟨w3, e3⟩ := w2.putLst (lstAt_get g3) h4 rl
  exact q _ _ α2 _ v pp ((e1.trans e2).trans e3) w3 (rd _ _ fun _ _ h => Rep.mono e3.step _ _ h)
def fAppend : FM := fun ds es P => one es fun e => ds.length < sizeLine ∧ P .non (ds ++ [e])
theorem sim_append {K : Frag} : SimM K false rAppend fAppend := by
  intro A H a ds es us vs h r re P p Q q
  match es, vs, re, p with
  | [e], _, ⟨v, t, ev, h1, h2⟩, p =>
    cases h2
    subst ev
    exact ⟨a, us, v, rfl, rfl, h, by rw [← r.length]; exact p.1, q .non _ .non _ p.2 (fun _ _ _ => rfl) (r.append (.cons h1 .nil))⟩
def fExtend : FM := fun ds es P => one es fun e => on (match e with | .lst zs => some zs | _ => none) fun zs => ds.length + zs.length ≤ sizeLine ∧ P .non (ds ++ zs)
theorem sim_extend {K : Frag} : SimM K true rExtend fExtend := by
  intro A H a ds es us vs h r re P p Q q
  obtain ⟨d, v, rfl, r1, p⟩ := p.ex re
  obtain ⟨zs, g, p1, p2⟩ := on.ex p
  cases d with
  | lst ys =>
    cases g
    obtain ⟨b, ws, rfl, h1, h2⟩ := r1
    exact ⟨a, b, us, ws, rfl, rfl, h, h1, by rw [← r.length, ← h2.length]; exact p1, q .non _ .non _ p2 (fun _ _ _ => rfl) (r.append h2)⟩
  | _ => cases g
def mgSub (Mo Mi : ME) : MG := fun v s N => Mo s (fun o hp1 => Mi { s with hp := hp1 } (fun i hp2 => on (asMu o) fun n => on (lstAt hp2 n) fun ds => on (isD i) fun di => on (asI di) fun k => on (ixN ds.length k) fun j => on (isD v) fun d => N { s with hp := hp2.set n (.lst (ds.set j d)) }) noX) noX
theorem simg_sub {K : Frag} {W : WX} {to ti : TE} {Mo Mi : ME} (ho : SimE K W to Mo) (hi : SimE K W ti Mi) : SimG K (gSub to ti rSetL) [] (mgSub Mo Mi) := by
  intro ρ α s H σ v u h rv N m Q q
  refine ho α s H σ h.ok h.env _ _ m _ (fun o hp1 α1 H1 uo m1 e1 w1 r1 => ?_) postX_no
  refine hi α1 { s with hp := hp1 } H1 σ w1 (h.env.mono e1) _ _ m1 _ (fun i hp2 α2 H2 ui m2 e2 w2 r2 => ?_) postX_no
  obtain ⟨n, g1, m2⟩ := on.ex m2
  obtain ⟨ds, g2, m2⟩ := on.ex m2
  obtain ⟨di, g3, m2⟩ := on.ex m2
  obtain ⟨k, g4, m2⟩ := on.ex m2
  obtain ⟨j, g5, m2⟩ := on.ex m2
  obtain ⟨d, g6, m2⟩ := on.ex m2
  obtain ⟨p, h1, h2⟩ := (r1.mono e2).asMu g1
  obtain ⟨us, h3, h4⟩ := w2.lstOf g2 h1
  subst h2
  have rd := (rv.mono (e1.trans e2)).isD g6
  obtain ⟨w3, e3⟩ := w2.putLst (lstAt_get g2) h1 (h4.set j rd)
  refine ⟨p.1, us, k, j, rfl, (r2.isD g3).t.asI g4, h3, by rw [← h4.length]; exact g5, ?_⟩
  exact q _ α2 _ σ m2 (h.ext ((e1.trans e2).trans e3) w3) ((e1.trans e2).trans e3) ⟨rfl, fun _ _ => rfl⟩
def mgsNil : List D → PS → (PS → Prop) → Prop := fun ds s N => match ds with
  | [] => N s
  | _ => False
def mgsCons (G : MG) (Gs : List D → PS → (PS → Prop) → Prop) : List D → PS → (PS → Prop) → Prop := fun ds s N => match ds with
  | d :: r => G (.d d) s fun s1 => Gs r s1 N
  | _ => False
def SimGs (K : Frag) (g : TGs) (us : List Nat) (M : List D → PS → (PS → Prop) → Prop) : Prop := ∀ (ρ : En) (α : Mp_) (s : PS) (H : Hp) (σ : L2.St) (ds : List D) (vs : List V), Here K ρ α s H σ → RepL K (Al α s.hp) H ds vs → ∀ N, M ds s N → ∀ Q : L2.St → Hp → Prop,
  (∀ s' α' H' σ', N s' → Here K ρ α' s' H' σ' → Ext α s.hp H α' s'.hp H' → (σ'.length = σ.length ∧ ∀ i, i ∉ us → σ'[i]? = σ[i]?) → Q σ' H') → g vs σ H Q
theorem simgs_nil {K : Frag} : SimGs K gNil [] mgsNil := by
  intro ρ α s H σ ds vs h r N m Q q
  match ds, vs, r, m with
  | [], _, r, m => cases r; exact ⟨rfl, q s α H σ m h Ext.refl ⟨rfl, fun _ _ => rfl⟩⟩
theorem simgs_cons {K : Frag} {g : TG} {gs : TGs} {us ws : List Nat} {G : MG} {Gs : List D → PS → (PS → Prop) → Prop} (h1 : SimG K g us G) (h2 : SimGs K gs ws Gs) : SimGs K (gCons g gs) (us ++ ws) (mgsCons G Gs) := by
  intro ρ α s H σ ds vs h r N m Q q
  match ds, vs, r, m with
  | d :: ds, _, ⟨v, t, e, r1, r2⟩, m =>
    subst e
    refine ⟨v, t, rfl, h1 ρ α s H σ (.d d) v h r1 _ m _ fun s1 α1 H1 σ1 n1 i1 e1 f1 => ?_⟩
    refine h2 ρ α1 s1 H1 σ1 ds t i1 (RepL.mono e1.step _ _ r2) _ n1 _ fun s2 α2 H2 σ2 n2 i2 e2 f2 => ?_
    refine q s2 α2 H2 σ2 n2 i2 (e1.trans e2) ⟨f2.1.trans f1.1, fun i hi => ?_⟩
    rw [List.mem_append, not_or] at hi
    exact (f2.2 i hi.2).trans (f1.2 i hi.1)
def mgTup (n : Nat) (Gs : List D → PS → (PS → Prop) → Prop) : MG := fun v s N => on (isD v) fun d => on (asTup d) fun ds => ds.length = n ∧ Gs ds s N
theorem simg_tup {K : Frag} {n : Nat} {gs : TGs} {us : List Nat} {Gs : List D → PS → (PS → Prop) → Prop} (h : SimGs K gs us Gs) : SimG K (gTup K n gs) us (mgTup n Gs) := by
  intro ρ α s H σ v u hh r N m Q q
  obtain ⟨d, g1, m⟩ := on.ex m
  obtain ⟨ds, g2, m1, m2⟩ := on.ex m
  have rd := r.isD g1
  cases d with
  | tup ds' =>
    cases g2
    obtain ⟨a, vs, e, h1, h2⟩ := tup_sq rd
    exact ⟨a, vs, e, h1, by rw [← h2.length]; exact m1, h ρ α s H σ ds vs hh h2 N m2 Q q⟩
  | _ => cases g2
end Mp
set_option Elab.async false
set_option linter.all false
set_option maxRecDepth 100000
set_option maxHeartbeats 4000000
namespace Mp
open PySem PySem.Spec PyProof.Rows L2
def keyD : D → Option Key
  | .int i => some (.inl i)
  | .str x => some (.inr x)
  | _ => none
@[simp] theorem keyD_int {i : Int} : keyD (.int i) = some (.inl i) := rfl
@[simp] theorem keyD_str {i : Str} : keyD (.str i) = some (.inr i) := rfl
theorem Rep.key {K : Frag} {A : Av} {H : Hp} {d : D} {v : V} {k : Key} (h : Rep K A H d v) (e : keyD d = some k) : v = kV k := by
  cases d with
  | int i => cases e; exact h
  | str i => cases e; exact h
  | _ => cases e
def getK (l : List (Key × D)) (k : Key) : Option D := (l.find? fun kv => decide (kv.1 = k)).map (·.2)
def setK (l : List (Key × D)) (k : Key) (d : D) : List (Key × D) :=
  if (l.any fun kv => decide (kv.1 = k)) = true then l.map (fun kv => if kv.1 = k then (kv.1, d) else kv) else l ++ [(k, d)]
section
variable {K : Frag} {A : Av} {H : Hp}
theorem RepK.get : ∀ {l : List (Key × D)} {ws : List (Key × V)} {k : Key} {d : D}, RepK K A H l ws → getK l k = some d → ∃ v, valV ws k = some v ∧ Rep K A H d v
  | [], _, k, d, _, e => by cases e
  | (j, x) :: r, _, k, d, ⟨v, t, e, h, q⟩, g => by
    subst e
    unfold getK valV at *
    rw [List.find?_cons] at g ⊢
    by_cases hj : j = k
    · simp only [hj, decide_true, Option.map_some] at g ⊢
      cases g
      exact ⟨v, rfl, h⟩
    · simp only [hj, decide_false] at g ⊢
      exact RepK.get q g
theorem RepK.none : ∀ {l : List (Key × D)} {ws : List (Key × V)} {k : Key}, RepK K A H l ws → getK l k = none → valV ws k = none
  | [], _, k, h, _ => by cases h; rfl
  | (j, x) :: r, _, k, ⟨v, t, e, h, q⟩, g => by
    subst e
    unfold getK valV at *
    rw [List.find?_cons] at g ⊢
    by_cases hj : j = k
    · simp only [hj, decide_true, Option.map_some] at g
      cases g
    · simp only [hj, decide_false] at g ⊢
      exact RepK.none q g
theorem RepK.any (k : Key) : ∀ {l : List (Key × D)} {ws : List (Key × V)}, RepK K A H l ws → (ws.any fun kv => decide (kv.1 = k)) = l.any fun kv => decide (kv.1 = k)
  | [], _, h => by cases h; rfl
  | (j, x) :: r, _, ⟨v, t, e, h, q⟩ => by subst e; rw [List.any_cons, List.any_cons, RepK.any k q]
theorem RepK.len : ∀ {l : List (Key × D)} {ws : List (Key × V)}, RepK K A H l ws → l.length = ws.length
  | [], _, h => by cases h; rfl
  | (j, x) :: r, _, ⟨v, t, e, h, q⟩ => by subst e; exact congrArg Nat.succ (RepK.len q)
theorem RepK.app : ∀ {l m : List (Key × D)} {ws us : List (Key × V)}, RepK K A H l ws → RepK K A H m us → RepK K A H (l ++ m) (ws ++ us)
  | [], _, _, _, h, g => by cases h; exact g
  | (j, x) :: r, _, _, _, ⟨v, t, e, h, q⟩, g => by subst e; exact ⟨v, t ++ _, rfl, h, RepK.app q g⟩
theorem RepK.repl (k : Key) {d : D} {u : V} (hd : Rep K A H d u) : ∀ {l : List (Key × D)} {ws : List (Key × V)}, RepK K A H l ws → RepK K A H (l.map fun kv => if kv.1 = k then (kv.1, d) else kv) (ws.map fun kv => if kv.1 = k then (kv.1, u) else kv)
  | [], _, h => by cases h; rfl
  | (j, x) :: r, _, ⟨v, t, e, h, q⟩ => by
    subst e
    rw [List.map_cons, List.map_cons]
    by_cases hj : j = k
    · simp only [hj, if_true]; exact ⟨u, _, rfl, hd, RepK.repl k hd q⟩
    · simp only [hj, if_false]; exact ⟨v, _, rfl, h, RepK.repl k hd q⟩
theorem RepK.set {l : List (Key × D)} {ws : List (Key × V)} (k : Key) {d : D} {u : V} (hd : Rep K A H d u) (h : RepK K A H l ws) : RepK K A H (setK l k d) (putK ws k u) := by
  unfold setK putK
  rw [h.any k]
  split
  · exact h.repl k hd
  · exact h.app ⟨u, [], rfl, hd, rfl⟩
end
theorem WOk.dctOf {K : Frag} {α : Mp_} {hp : List O} {H : Hp} {n : Nat} {ds : List (Key × D)} {p : Addr × List Addr} (w : WOk K α hp H) (h : dctAt hp n = some ds) (ha : α.own[n]? = some p) : ∃ us, H p.1 = some (.dK us) ∧ RepK K (Al α hp) H ds us := (w.obj n _ p (dctAt_get h) ha).2
def mDGet (Md Mk : ME) : ME := fun s R Xp => Md s (fun o hp1 => Mk { s with hp := hp1 } (fun y hp2 => on (asMu o) fun n => on (dctAt hp2 n) fun l => on (isD y) fun dy => on (keyD dy) fun k => on (getK l k) fun d => R (.d d) hp2) Xp) Xp
theorem sim_dget {K : Frag} {W : WX} {td ty : TE} {Md Mk : ME} (hd : SimE K W td Md) (hk : SimE K W ty Mk) : SimE K W (tDGet td ty) (mDGet Md Mk) := by
  intro α s H σ w e R Xp m Q q qx
  refine hd α s H σ w e _ _ m _ (fun o hp1 α1 H1 u m1 e1 w1 r1 => ?_) qx
  refine hk α1 { s with hp := hp1 } H1 σ w1 (e.mono e1) _ _ m1 _ (fun y hp2 α2 H2 uy m2 e2 w2 r2 => ?_) (qx.at e1)
  obtain ⟨n, g1, m2⟩ := on.ex m2
  obtain ⟨l, g2, m2⟩ := on.ex m2
  obtain ⟨dy, g3, m2⟩ := on.ex m2
  obtain ⟨k, g4, m2⟩ := on.ex m2
  obtain ⟨d, g5, m2⟩ := on.ex m2
  obtain ⟨p, h1, h2⟩ := (r1.mono e2).asMu g1
  obtain ⟨us, h3, h4⟩ := w2.dctOf g2 h1
  obtain ⟨v, h5, h6⟩ := h4.get g5
  subst h2
  refine ⟨p.1, v, rfl, ?_, q _ _ α2 H2 v m2 (e1.trans e2) w2 h6⟩
  rw [(r2.isD g3).key g4, ← h5]
  exact DGet.k h3
theorem RepK.isSome {K : Frag} {A : Av} {H : Hp} {l : List (Key × D)} {ws : List (Key × V)} {k : Key} (h : RepK K A H l ws) : (valV ws k).isSome = (getK l k).isSome := by
  cases e : getK l k with
  | none => rw [h.none e]; rfl
  | some d => obtain ⟨v, h1, _⟩ := h.get e; rw [h1]; rfl
def mDPut (Md Mk Me : ME) : MS := fun s k => Me s (fun v hp1 => Md { s with hp := hp1 } (fun o hp2 => Mk { s with hp := hp2 } (fun y hp3 => on (asMu o) fun n => on (dctAt hp3 n) fun l => on (isD y) fun dy => on (keyD dy) fun key => on (isD v) fun d => l.length < sizeLine ∧
  k.nx { s with hp := hp3.set n (.dct (setK l key d)) }) k.ex) k.ex) k.ex
theorem sim_dput {K : Frag} {W : WX} {td ty tv : TE} {Md Mk Me : ME} (hd : SimE K W td Md) (hk : SimE K W ty Mk) (he : SimE K W tv Me) : SimS K W (sDPut td ty tv) (mDPut Md Mk Me) := by
  intro ρ α s H σ h k m D p
  have px := p.postX (σ := σ) h.pre
  refine he α s H σ h.ok h.env _ _ m _ (fun v hp1 α1 H1 u m1 e1 w1 r1 => ?_) px
  refine hd α1 { s with hp := hp1 } H1 σ w1 (h.env.mono e1) _ _ m1 _ (fun o hp2 α2 H2 uo m2 e2 w2 r2 => ?_) (px.at e1)
  refine hk α2 { s with hp := hp2 } H2 σ w2 ((h.env.mono e1).mono e2) _ _ m2 _ (fun y hp3 α3 H3 uy m3 e3 w3 r3 => ?_) ((px.at e1).at e2)
  obtain ⟨n, g1, m3⟩ := on.ex m3
  obtain ⟨l, g2, m3⟩ := on.ex m3
  obtain ⟨dy, g3, m3⟩ := on.ex m3
  obtain ⟨key, g4, m3⟩ := on.ex m3
  obtain ⟨d, g5, hz, m3⟩ := on.ex m3
  obtain ⟨q, h1, h2⟩ := (r2.mono e3).asMu g1
  obtain ⟨us, h3, h4⟩ := w3.dctOf g2 h1
  subst h2
  have rd := ((r1.mono e2).mono e3).isD g5
  obtain ⟨w4, e4⟩ := w3.put (x := .dK (putK us key u)) (o' := .dct (setK l key d)) (dctAt_get g2) (fun z => by cases z) h1 (fun z => by cases z) fun st => ⟨(w3.obj n _ q (dctAt_get g2) h1).1, _, upd_same, (h4.set key rd).mono st⟩
  have eT := ((e1.trans e2).trans e3).trans e4
  refine ⟨q.1, upd H3 q.1 (.dK (putK us key u)), rfl, ?_, p.nx _ α3 _ σ m3 (h.ext eT w4) eT.step eT.pre.ban⟩
  rw [(r3.isD g3).key g4]
  exact DPut.k h3 (by rw [← h4.len]; exact hz)
def mPairs : List (ME × ME) → PS → (List (S × S) → List O → Prop) → MX → Prop
  | [], s, R, _ => R [] s.hp
  | (Mk, Mv) :: r, s, R, Xp => Mk s (fun k hp1 => Mv { s with hp := hp1 } (fun v hp2 => mPairs r { s with hp := hp2 } (fun ps hp3 => R ((k, v) :: ps) hp3) Xp) Xp) Xp
def keysD : List (S × S) → Option (List (Key × D))
  | [] => some []
  | (k, v) :: r => (isD k).bind fun dk => (keyD dk).bind fun key => (isD v).bind fun d => (keysD r).bind fun l => some ((key, d) :: l)
inductive SimPs (K : Frag) (W : WX) : List (TE × TE) → List (ME × ME) → Prop where
  | nil : SimPs K W [] []
  | cons {tk tv : TE} {Mk Mv : ME} {r : List (TE × TE)} {m : List (ME × ME)} (h1 : SimE K W tk Mk) (h2 : SimE K W tv Mv) (h3 : SimPs K W r m) : SimPs K W ((tk, tv) :: r) ((Mk, Mv) :: m)
theorem sim_pairs {K : Frag} {W : WX} : ∀ {tr : List (TE × TE)} {mr : List (ME × ME)}, SimPs K W tr mr → ∀ (α : Mp_) (s : PS) (H : Hp) (σ : L2.St), WOk K α s.hp H → EnvR K α s.hp H s.env σ → ∀ R Xp, mPairs mr s R Xp → ∀ Q : List (V × V) → Hp → Prop,
    (∀ ps hp' α' H' vs, R ps hp' → Ext α s.hp H α' hp' H' → WOk K α' hp' H' → Paired (fun (x : S × S) (y : V × V) => SRep K α' hp' H' x.1 y.1 ∧ SRep K α' hp' H' x.2 y.2) ps vs → Q vs H') → PostX K W σ α s.hp H Xp → tPairs tr σ H Q
  | _, _, .nil, α, s, H, σ, w, e, R, Xp, m, Q, q, _ => q [] s.hp α H [] m Ext.refl w .nil
  | _, _, .cons h1 h2 h3, α, s, H, σ, w, e, R, Xp, m, Q, q, qx => by
    refine h1 α s H σ w e _ _ m _ (fun k hp1 α1 H1 u m1 e1 w1 r1 => ?_) qx
    refine h2 α1 { s with hp := hp1 } H1 σ w1 (e.mono e1) _ _ m1 _ (fun v hp2 α2 H2 u2 m2 e2 w2 r2 => ?_) (qx.at e1)
    refine sim_pairs h3 α2 { s with hp := hp2 } H2 σ w2 ((e.mono e1).mono e2) _ _ m2 _ (fun ps hp3 α3 H3 vs m3 e3 w3 r3 => ?_) ((qx.at e1).at e2)
    exact q _ _ α3 H3 _ m3 ((e1.trans e2).trans e3) w3 (.cons ⟨(r1.mono e2).mono e3, r2.mono e3⟩ r3)
theorem keysD_ok {K : Frag} {α : Mp_} {hp : List O} {H : Hp} : ∀ {ps : List (S × S)} {vs : List (V × V)} {l : List (Key × D)}, Paired (fun (x : S × S) (y : V × V) => SRep K α hp H x.1 y.1 ∧ SRep K α hp H x.2 y.2) ps vs → keysD ps = some l →
    ∃ kvs : List (Key × V), vs = kvs.map (fun kv => (kV kv.1, kv.2)) ∧ RepK K (Al α hp) H l kvs
  | [], _, l, r, e => by cases r; cases e; exact ⟨[], rfl, rfl⟩
  | (k, v) :: r, _, l, rr, e => by
    cases rr with
    | @cons a b as bs h t =>
      obtain ⟨u1, u2⟩ := b
      unfold keysD at e
      cases g1 : isD k with
      | none => rw [g1] at e; cases e
      | some dk =>
        cases g2 : keyD dk with
        | none => rw [g1] at e; simp [g2] at e
        | some key =>
          cases g3 : isD v with
          | none => rw [g1] at e; simp [g2, g3] at e
          | some d =>
            cases g4 : keysD r with
            | none => rw [g1] at e; simp [g2, g3, g4] at e
            | some l' =>
              rw [g1] at e
              simp [g2, g3, g4] at e
              subst e
              obtain ⟨kvs, e1, r1⟩ := keysD_ok t g4
              refine ⟨(key, u2) :: kvs, ?_, u2, kvs, rfl, h.2.isD g3, r1⟩
              rw [e1, List.map_cons]
              have : u1 = kV key := (h.1.isD g1).key g2
              rw [this]
def mergeD (l more : List (Key × D)) : List (Key × D) := more.foldl (fun acc kv => setK acc kv.1 kv.2) l
theorem RepK.merge {K : Frag} {A : Av} {H : Hp} : ∀ {more : List (Key × D)} {ms : List (Key × V)} {l : List (Key × D)} {ws : List (Key × V)}, RepK K A H more ms → RepK K A H l ws → RepK K A H (mergeD l more) (mergeK ws ms)
  | [], _, l, ws, h, g => by cases h; exact g
  | (k, d) :: r, _, l, ws, ⟨v, t, e, h, q⟩, g => by subst e; exact RepK.merge (more := r) (ms := t) q (g.set k h)
theorem ban_push {K : Frag} {α1 α2 : Mp_} {hp1 hp2 : List O} {H1 H2 : Hp} {p : Addr} {o : O} (w1 : WOk K α1 hp1 H1) (hn : H1 p = none) (bpre : OwnLe α1.own α2.own) (bban : α2.ban = fun a => α1.ban a ∨ a = p) (bok : WOk K α2 hp2 H2)
    (bst : StepW α1 hp1 H1 α2 hp2 H2) (bnw : ∀ (n : Nat) (q : Addr × List Addr), α1.own.length ≤ n → α2.own[n]? = some q → H1 q.1 = none)
    (ho : ∀ A' : Av, Step (Al α2 hp2) (Al α2 hp2) H2 A' A' H2 → OR K A' H2 (p, []) o) :
    ∃ α3, Ext α1 hp1 H1 α3 (hp2 ++ [o]) H2 ∧ WOk K α3 (hp2 ++ [o]) H2 ∧ SRep K α3 (hp2 ++ [o]) H2 (.mu hp2.length) (.ref p) := by
  have hb : α2.ban p := by rw [bban]; exact .inr rfl
  obtain ⟨w3, st⟩ := bok.unban (b := α1.ban) (fun a h => by rw [bban]; exact .inl h)
  let α3 : Mp_ := { α2 with ban := α1.ban }
  have mt : ∀ a, Mt (α3.push (p, [])) (hp2 ++ [o]) a → Mt α2 hp2 a ∨ a = p := fun a h => by
    rcases (mt_push w3.len).mp h with h | ⟨_, h⟩
    · exact .inl h
    · rcases h with h | h
      · exact .inr h
      · cases h
  have st2 : Step (Al α2 hp2) (Al α2 hp2) H2 (Al (α3.push (p, [])) (hp2 ++ [o])) (Al (α3.push (p, [])) (hp2 ++ [o])) H2 := by
    have q : ∀ a, Al (α3.push (p, [])) (hp2 ++ [o]) a → Al α2 hp2 a := fun a h => by
      rcases h with h | h
      · rcases mt a h with h | h
        · exact .inl h
        · subst h; exact .inr hb
      · exact .inr (by rw [bban]; exact .inl h)
    exact ⟨fun _ _ h _ => h, fun a h => .inl (q a h), fun a h => .inl (q a h), fun _ h => h, fun _ o h => ⟨o, h⟩⟩
  have stW : StepW α1 hp1 H1 (α3.push (p, [])) (hp2 ++ [o]) H2 := ⟨bst.keep, fun a h => by
    rcases h with h | h
    · rcases mt a h with h | h
      · exact bst.newA a (.inl h)
      · subst h; exact .inr hn
    · exact .inl (.inr h), fun a h => by
    rcases mt a h with h | h
    · exact bst.newM a h
    · subst h; exact .inr hn, al_sub, bst.stay⟩
  have hl := w3.len
  have cut : ∀ (n : Nat) (u : O) (q : Addr × List Addr), (hp2 ++ [o])[n]? = some u → (α2.own ++ [(p, [])])[n]? = some q → (hp2[n]? = some u ∧ α2.own[n]? = some q) ∨ (n = hp2.length ∧ u = o ∧ q = (p, [])) := fun n u q h1 h2 => by
    by_cases hx : n < hp2.length
    · rw [List.getElem?_append_left hx] at h1
      rw [List.getElem?_append_left (by have : α2.own.length = hp2.length := hl; omega)] at h2
      exact .inl ⟨h1, h2⟩
    · have hy : n < (hp2 ++ [o]).length := (List.getElem?_eq_some_iff.mp h1).1
      have en : n = hp2.length := by simp at hy; omega
      subst en
      rw [List.getElem?_append_right (Nat.le_refl _)] at h1
      rw [← (show α2.own.length = hp2.length from hl), List.getElem?_append_right (Nat.le_refl _)] at h2
      simp at h1 h2
      exact .inr ⟨rfl, h1.symm, h2.symm⟩
  have no : ∀ a, Mt α2 hp2 a → a ≠ p := fun a h z => (bok.ban p hb).2 (z ▸ h)
  refine ⟨α3.push (p, []), ⟨⟨?_, rfl⟩, stW, fun n q h z => ?_⟩, ⟨by show (α2.own ++ [(p, [])]).length = _; simp; exact hl, fun n u q h3 h4 => ?_, fun n u q h3 h4 hg => ?_, fun m n u u' q q' h3 h4 h5 h6 h7 h8 hne a ha hb' => ?_, fun a ha => ?_⟩, (p, []), ?_, rfl⟩
  · exact bpre.appR
  · have z : (α2.own ++ [(p, [])])[n]? = some q := z
    by_cases hx : n < α2.own.length
    · rw [List.getElem?_append_left hx] at z
      exact bnw n q h z
    · rw [List.getElem?_append_right (by omega)] at z
      cases y : n - α2.own.length with
      | zero => rw [y] at z; cases z; exact hn
      | succ k => rw [y] at z; cases z
  · rcases cut n u q h3 h4 with ⟨h3, h4⟩ | ⟨_, rfl, rfl⟩
    · exact (bok.obj n u q h3 h4).mono st2 fun _ _ _ => rfl
    · exact ho _ st2
  · rcases cut n u q h3 h4 with ⟨h3, h4⟩ | ⟨_, rfl, rfl⟩
    · exact bok.one n u q h3 h4 hg
    · exact ⟨by simp, by simp⟩
  · rcases cut m u q h3 h4 with ⟨h3, h4⟩ | ⟨e1, z1, z2⟩
    · rcases cut n u' q' h6 h7 with ⟨h6, h7⟩ | ⟨e2, z3, z4⟩
      · exact bok.inj m n u u' q q' h3 h4 h5 h6 h7 h8 hne a ha hb'
      · rw [z4] at hb'
        rcases hb' with hb' | hb'
        · exact no a ⟨m, q, u, h4, h3, h5, ha⟩ hb'
        · cases hb'
    · rcases cut n u' q' h6 h7 with ⟨h6, h7⟩ | ⟨e2, z3, z4⟩
      · rw [z2] at ha
        rcases ha with ha | ha
        · exact no a ⟨n, q', u', h7, h6, h8, hb'⟩ ha
        · cases ha
      · exact hne (e1.trans e2.symm)
  · have ha : α1.ban a := ha
    obtain ⟨⟨y, hy⟩, hm⟩ := w1.ban a ha
    refine ⟨⟨y, bst.keep a y hy hm⟩, fun z => ?_⟩
    rcases mt a z with z | z
    · exact (bok.ban a (by rw [bban]; exact .inl ha)).2 z
    · subst z
      rw [hn] at hy
      cases hy
  · show (α2.own ++ [(p, [])])[hp2.length]? = _
    rw [← (show α2.own.length = hp2.length from hl), List.getElem?_append_right (Nat.le_refl _)]
    simp
def mDisp (mr : List (ME × ME)) : ME := fun s R Xp => mPairs mr s (fun ps hp1 => on (keysD ps) fun l => l.length ≤ 15 ∧ R (.mu hp1.length) (hp1 ++ [.dct (mergeD [] l)])) Xp
theorem sim_disp {K : Frag} {W : WX} {tr : List (TE × TE)} {mr : List (ME × ME)} (h : SimPs K W tr mr) : SimE K W (tDisp tr) (mDisp mr) := by
  intro α s H σ w e R Xp m Q q qx
  intro p hn
  obtain ⟨wb, stb⟩ := w.banned (o := .dK []) hn
  have eb : EnvR K { α with ban := fun a => α.ban a ∨ a = p } s.hp (upd H p (.dK [])) s.env σ := ⟨e.1, fun i x hx => by
    obtain ⟨v, h1, h2⟩ := e.2 i x hx
    refine ⟨v, h1, ?_⟩
    cases x with
    | d d => exact Rep.mono stb d v h2
    | mu n => exact h2
    | ob _ _ => exact h2
    | exn a c d x => exact ⟨h2.1, h2.2.mono stb⟩⟩
  refine sim_pairs h { α with ban := fun a => α.ban a ∨ a = p } s _ σ wb eb _ _ m _ (fun ps hp1 α1 H1 vs m1 e1 w1 r1 => ?_) ?_
  · obtain ⟨l, g1, hz, m1⟩ := on.ex m1
    obtain ⟨kvs, ev, rk⟩ := keysD_ok r1 g1
    have hb1 : α1.ban p := by rw [e1.pre.ban]; exact .inr rfl
    have hp1' : H1 p = some (.dK []) := e1.step.keep p _ upd_same (wb.ban p (.inr rfl)).2
    refine ⟨hp1', kvs, ev, by rw [← rk.len]; exact hz, ?_⟩
    have bst : StepW α s.hp H α1 hp1 (upd H1 p (.dK (mergeK [] kvs))) := by
      have st0 := stb.trans e1.step
      refine ⟨fun a u ea na => ?_, st0.newA, st0.newM, st0.sub, fun a u ea => ?_⟩
      · have z : a ≠ p := fun z => by subst z; rw [hn] at ea; cases ea
        rw [upd_ne z]; exact st0.keep a u ea na
      · obtain ⟨u', hu⟩ := st0.stay a u ea
        exact stay_upd a u' hu
    obtain ⟨α3, e3, w3, r3⟩ := ban_push (o := .dct (mergeD [] l)) w hn e1.pre.own e1.pre.ban (w1.setBan hb1) bst (fun n q h z => none_back stb.stay (e1.nw n q h z))
      fun A' st => ⟨rfl, _, upd_same, (RepK.merge (RepK.mono (stepBan hb1) rk) (show RepK K (Al α1 hp1) _ [] [] from rfl)).mono st⟩
    exact q _ _ α3 _ _ m1 e3 w3 r3
  · intro x hp' α' H' c dd z e1 w1 r1
    obtain ⟨w2, st2⟩ := w1.unban (b := α.ban) (fun a h => by rw [e1.pre.ban]; exact .inl h)
    refine qx x hp' { α' with ban := α.ban } H' c dd z ⟨⟨e1.pre.own, rfl⟩, (stb.trans e1.step).trans st2, fun n q h z => none_back stb.stay (e1.nw n q h z)⟩ w2 ?_
    exact r1.mono st2
def cutD (xs : List D) (lo hi : Option Int) : List D := (xs.drop (HT.sIx xs.length 0 lo)).take (HT.sIx xs.length xs.length hi - HT.sIx xs.length 0 lo)
theorem RepL.cut {K : Frag} {A : Av} {H : Hp} {ds : List D} {vs : List V} (r : RepL K A H ds vs) (lo hi : Option Int) : RepL K A H (cutD ds lo hi) (cutV vs lo hi) := by
  unfold cutD cutV
  rw [r.length]
  exact (r.drop _).take _
abbrev MO := PS → (Option Int → List O → Prop) → MX → Prop
def SimO (K : Frag) (W : WX) (t : TO) (M : MO) : Prop := ∀ (α : Mp_) (s : PS) (H : Hp) (σ : L2.St), WOk K α s.hp H → EnvR K α s.hp H s.env σ → ∀ R Xp, M s R Xp → ∀ Q : Option Int → Hp → Prop,
  (∀ o hp' α' H', R o hp' → Ext α s.hp H α' hp' H' → WOk K α' hp' H' → Q o H') → PostX K W σ α s.hp H Xp → t σ H Q
def moNone : MO := fun s R _ => R none s.hp
def moSome (Ma : ME) : MO := fun s R Xp => Ma s (fun v hp1 => on (isD v) fun d => on (asI d) fun i => R (some i) hp1) Xp
theorem simo_none {K : Frag} {W : WX} : SimO K W tNoPart moNone := fun α s H σ w e R Xp m Q q _ => q _ _ α H m Ext.refl w
theorem simo_some {K : Frag} {W : WX} {t : TE} {Ma : ME} (ha : SimE K W t Ma) : SimO K W (tPart t) (moSome Ma) := by
  intro α s H σ w e R Xp m Q q qx
  refine ha α s H σ w e _ _ m _ (fun x hp1 α1 H1 v1 m1 e1 w1 r1 => ?_) qx
  obtain ⟨d, g1, m1⟩ := on.ex m1
  obtain ⟨i, g2, m1⟩ := on.ex m1
  exact ⟨i, (r1.isD g1).t.asI g2, q _ _ α1 H1 m1 e1 w1⟩
def fSl (d : D) (lo hi : Option Int) (P : D → Prop) : Prop := match d with
  | .lst ds => P (.lst (cutD ds lo hi))
  | .fl ds => P (.lst (cutD ds lo hi))
  | .tup ds => P (.tup (cutD ds lo hi))
  | .str z => z.length ≤ sizeLine ∧ P (.str (cutS z lo hi))
  | _ => False
@[simp] theorem fSl_str {z : Str} {lo hi : Option Int} {P : D → Prop} : fSl (.str z) lo hi P = (z.length ≤ sizeLine ∧ P (.str (cutS z lo hi))) := rfl
@[simp] theorem fSl_lst {ds : List D} {lo hi : Option Int} {P : D → Prop} : fSl (.lst ds) lo hi P = P (.lst (cutD ds lo hi)) := rfl
@[simp] theorem fSl_tup {ds : List D} {lo hi : Option Int} {P : D → Prop} : fSl (.tup ds) lo hi P = P (.tup (cutD ds lo hi)) := rfl
def rSlX (K : Frag) : V → Option Int → Option Int → Hp → VK → Prop := fun x lo hi H Q => rSlL K x lo hi H Q ∨ rSlA K x lo hi H Q ∨ rSlS x lo hi H Q
theorem sl_x {X : Cx} : SlR X (rSlX X.K) := SlR.or sl_list (SlR.or sl_tupA sl_str)
theorem cutD_whole {ds : List D} {lo hi : Option Int} (h : HT.sIx ds.length 0 lo = 0 ∧ HT.sIx ds.length ds.length hi = ds.length) : cutD ds lo hi = ds := by
  unfold cutD
  rw [h.1, h.2]
  simp
theorem sim_fSl {K : Frag} (A : Av) (H : Hp) (d : D) (v : V) (hA : ∀ a, H a = none → ¬ A a) (r : RepT K A H d v) (lo hi : Option Int) (P : D → Prop) (p : fSl d lo hi P) (Q : VK)
    (q : ∀ d v H', P d → Rep K A H' d v → (H' = H ∨ ∃ p o, H p = none ∧ H' = upd H p o) → Q v H') : rSlX K v lo hi H Q := by
  cases d with
  | lst ds =>
    obtain ⟨a, vs, rfl, h, k⟩ := r
    exact .inl ⟨a, vs, rfl, .inl (.inl h), fun l hl => q _ _ _ p (new_lst hA hl (k.cut lo hi)) (.inr ⟨l, _, hl, rfl⟩)⟩
  | fl ds =>
    obtain ⟨a, vs, e, h, k⟩ := fl_sq (r : Rep K A H (.fl ds) v)
    exact .inl ⟨a, vs, e, h, fun l hl => q _ _ _ p (new_lst hA hl (k.cut lo hi)) (.inr ⟨l, _, hl, rfl⟩)⟩
  | tup ds =>
    obtain ⟨a, vs, e, h, k⟩ := tup_sq (r : Rep K A H (.tup ds) v)
    refine .inr (.inl ⟨a, vs, e, h, fun hw => ?_, fun _ l hl => q _ _ _ p (new_tup hA hl (k.cut lo hi)) (.inr ⟨l, _, hl, rfl⟩)⟩)
    rw [← k.length] at hw
    refine q _ _ _ p ?_ (.inl rfl)
    rw [cutD_whole hw, ← e]
    exact r
  | str z =>
    cases r
    exact .inr (.inr ⟨z, rfl, p.1, q _ _ _ p.2 rfl (.inl rfl)⟩)
  | _ => exact p.elim
def mSl (Ma : ME) (Ml Mh : MO) : ME := fun s R Xp => Ma s (fun x hp1 => Ml { s with hp := hp1 } (fun lo hp2 => Mh { s with hp := hp2 } (fun hi hp3 => on (val hp3 x) fun d => fSl d lo hi fun d' => R (.d d') hp3) Xp) Xp) Xp
theorem sim_sl {K : Frag} {W : WX} {t : TE} {tl th : TO} {Ma : ME} {Ml Mh : MO} (ha : SimE K W t Ma) (hl : SimO K W tl Ml) (hh : SimO K W th Mh) : SimE K W (tSl (rSlX K) t tl th) (mSl Ma Ml Mh) := by
  intro α s H σ w e R Xp m Q q qx
  refine ha α s H σ w e _ _ m _ (fun x hp1 α1 H1 v1 m1 e1 w1 r1 => ?_) qx
  refine hl α1 { s with hp := hp1 } H1 σ w1 (e.mono e1) _ _ m1 _ (fun lo hp2 α2 H2 m2 e2 w2 => ?_) (qx.at e1)
  refine hh α2 { s with hp := hp2 } H2 σ w2 ((e.mono e1).mono e2) _ _ m2 _ (fun hi hp3 α3 H3 m3 e3 w3 => ?_) ((qx.at e1).at e2)
  obtain ⟨d, g1, m3⟩ := on.ex m3
  refine sim_fSl _ H3 d v1 w3.non (((r1.mono e2).mono e3).val w3 g1) lo hi _ m3 Q fun d' v' H' p rp st => ?_
  obtain ⟨e4, w4⟩ := w3.grown st
  exact q _ _ α3 _ _ p (((e1.trans e2).trans e3).trans e4) w4 rp
end Mp
set_option Elab.async false
set_option linter.all false
set_option maxRecDepth 100000
set_option maxHeartbeats 4000000
namespace Mp
open PySem PySem.Spec PyProof.Rows L2
abbrev MF := List O → List S → (S → List O → Prop) → MX → Prop
def Frs (K : Frag) (H : Hp) (α' : Mp_) (hp' : List O) (H' : Hp) (s : S) (v : V) : Prop := ∀ ds, s = .d (.lst ds) → ∃ a us, v = .ref a ∧ H a = none ∧ H' a = some (.lst us) ∧ WOk K { α' with ban := fun b => α'.ban b ∨ b = a } hp' H' ∧ RepL K (Al { α' with ban := fun b => α'.ban b ∨ b = a } hp') H' ds us
def spM (K : Frag) (n : Nat) (fr : Bool) (M : MF) : Sp := fun vs H Q E => vs.length = n ∧ ∃ α hp ss R Xp, WOk K α hp H ∧ SRepL K α hp H ss vs ∧ M hp ss R Xp ∧
  (∀ s hp' α' H' v, R s hp' → Ext α hp H α' hp' H' → WOk K α' hp' H' → SRep K α' hp' H' s v → (fr = true → Frs K H α' hp' H' s v) → Q v H') ∧
  (∀ x hp' α' H' c dd, Xp x hp' → Ext α hp H α' hp' H' → WOk K α' hp' H' → XRep K (Al α' hp') H' x c dd → E c dd H')
theorem spM_len {K : Frag} {n : Nat} {fr : Bool} {M : MF} : ∀ vs H Q E, spM K n fr M vs H Q E → vs.length = n := fun _ _ _ _ h => h.1
def mCall (n : Nat) (M : MF) (dd : List D) (Ma : MA) : ME := fun s R Xp => Ma s (fun ss hp1 => ss.length + dd.length = n ∧ M hp1 (ss ++ dd.map S.d) R Xp) Xp
theorem srepL_app {K : Frag} {α : Mp_} {hp : List O} {H : Hp} {dd : List D} {dvs : List V} (hd : RepL K (Al α hp) H dd dvs) : ∀ {ss : List S} {vs : List V}, SRepL K α hp H ss vs → SRepL K α hp H (ss ++ dd.map S.d) (vs ++ dvs)
  | _, _, .nil => by
    induction dd generalizing dvs with
    | nil => cases hd; exact .nil
    | cons d dd ih => obtain ⟨v, r, e, h, t⟩ := hd; subst e; exact .cons h (ih t)
  | _, _, .cons h t => .cons h (srepL_app hd t)
theorem sim_call {K : Frag} {W : WX} {n : Nat} {fr : Bool} {M : MF} {dvs : List V} {dd : List D} {t : TA} {Ma : MA} (hd : ∀ A H, RepL K A H dd dvs) (ha : SimA K W t Ma) : SimE K W (tCallSD (spM K n fr M) dvs (WE W) t) (mCall n M dd Ma) := by
  intro α s H σ w e R Xp m Q q qx
  refine ha α s H σ w e _ _ m _ (fun ss hp1 α1 H1 vs m1 e1 w1 r1 => ?_) qx
  have hl : vs.length = ss.length := r1.length.symm
  refine ⟨by rw [List.length_append, hl, ← (hd noA H).length]; exact m1.1, α1, hp1, _, R, Xp, w1, srepL_app (hd _ _) r1, m1.2, fun s' hp' α' H' v r e' w' sr _ => q s' hp' α' H' v r (e1.trans e') w' sr, fun x hp' α' H' c d' r e' w' xr => qx x hp' α' H' c d' r (e1.trans e') w' xr⟩
def isLst : D → Bool
  | .lst _ => true
  | _ => false
def retP (n0 : Nat) (fr : Bool) (R : S → List O → Prop) (v : S) (hp' : List O) : Prop := match v with
  | .d d => (fr = true → isLst d = false) ∧ R (.d d) (hp'.take n0)
  | .mu n => if n < n0 then R (.mu n) (hp'.take n0) else match hp'[n]? with
    | some (.lst ds) => R (.d (.lst ds)) (hp'.take n0)
    | some (.dct l) => R (.mu n0) (hp'.take n0 ++ [.dct l])
    | some (.reg gs) => R (.ob n0 0) (hp'.take n0 ++ [.reg gs])
    | _ => False
  | .ob n k => if n < n0 then R (.ob n k) (hp'.take n0) else match hp'[n]? with
    | some (.reg gs) => R (.ob n0 k) (hp'.take n0 ++ [.reg gs])
    | _ => False
  | .exn _ _ _ _ => False
def mDef (N : Nat) (fr : Bool) (Mb : MS) : MF := fun hp ss R Xp => Mb ⟨hp, ss.map some ++ List.replicate (N - ss.length) none, hp.length⟩
  { nx := fun s' => retP hp.length fr R (.d .non) s'.hp, bk := fun _ => False, ct := fun _ => False, rt := retP hp.length fr R, ex := fun x hp' => Xp x (hp'.take hp.length) }
def Mp_.cut (α : Mp_) (n : Nat) : Mp_ := { α with own := α.own.take n }
theorem take_get {τ : Type} {l : List τ} {n k : Nat} {x : τ} (h : (l.take n)[k]? = some x) : k < n ∧ l[k]? = some x := by
  have hk : k < (l.take n).length := (List.getElem?_eq_some_iff.mp h).1
  rw [List.length_take] at hk
  have hk' : k < n := by omega
  rw [List.getElem?_take_of_lt hk'] at h
  exact ⟨hk', h⟩
theorem WOk.cut {K : Frag} {α : Mp_} {hp : List O} {H : Hp} (w : WOk K α hp H) (n : Nat) : WOk K (α.cut n) (hp.take n) H ∧ (∀ a, Mt (α.cut n) (hp.take n) a → Mt α hp a) ∧ Step (Al α hp) (Al α hp) H (Al (α.cut n) (hp.take n)) (Al (α.cut n) (hp.take n)) H := by
  have mt : ∀ a, Mt (α.cut n) (hp.take n) a → Mt α hp a := fun a ⟨k, p, o, h1, h2, h3, h4⟩ => ⟨k, p, o, (take_get h1).2, (take_get h2).2, h3, h4⟩
  have al : ∀ a, Al (α.cut n) (hp.take n) a → Al α hp a := fun a h => h.imp (mt a) id
  have st : Step (Al α hp) (Al α hp) H (Al (α.cut n) (hp.take n)) (Al (α.cut n) (hp.take n)) H := ⟨fun _ _ h _ => h, fun a h => .inl (al a h), fun a h => .inl (al a h), fun _ h => h, fun _ o h => ⟨o, h⟩⟩
  exact ⟨⟨by show (α.own.take n).length = _; rw [List.length_take, List.length_take, w.len], fun k o p h1 h2 => (w.obj k o p (take_get h1).2 (take_get h2).2).mono st fun _ _ _ => rfl, fun k o p h1 h2 => w.one k o p (take_get h1).2 (take_get h2).2,
    fun j k o u p q h1 h2 h3 h4 h5 h6 => w.inj j k o u p q (take_get h1).2 (take_get h2).2 h3 (take_get h4).2 (take_get h5).2 h6, fun a h => ⟨(w.ban a h).1, fun z => (w.ban a h).2 (mt a z)⟩⟩, mt, st⟩
def mvIx (n k i : Nat) : Nat := if i < n then i else k
theorem mv_get {τ : Type} {l : List τ} {n k i : Nat} {x z : τ} (hl : n ≤ l.length) (hk : l[k]? = some x) (h : (l.take n ++ [x])[i]? = some z) : l[mvIx n k i]? = some z ∧ i ≤ n := by
  have hl2 : (l.take n).length = n := by rw [List.length_take]; omega
  unfold mvIx
  by_cases hi : i < n
  · rw [if_pos hi]
    rw [List.getElem?_append_left (by omega)] at h
    exact ⟨(take_get h).2, by omega⟩
  · rw [if_neg hi]
    have : i < (l.take n ++ [x]).length := (List.getElem?_eq_some_iff.mp h).1
    rw [List.length_append, hl2] at this
    simp at this
    have e : i = n := by omega
    subst e
    rw [List.getElem?_append_right (by omega), hl2] at h
    simp at h
    subst h
    exact ⟨hk, Nat.le_refl _⟩
def Mp_.mv (α : Mp_) (n : Nat) (p : Addr × List Addr) : Mp_ := { α with own := α.own.take n ++ [p] }
theorem WOk.mv {K : Frag} {α : Mp_} {hp : List O} {H : Hp} {p : Addr × List Addr} {o : O} {k : Nat} (w : WOk K α hp H) (n : Nat) (hn : n ≤ k) (hk : hp[k]? = some o) (hp' : α.own[k]? = some p) :
    WOk K (α.mv n p) (hp.take n ++ [o]) H ∧ (∀ a, Mt (α.mv n p) (hp.take n ++ [o]) a → Mt α hp a) := by
  have l1 : n ≤ hp.length := Nat.le_trans hn (Nat.le_of_lt (List.getElem?_eq_some_iff.mp hk).1)
  have l2 : n ≤ α.own.length := by rw [w.len]; exact l1
  have mt : ∀ a, Mt (α.mv n p) (hp.take n ++ [o]) a → Mt α hp a := fun a ⟨i, q, u, h1, h2, h3, h4⟩ => ⟨mvIx n k i, q, u, (mv_get l2 hp' h1).1, (mv_get l1 hk h2).1, h3, h4⟩
  have al : ∀ a, Al (α.mv n p) (hp.take n ++ [o]) a → Al α hp a := fun a h => h.imp (mt a) id
  have st : Step (Al α hp) (Al α hp) H (Al (α.mv n p) (hp.take n ++ [o])) (Al (α.mv n p) (hp.take n ++ [o])) H := ⟨fun _ _ h _ => h, fun a h => .inl (al a h), fun a h => .inl (al a h), fun _ h => h, fun _ o h => ⟨o, h⟩⟩
  refine ⟨⟨?_, fun i u q h1 h2 => (w.obj _ u q (mv_get l1 hk h1).1 (mv_get l2 hp' h2).1).mono st fun _ _ _ => rfl, fun i u q h1 h2 => w.one _ u q (mv_get l1 hk h1).1 (mv_get l2 hp' h2).1,
    fun i j u u' q q' h1 h2 h3 h4 h5 h6 h7 => w.inj _ _ u u' q q' (mv_get l1 hk h1).1 (mv_get l2 hp' h2).1 h3 (mv_get l1 hk h4).1 (mv_get l2 hp' h5).1 h6 ?_, fun a h => ⟨(w.ban a h).1, fun z => (w.ban a h).2 (mt a z)⟩⟩, mt⟩
  · show (α.own.take n ++ [p]).length = _
    simp only [List.length_append, List.length_take, List.length_cons, List.length_nil]
    rw [w.len]
  · have a1 := (mv_get l1 hk h1).2
    have a2 := (mv_get l1 hk h4).2
    unfold mvIx
    split <;> split <;> omega
theorem XRep.cut {K : Frag} {A A' : Av} {H : Hp} {x : Exn} {c : Value} {dd : Option Addr} (s : Step A A H A' A' H) (r : XRep K A H x c dd) : XRep K A' H x c dd := r.mono s
theorem cut_ext {K : Frag} {α α' : Mp_} {hp hp' : List O} {H H' : Hp} (w : WOk K α hp H) (pre : Pre0 ⟨α.own, H⟩ α' H') (w' : WOk K α' hp' H') (st : StepW α hp H α' hp' H') (hb : α'.ban = α.ban) : Ext α hp H (α'.cut hp.length) (hp'.take hp.length) H' := by
  obtain ⟨_, mt, st2⟩ := w'.cut hp.length
  refine ⟨⟨?_, hb⟩, ⟨st.keep, fun a h => st.newA a (h.imp (mt a) id), fun a h => st.newM a (mt a h), al_sub, st.stay⟩, fun n p h e => ?_⟩
  · exact OwnLe.take pre.own (by rw [w.len]; exact Nat.le_refl _)
  · have := (take_get (show (α'.own.take hp.length)[n]? = some p from e)).1
    rw [w.len] at h
    omega
theorem sim_def {K : Frag} {N n : Nat} {fr : Bool} {t : TS} {Mb : MS} {Ns : List Str} {E : XK} (hN : Ns.length = N) (h : SimS K (fun c d _ H => E c d H) t Mb) {vs : List V} {H : Hp} {Q : VK} (p : spM K n fr (mDef N fr Mb) vs H Q E) :
    t { nx := fun _ H' => Q .non H', rt := Q } (L2.start Ns vs) H := by
  obtain ⟨hn, α, hp, ss, R, Xp, w, sr, m, q, qx⟩ := p
  have hl : ss.length = vs.length := sr.length
  have hs : EnvR K α hp H (ss.map some ++ List.replicate (N - ss.length) none) (L2.start Ns vs) := by
    refine ⟨by unfold L2.start; simp [hN, hl], fun i s hi => ?_⟩
    by_cases hi2 : i < (ss.map some).length
    · rw [List.getElem?_append_left hi2, List.getElem?_map] at hi
      cases g : ss[i]? with
      | none => rw [g] at hi; cases hi
      | some s' =>
        rw [g] at hi
        cases hi
        have : ∀ {ss : List S} {vs : List V} {i : Nat} {s : S}, SRepL K α hp H ss vs → ss[i]? = some s → ∃ v, vs[i]? = some v ∧ SRep K α hp H s v := by
          intro ss vs i s r
          induction r generalizing i with
          | nil => intro e; simp at e
          | @cons a b as bs h1 h2 ih =>
            intro e
            cases i with
            | zero => simp at e; subst e; exact ⟨b, rfl, h1⟩
            | succ i => exact ih (by simpa using e)
        obtain ⟨v, h1, h2⟩ := this sr g
        refine ⟨v, ?_, h2⟩
        unfold L2.start
        rw [List.getElem?_append_left (by rw [List.length_map]; exact (List.getElem?_eq_some_iff.mp h1).1), List.getElem?_map, h1]
        rfl
    · rw [List.getElem?_append_right (by omega)] at hi
      rw [List.getElem?_replicate] at hi
      split at hi <;> cases hi
  have hh : Here K ⟨α.own, H⟩ α ⟨hp, ss.map some ++ List.replicate (N - ss.length) none, hp.length⟩ H (L2.start Ns vs) :=
    ⟨Pre0.refl, trivial, w, hs⟩
  have ret : ∀ v hp' α' H' u, retP hp.length fr R v hp' → Pre0 ⟨α.own, H⟩ α' H' → WOk K α' hp' H' → StepW α hp H α' hp' H' → α'.ban = α.ban → SRep K α' hp' H' v u → Q u H' := by
    intro v hp' α' H' u r pre w' st hb rv
    obtain ⟨w2, mt, st2⟩ := w'.cut hp.length
    have ex := cut_ext w pre w' st hb
    have mvd : ∀ (k : Nat) (pk : Addr × List Addr) (o : O) (s0 : S), (fr = true → ∀ ds, s0 ≠ .d (.lst ds)) → hp.length ≤ k → α'.own[k]? = some pk → hp'[k]? = some o → (∀ β : Mp_, β.own[hp.length]? = some pk → SRep K β (hp'.take hp.length ++ [o]) H' s0 u) → R s0 (hp'.take hp.length ++ [o]) → Q u H' := by
      intro k pk o s0 nl hk h1 ho hs r
      obtain ⟨w3, mt3⟩ := w'.mv hp.length hk ho h1
      have hn : H pk.1 = none := pre.nw k pk (by show α.own.length ≤ k; rw [w.len]; omega) h1
      have hlt : hp.length ≤ α'.own.length := by
        have := (List.getElem?_eq_some_iff.mp h1).1
        omega
      refine q s0 _ (α'.mv hp.length pk) H' u r ⟨⟨?_, hb⟩, ⟨st.keep, fun a h => st.newA a (h.imp (mt3 a) id), fun a h => st.newM a (mt3 a h), al_sub, st.stay⟩, fun n p h e => ?_⟩ w3 (hs _ ?_) fun hf ds ed => absurd ed (nl hf ds)
      · exact (OwnLe.take pre.own (by show α.own.length ≤ _; rw [w.len]; exact Nat.le_refl _)).appR
      · have e' := (mv_get hlt h1 (show (α'.own.take hp.length ++ [pk])[n]? = some p from e))
        rw [w.len] at h
        have en : n = hp.length := by omega
        subst en
        have e2 := e'.1
        unfold mvIx at e2
        rw [if_neg (Nat.lt_irrefl _), h1] at e2
        cases e2
        exact hn
      · show (α'.own.take hp.length ++ [pk])[hp.length]? = _
        have hl3 : (α'.own.take hp.length).length = hp.length := by rw [List.length_take]; omega
        rw [List.getElem?_append_right (by omega), hl3]
        simp
    cases v with
    | exn _ _ _ _ => exact r.elim
    | d d =>
      refine q _ _ _ H' u r.2 ex w2 (Rep.mono st2 _ _ rv) fun hf ds ed => ?_
      cases ed
      exact absurd (r.1 hf) (by simp [isLst])
    | ob k j =>
      obtain ⟨pk, a, h1, h5, h2⟩ := rv
      simp only [retP] at r
      by_cases hk : k < hp.length
      · rw [if_pos hk] at r
        refine q _ _ _ H' u r ex w2 ⟨pk, a, ?_, h5, h2⟩ fun _ ds ed => by cases ed
        show (α'.own.take hp.length)[k]? = _
        rw [List.getElem?_take_of_lt hk]
        exact h1
      · rw [if_neg hk] at r
        cases hgo : hp'[k]? with
        | none => rw [hgo] at r; exact r.elim
        | some o =>
        rw [hgo] at r
        cases o with
        | reg gs => exact mvd k pk _ (.ob hp.length j) (fun _ ds ed => by cases ed) (by omega) h1 hgo (fun β hβ => ⟨pk, a, hβ, h5, h2⟩) r
        | _ => exact r.elim
    | mu k =>
      obtain ⟨pk, h1, h2⟩ := rv
      simp only [retP] at r
      by_cases hk : k < hp.length
      · rw [if_pos hk] at r
        refine q _ _ _ H' u r ex w2 ⟨pk, ?_, h2⟩ fun _ ds ed => by cases ed
        show (α'.own.take hp.length)[k]? = _
        rw [List.getElem?_take_of_lt hk]
        exact h1
      · rw [if_neg hk] at r
        cases hgo : hp'[k]? with
        | none => rw [hgo] at r; exact r.elim
        | some o =>
        rw [hgo] at r
        cases o with
        | gone => exact r.elim
        | dtp _ => exact r.elim
        | tbl _ => exact r.elim
        | dct l => exact mvd k pk _ (.mu hp.length) (fun _ ds ed => by cases ed) (by omega) h1 hgo (fun β hβ => ⟨pk, hβ, h2⟩) r
        | reg gs => exact mvd k pk _ (.ob hp.length 0) (fun _ ds ed => by cases ed) (by omega) h1 hgo (fun β hβ => ⟨pk, pk.1, hβ, rfl, h2⟩) r
        | lst ds =>
        have g := lstAt_some hgo
        obtain ⟨us, h3, h4⟩ := w'.lstOf g h1
        have hn : H pk.1 = none := pre.nw k pk (by show α.own.length ≤ k; rw [w.len]; omega) h1
        have na : ∀ b, (Mt (α'.cut hp.length) (hp'.take hp.length) b) → b ≠ pk.1 := by
          rintro b ⟨j, pj, o, g1, g2, g3, g4⟩ e
          obtain ⟨hj, g1⟩ := take_get g1
          obtain ⟨_, g2⟩ := take_get g2
          subst e
          exact w'.inj j k o _ pj pk g2 g1 g3 (lstAt_get g) h1 (fun z => by cases z) (by omega) _ g4 (.inl rfl)
        have nb : ¬ α'.ban pk.1 := fun z => (w'.ban _ z).2 ⟨k, pk, _, h1, lstAt_get g, (fun z => by cases z), .inl rfl⟩
        have nal : ¬ Al (α'.cut hp.length) (hp'.take hp.length) pk.1 := fun z => z.elim (fun z => na _ z rfl) nb
        have sub : ∀ a, Al { α'.cut hp.length with ban := fun b => α'.ban b ∨ b = pk.1 } (hp'.take hp.length) a → Al α' hp' a := fun a z => by
          rcases z with z | z | z
          · exact .inl (mt a z)
          · exact .inr z
          · subst z; exact .inl ⟨k, pk, _, h1, lstAt_get g, (fun z => by cases z), .inl rfl⟩
        have st3 : Step (Al α' hp') (Al α' hp') H' (Al { α'.cut hp.length with ban := fun b => α'.ban b ∨ b = pk.1 } (hp'.take hp.length)) (Al { α'.cut hp.length with ban := fun b => α'.ban b ∨ b = pk.1 } (hp'.take hp.length)) H' :=
          ⟨fun _ _ h _ => h, fun a h => .inl (sub a h), fun a h => .inl (sub a h), fun _ h => h, fun _ o h => ⟨o, h⟩⟩
        refine q _ _ _ H' u r ex w2 ⟨pk.1, us, h2, ⟨h3, nal⟩, RepL.mono st2 _ _ h4⟩ fun _ ds' ed => ?_
        cases ed
        refine ⟨pk.1, us, h2, hn, h3, ?_, RepL.mono st3 _ _ h4⟩
        refine ⟨w2.len, fun j o p g1 g2 => ?_, w2.one, w2.inj, fun a z => ?_⟩
        · exact (w'.obj j o p (take_get g1).2 (take_get (show (α'.own.take hp.length)[j]? = some p from g2)).2).mono st3 fun _ _ _ => rfl
        · rcases z with z | z
          · exact w2.ban a z
          · subst z; exact ⟨⟨_, h3⟩, fun z => na _ z rfl⟩
  refine h _ α _ H _ hh _ m _ ⟨fun s' α' H' σ' n i st hb => ?_, fun _ _ _ _ n _ _ _ => n.elim, fun _ _ _ _ n _ _ _ => n.elim, ret, fun x hp' α' H' c dd σ' r pre w' st hb xr => ?_⟩
  · exact ret (.d .non) s'.hp α' H' .non n i.pre i.ok st hb rfl
  · obtain ⟨w2, mt, st2⟩ := w'.cut hp.length
    exact qx x _ _ H' c dd r (cut_ext w pre w' st hb) w2 (xr.cut st2)
end Mp
set_option Elab.async false
set_option linter.all false
set_option maxRecDepth 100000
set_option maxHeartbeats 4000000
namespace Mp
open PySem PySem.Spec PyProof.Rows L2
structure DE (X : Cx) (W : WX) (e : Expr) (t : TE) (M : ME) : Prop where
  p : PE X e t
  s : SimE X.K W t M
structure DT (X : Cx) (W : WX) (e : Expr) (t : TT) (M : MT) : Prop where
  p : PT X e t
  s : SimT X.K W t M
structure DW (X : Cx) (W : WX) (e : Expr) (t : TT) (M : MT) : Prop where
  p : PW X e t
  s : SimT X.K W t M
structure DA (X : Cx) (W : WX) (es : List Expr) (t : TA) (M : MA) : Prop where
  p : PA X es t
  s : SimA X.K W t M
structure DS (X : Cx) (W : WX) (st : Stmt) (t : TS) (M : MS) : Prop where
  p : L2.PS X st t
  s : SimS X.K W t M
structure DSs (X : Cx) (W : WX) (st : List Stmt) (t : TS) (M : MS) : Prop where
  p : PSs X st t
  s : SimS X.K W t M
structure DG (X : Cx) (e : Expr) (t : TG) (us : List Nat) (M : MG) : Prop where
  p : PG X e t
  s : SimG X.K t us M
structure DGs (X : Cx) (es : List Expr) (t : TGs) (us : List Nat) (M : List D → PS → (PS → Prop) → Prop) : Prop where
  p : PGs X es t
  s : SimGs X.K t us M
structure DI (X : Cx) (W : WX) (tg e : Expr) (t : TI) (M : MI) : Prop where
  p : PI X tg e t
  s : SimI X.K W t M
structure DO (X : Cx) (W : WX) (e : Option Expr) (t : TO) (M : MO) : Prop where
  p : PO X e t
  s : SimO X.K W t M
section
variable {X : Cx} {W : WX} {a b c e : Expr} {es : List Expr} {pos : Pos} {ta tb tc te : TE} {Ma Mb Mc Me : ME} {t u : TT} {Mt Mu : MT} {tA : TA} {MA' : MA}
theorem de_var (i : Nat) {x : Str} (hN : X.N[i]? = some x := by rfl) (hv : Vis X.env.scope x := by first | exact Or.inl rfl | exact Or.inr (Or.inl rfl) | exact Or.inr (Or.inr rfl)) (hd : (x == ("__debug__" : Str)) = false := by decide) (hcd : (x == ("__classdict__" : Str)) = false := by decide) :
    DE X W (.Name x pos) (tVar i) (mVar i) := ⟨pe_var hN hv hd hcd, sim_var i⟩
theorem de_int {i : Int} {j : Nat} : DE X W (.Constant (.int i) j pos) (tC (.int i)) (mC (.int i)) := ⟨pe_int, sim_c fun _ _ => rfl⟩
theorem de_bl {i : Bool} {j : Nat} : DE X W (.Constant (.bool i) j pos) (tC (.bl i)) (mC (.bl i)) := ⟨pe_bl, sim_c fun _ _ => rfl⟩
theorem de_non {j : Nat} : DE X W (.Constant .none j pos) (tC .non) (mC .non) := ⟨pe_non, sim_c fun _ _ => rfl⟩
theorem de_str {i : Str} {j : Nat} : DE X W (.Constant (.str i) j pos) (tC (.str i)) (mC (.str i)) := ⟨pe_str, sim_c fun _ _ => rfl⟩
theorem de_ty {x : Str} {n : String} (hg : Gl X x) (hm : X.mg x = none) (hv : bootBuiltins x = some (.type n)) (hn : x ≠ "__name__" := by decide) (hd : (x == ("__debug__" : Str)) = false := by decide) : DE X W (.Name x pos) (tC (.ty n)) (mC (.ty n)) :=
  ⟨pe_bltn (v := .ty n) hg hm hv rfl hn hd, sim_c fun _ _ => rfl⟩
theorem de_op {op : Operator} {r : R2} {f : F2} (ho : OpR X (binaryOp op) r) (hr : Sim2 X.K r f) (ha : DE X W a ta Ma) (hb : DE X W b tb Mb) : DE X W (.BinOp a op b pos) (tOp r ta tb) (m2 f Ma Mb) := ⟨pe_op ho ha.p hb.p, sim_op hr ha.s hb.s⟩
theorem de_un {op : UnaryOp} {r : V → Hp → VK → Prop} {f : F1} (ho : UnR X (unaryOp op) r) (hr : Sim1 X.K r f) (ha : DE X W a ta Ma) : DE X W (.UnaryOp op a pos) (tUn r ta) (m1 f Ma) := ⟨pe_un ho ha.p, sim_un hr ha.s⟩
theorem de_cmp {op : CmpOp} {r : R2} {f : F2} (ho : OpR X (compareOp op) r) (hr : Sim2 X.K r f) (ha : DE X W a ta Ma) (hb : DE X W b tb Mb) (hm : behindInMarks op b = false) : DE X W (.Compare a [op] [b] pos) (tOp r ta tb) (m2 f Ma Mb) := ⟨pe_cmpR ho ha.p hb.p hm, sim_op hr ha.s hb.s⟩
theorem dt_cmp {op : CmpOp} {r : R2} {f : F2} (ho : OpR X (compareOp op) r) (hr : Sim2 X.K r f) (ha : DE X W a ta Ma) (hb : DE X W b tb Mb) (hm : behindInMarks op b = false) : DT X W (.Compare a [op] [b] pos) (tTest (tOp r ta tb)) (mTest (m2 f Ma Mb)) := ⟨pt_cmpR ho ha.p hb.p hm, sim_test (sim_op hr ha.s hb.s)⟩
theorem dt_val (ha : DE X W a ta Ma) (he : ∀ whole, isTrue a X.env whole = (do let v ← whole; standAt a.pos; holding [v] (truthy v)) := by intro _; rfl) : DT X W a (tB ta) (mTest Ma) := ⟨pt_val ha.p he, sim_tB ha.s⟩
theorem dw_and1 (ha : DT X W a t Mt) : DW X W (.BoolOp .And [a] pos) t Mt := ⟨pw_and1 ha.p, ha.s⟩
theorem dw_or1 (ha : DT X W a t Mt) : DW X W (.BoolOp .Or [a] pos) t Mt := ⟨pw_or1 ha.p, ha.s⟩
theorem dw_and (ha : DT X W a t Mt) (hb : DW X W (.BoolOp .And (b :: es) pos) u Mu) : DW X W (.BoolOp .And (a :: b :: es) pos) (tAnd t u) (mAnd Mt Mu) := ⟨pw_and ha.p hb.p, sim_and ha.s hb.s⟩
theorem dw_or (ha : DT X W a t Mt) (hb : DW X W (.BoolOp .Or (b :: es) pos) u Mu) : DW X W (.BoolOp .Or (a :: b :: es) pos) (tOr t u) (mOr Mt Mu) := ⟨pw_or ha.p hb.p, sim_or ha.s hb.s⟩
theorem dt_w (h : DW X W a t Mt) : DT X W a t Mt := ⟨PW.pt h.p, h.s⟩
theorem dt_not (ha : DT X W a t Mt) : DT X W (.UnaryOp .Not a pos) (tNot t) (mNot Mt) := ⟨pt_not ha.p, sim_not ha.s⟩
theorem de_one {op : BoolOp} (h : DE X W a ta Ma) : DE X W (.BoolOp op [a] pos) ta Ma := ⟨pe_one h.p, h.s⟩
theorem de_and (ha : DE X W a ta Ma) (hb : DE X W (.BoolOp .And (b :: es) pos) tb Mb) : DE X W (.BoolOp .And (a :: b :: es) pos) (tAndV ta tb) (mAndV Ma Mb) := ⟨pe_and ha.p hb.p, sim_andV ha.s hb.s⟩
theorem de_or (ha : DE X W a ta Ma) (hb : DE X W (.BoolOp .Or (b :: es) pos) tb Mb) : DE X W (.BoolOp .Or (a :: b :: es) pos) (tOrV ta tb) (mOrV Ma Mb) := ⟨pe_or ha.p hb.p, sim_orV ha.s hb.s⟩
theorem de_if (hc : DT X W c t Mt) (ha : DE X W a ta Ma) (hb : DE X W b tb Mb) : DE X W (.IfExp c a b pos) (tIf t ta tb) (mIf Mt Ma Mb) := ⟨pe_ifExp hc.p ha.p hb.p, sim_if hc.s ha.s hb.s⟩
theorem da_nil : DA X W [] tNil mNil := ⟨pa_nil, sim_nil⟩
theorem da_cons (ha : DE X W e te Me) (hr : DA X W es tA MA') (hs : starEach (e :: es) X.env = (false, eval e X.env) :: starEach es X.env := by rfl) : DA X W (e :: es) (tCons te tA) (mCons Me MA') := ⟨pa_cons ha.p hr.p hs, sim_cons ha.s hr.s⟩
theorem de_tup {x1 : Nat} (h : DA X W es tA MA') : DE X W (.Tuple es x1 pos) (tTup tA) (mTup MA') := ⟨pe_tup h.p, sim_tup h.s⟩
theorem de_lst (h : DA X W es tA MA') : DE X W (.List es pos) (tLst tA) (mLst MA') := ⟨pe_lst h.p, sim_lst h.s⟩
theorem de_lstM (h : DA X W es tA MA') : DE X W (.List es pos) (tLst tA) (mLstM MA') := ⟨pe_lst h.p, sim_lstM h.s⟩
theorem de_callB {x : Str} {id : String} {r : List V → Hp → VK → Prop} {f : FN} {p : Pos} (hc : CallR X (.builtin id) r) (hr : SimN X.K r f) (hg : Gl X x) (hm : X.mg x = none) (hv : bootBuiltins x = some (.builtin id)) (ha : DA X W (e :: es) tA MA') (hn : x ≠ "__name__" := by decide) (hdb : (x == ("__debug__" : Str)) = false := by decide)
    (he : starEach (e :: es) X.env = (false, eval e X.env) :: starEach es X.env := by rfl) (hpl : (backTo pos (starEach es X.env)).any (·.1) = false := by rfl) : DE X W (.Call (.Name x p) (e :: es) [] pos) (tCB r tA) (mN f MA') :=
  ⟨pe_callB hc hg hm hv ha.p hn hdb he hpl, sim_cb hr ha.s⟩
theorem de_callTy {x : Str} {T : String} {r : List V → Hp → VK → Prop} {f : FN} {p : Pos} (hc : CallR X (.type T) r) (hr : SimN X.K r f) (hg : Gl X x) (hm : X.mg x = none) (hv : bootBuiltins x = some (.type T)) (ha : DA X W (e :: es) tA MA') (hn : x ≠ "__name__" := by decide) (hdb : (x == ("__debug__" : Str)) = false := by decide)
    (he : starEach (e :: es) X.env = (false, eval e X.env) :: starEach es X.env := by rfl) (hpl : (backTo pos (starEach es X.env)).any (·.1) = false := by rfl) : DE X W (.Call (.Name x p) (e :: es) [] pos) (tCB r tA) (mN f MA') :=
  ⟨pe_callTy hc hg hm hv ha.p hn hdb he hpl, sim_cb hr ha.s⟩
theorem de_ix (K : Frag) (ha : DE X W a ta Ma) (hb : DE X W b tb Mb) (hs : PlainIx b := by exact fun _ _ => rfl) (hK : X.K = K := by rfl) : DE X W (.Subscript a b pos) (tOp (rIx K) ta tb) (m2 fIx Ma Mb) := by subst hK; exact ⟨pe_ix ix_seq ha.p hb.p hs, sim_op sim_ix ha.s hb.s⟩
theorem de_dget (hu : X.A.units + 1 < cLine) (ha : DE X W a ta Ma) (hb : DE X W b tb Mb) (hs : NoSl b := by exact fun _ _ => rfl) : DE X W (.Subscript a b pos) (tDGet ta tb) (mDGet Ma Mb) := ⟨pe_dget hu ha.p hb.p hs, sim_dget ha.s hb.s⟩
theorem do_none : DO X W none tNoPart moNone := ⟨po_none, simo_none⟩
theorem do_some (ha : DE X W a ta Ma) : DO X W (some a) (tPart ta) (moSome Ma) := ⟨po_some ha.p, simo_some ha.s⟩
theorem de_sl (K : Frag) {lo hi : Option Expr} {tl th : TO} {Ml Mh : MO} {p2 : Pos} (ha : DE X W a ta Ma) (hl : DO X W lo tl Ml) (hh : DO X W hi th Mh) (hK : X.K = K := by rfl) : DE X W (.Subscript a (.Slice lo hi none p2) pos) (tSl (rSlX K) ta tl th) (mSl Ma Ml Mh) := by subst hK; exact ⟨pe_slice sl_x ha.p hl.p hh.p, sim_sl ha.s hl.s hh.s⟩
theorem de_call (K : Frag) {x : Str} {k n : Nat} {f : Addr} {fd : FuncData} {ps : List Str} {fr : Bool} {M : MF} {ds : List Value} {dvs : List V} {dd : List D} {p : Pos} (F : FnOk X.prog X.w K X.mg X.base (L2.CX X.prog X.w) k f fd ps (spM K n fr M)) (tk : Takes X W) (hr : Room k X.A) (hg : Gl X x) (hm : X.mg x = some (.ref f))
    (hk : PySem.W.keepIn K (.ref f) = true) (hb : Binds K fd ps ds) (hd : Vals dvs ds) (hdd : ∀ A H, RepL K A H dd dvs) (ha : DA X W (e :: es) tA MA') (hdb : (x == ("__debug__" : Str)) = false := by decide)
    (he : starEach (e :: es) X.env = (false, eval e X.env) :: starEach es X.env := by rfl) (hpl : (backTo pos (starEach es X.env)).any (·.1) = false := by rfl) (hK : X.K = K := by rfl) :
    DE X W (.Call (.Name x p) (e :: es) [] pos) (tCallSD (spM K n fr M) dvs (WE W) tA) (mCall n M dd MA') := by subst hK; exact ⟨pe_callSD F hr hg hm hk hb hd (fun σ => passAt tk σ) ha.p hdb he hpl, sim_call hdd ha.s⟩
variable {o : Expr} {to : TE} {Mo : ME} {m : Str} {id : String} {apos : Pos}
theorem de_bm (K : Frag) {x : Bool} {r : V → List V → Hp → VK → Prop} {f : FM} (pa : PlainAttrs "list") (slot : Slot "list" m id) (hty : typeOf (.builtin id) = pure (.type "method_descriptor")) (hm : MtR X id r) (hr : SimM K x r f) (ho : DE X W o to Mo) (ha : DA X W (e :: es) tA MA')
    (hbase : attributeBase o m X.env (eval o X.env) = eval o X.env := by rfl)
    (hfew : ((backTo pos (starEach (e :: es) X.env)).all (fun x => !x.1) && (backToKw pos (keywordEach [] X.env)).all (fun x => x.1.isSome) && decide ((e :: es).length + ([] : List Keyword).length + (if ([] : List Keyword).isEmpty then 0 else 1) < 30)) = true := by rfl)
    (hline : (apos.endLine == pos.line) = true := by rfl) (hs : starEach (e :: es) X.env = (false, eval e X.env) :: starEach es X.env := by rfl) (hp : (backTo pos (starEach es X.env)).any (·.1) = false := by rfl) (hK : X.K = K := by rfl) :
    DE X W (.Call (.Attribute o m apos) (e :: es) [] pos) (tBM K "list" r to tA) (mMeth x f Mo MA') := by subst hK; exact ⟨pe_bm pa slot hty hm ho.p ha.p hbase hfew hline hs hp, sim_meth hr ho.s ha.s⟩
inductive DPs (X : Cx) (W : WX) (pos : Pos) : List (Option Expr) → List Expr → List (TE × TE) → List (ME × ME) → Prop where
  | nil : DPs X W pos [] [] [] []
  | cons {k v : Expr} {ks : List (Option Expr)} {vs : List Expr} {tk tv : TE} {Mk Mv : ME} {tr : List (TE × TE)} {mr : List (ME × ME)} (h1 : DE X W k tk Mk) (h2 : DE X W v tv Mv) (h3 : DPs X W pos ks vs tr mr) : DPs X W pos (some k :: ks) (v :: vs) ((tk, tv) :: tr) ((Mk, Mv) :: mr)
theorem DPs.p {ks : List (Option Expr)} {vs : List Expr} {tr : List (TE × TE)} {mr : List (ME × ME)} (h : DPs X W pos ks vs tr mr) : PPs X pos ks vs tr := by
  induction h with
  | nil => exact pps_nil
  | cons h1 h2 h3 ih => exact pps_cons h1.p h2.p ih
theorem DPs.s {ks : List (Option Expr)} {vs : List Expr} {tr : List (TE × TE)} {mr : List (ME × ME)} (h : DPs X W pos ks vs tr mr) : SimPs X.K W tr mr := by
  induction h with
  | nil => exact .nil
  | cons h1 h2 h3 ih => exact .cons h1.s h2.s ih
theorem de_disp {ks : List (Option Expr)} {vs : List Expr} {tr : List (TE × TE)} {mr : List (ME × ME)} (h : DPs X W pos ks vs tr mr) (hall : ks.all (·.isSome) = true := by rfl) (hl : ks.length = vs.length := by rfl) (h0 : ks ≠ [] := by intro z; cases z) (h15 : ks.length ≤ 15 := by decide) :
    DE X W (.Dict ks vs pos) (tDisp tr) (mDisp mr) := ⟨pe_disp h.p hall hl h0 h15, sim_disp h.s⟩
theorem dg_name (i : Nat) {x : Str} (hN : X.N.Nodup) (hi : X.N[i]? = some x := by rfl) (hx : Loc X.env.scope x := by first | exact Or.inl rfl | exact Or.inr rfl) (hf : X.fn x = true ∨ X.env.scope.names.lookup x = some .local := by first | exact .inl rfl | exact .inr rfl) : DG X (.Name x pos) (gName i) [i] (mgName i) := ⟨pg_name hN hi hx hf, simg_name i⟩
theorem dgs_nil : DGs X [] gNil [] mgsNil := ⟨pgs_nil, simgs_nil⟩
theorem di_sq (K : Frag) {tg : Expr} (h : DE X W e te Me) (hK : X.K = K := by rfl) : DI X W tg e (iSq K te) (miSq Me) := by subst hK; exact ⟨pi_sq h.p, simi_sq h.s⟩
theorem di_r1 {tg : Expr} {p : Pos} (hg : Gl X "range") (hm : X.mg "range" = none) (ha : DA X W [a] tA MA') (hs : starEach [a] X.env = [(false, eval a X.env)] := by rfl) : DI X W tg (.Call (.Name "range" p) [a] [] pos) (iRng1 tA) (miRng f1R MA') := ⟨pi_range1 hg hm ha.p hs, simi_r1 ha.s⟩
abbrev W00 : WX := fun _ _ _ _ => False
theorem de_lc {elt tg iter : Expr} {ifs : List Expr} {scope : Scope} {wi : TI} {g : TG} {us : List Nat} {I : MI} {G : MG} {vs : List Nat} (own : List (Str × Nat)) (ev : own.map (·.2) = vs) (hc : X.calm = true) (hN : X.N.Nodup) (hi : DI X W tg iter wi I) (ok : BlkOk X.N X.env.scope scope own)
    (hg : ∀ (s : Shared) (H : Hp) (C : Addr) (cl : List (Str × Addr)) (fp : List Addr), DG (X.blk s H scope (compEnvC scope cl C X.env) fp) tg g us G) (ht : ∀ (s : Shared) (H : Hp) (C : Addr) (cl : List (Str × Addr)) (fp : List Addr), PTs (X.blk s H scope (compEnvC scope cl C X.env) fp) ifs t)
    (hts : SimT X.K W00 t Mt) (he : ∀ (s : Shared) (H : Hp) (C : Addr) (cl : List (Str × Addr)) (fp : List Addr), DE (X.blk s H scope (compEnvC scope cl C X.env) fp) W00 elt te Me) (hu : ∀ u ∈ us, u ∈ own.map (·.2)) (hs : ∀ x, foldedSetIterable iter X.env x = pure x := by intro _; rfl) :
    DE X W (.ListComp elt [⟨tg, iter, ifs, 0⟩] scope pos) (tLc wi g t te vs) (mLc I G Mt Me vs) :=
  by subst ev; exact ⟨pe_lc hc hN hi.p ok (fun s H C cl fp => (hg s H C cl fp).p) ht (fun s H C cl fp => (he s H C cl fp).p) hs, sim_lc hi.s (hg X.s_0 X.H_0 0 [] []).s hu hts (he X.s_0 X.H_0 0 [] []).s⟩
def mYes : MT := fun s R _ => R true s.hp
theorem sim_yes {K : Frag} : SimT K W tYes mYes := fun α s H σ w e R Xp m Q q _ => q _ _ α H m Ext.refl w
variable {st : Stmt} {rest : List Stmt} {ts us : TS} {Ms Ms' : MS}
theorem dss_nil : DSs X W [] tNext mNext := ⟨pss_nil, sim_next⟩
theorem dss_one (h : DS X W st ts Ms) : DSs X W [st] ts Ms := ⟨pss_one h.p, h.s⟩
theorem dss_cons (h : DS X W st ts Ms) (hr : DSs X W rest us Ms') : DSs X W (st :: rest) (tSeq ts us) (mSeq Ms Ms') := ⟨pss_cons h.p hr.p, sim_seq h.s hr.s⟩
theorem ds_ret (h : DE X W e te Me) : DS X W (.Return (some e) pos) (tRet te) (mRet Me) := ⟨ps_ret h.p, sim_ret h.s⟩
theorem ds_expr (h : DE X W e te Me) (hs : swapsWith e none pos.line X.env = pure false := by rfl) : DS X W (.Expr e pos) (tDrop te) (mDrop Me) := ⟨ps_expr h.p hs, sim_drop h.s⟩
theorem ds_asg {tg : Expr} {g : TG} {uu : List Nat} {G : MG} (h : DE X W e te Me) (hg : DG X tg g uu G) (hs : swapsWithSole [tg] e pos.line X.env = pure false := by rfl) (hw : swappedStores [tg] e X.env = pure none := by rfl) (h1 : (assignEach [tg] X.env).map (·.2) = [assign tg X.env] := by rfl) :
    DS X W (.Assign [tg] e pos) (tAsg te g) (mAsg Me G) := ⟨ps_asg h.p hg.p hs hw h1, sim_asg h.s hg.s⟩
theorem ds_set (i : Nat) {x : Str} {p' : Pos} (hN : X.N.Nodup) (h : DE X W e te Me) (hi : X.N[i]? = some x := by rfl) (hx : Loc X.env.scope x := by first | exact Or.inl rfl | exact Or.inr rfl) (hs : swapsWith e (some (.Name x p')) pos.line X.env = pure false := by rfl)
    (hf : X.fn x = true ∨ X.env.scope.names.lookup x = some .local := by first | exact .inl rfl | exact .inr rfl) : DS X W (.Assign [.Name x p'] e pos) (tAsg te (gName i)) (mAsg Me (mgName i)) := ⟨ps_set hN hi hx h.p hs hf, sim_asg h.s (simg_name i)⟩
theorem ds_aug (i : Nat) {x : Str} {p' : Pos} {op : Operator} {f : Int → Int → Int} (hN : X.N.Nodup) (h : DE X W e te Me) (ho : PIp X op (ipI f)) (hi : X.N[i]? = some x := by rfl) (hx : Loc X.env.scope x := by first | exact Or.inl rfl | exact Or.inr rfl)
    (hf : X.fn x = true ∨ X.env.scope.names.lookup x = some .local := by first | exact .inl rfl | exact .inr rfl) : DS X W (.AugAssign (.Name x p') op e pos) (tAug i te (ipI f)) (mAug i f Me) := ⟨ps_aug hN hi hx h.p ho hf, sim_aug i f h.s⟩
theorem ds_if {xs ys : List Stmt} {t1 t2 : TS} {M1 M2 : MS} (hc : DT X W c t Mt) (ha : DSs X W xs t1 M1) (hb : DSs X W ys t2 M2) : DS X W (.If c xs ys pos) (tIfS t t1 t2) (mIfS Mt M1 M2) := ⟨ps_if hc.p ha.p hb.p, sim_ifS hc.s ha.s hb.s⟩
theorem ds_while {xs : List Stmt} {t1 : TS} {M1 : MS} (hp : PassesOwn (model X.prog X.w) X.A X.env X.xe) (hc : DT X W c t Mt) (hb : DSs X W xs t1 M1) : DS X W (.While c xs [] pos) (tWhile t t1) (mWhile Mt M1) := ⟨ps_while hp hc.p hb.p, sim_while hc.s hb.s⟩
theorem ds_for {tg iter : Expr} {xs : List Stmt} {t1 : TS} {M1 : MS} {wi : TI} {g : TG} {uu : List Nat} {I : MI} {G : MG} (hp : PassesOwn (model X.prog X.w) X.A X.env X.xe) (hc : X.calm = true) (hi : DI X W tg iter wi I) (hg : DG X tg g uu G) (hb : DSs X W xs t1 M1)
    (hs : ∀ x, foldedSetIterable iter X.env x = pure x := by intro _; rfl) : DS X W (.For tg iter xs [] pos) (tFor wi g t1) (mFor I G M1) := ⟨ps_for hp hc hi.p hg.p hb.p hs, sim_for hi.s hg.s hb.s⟩
theorem ds_dput {p' : Pos} (hu : X.A.units + 1 < cLine) (ho : DE X W o to Mo) (hi : DE X W a ta Ma) (hv : DE X W e te Me) (hs : swapsWith e (some (.Subscript o a p')) pos.line X.env = pure false := by rfl) : DS X W (.Assign [.Subscript o a p'] e pos) (sDPut to ta te) (mDPut Mo Ma Me) := ⟨ps_dput hu ho.p hi.p hv.p hs, sim_dput ho.s hi.s hv.s⟩
theorem ds_setLc (i : Nat) {y : Str} {py spos : Pos} {elt tg iter : Expr} {ifs : List Expr} {scope : Scope} {wi : TI} {g : TG} {uu : List Nat} {I : MI} {G : MG} {vs : List Nat} (own : List (Str × Nat)) (ev : own.map (·.2) = vs) (hc : X.calm = true) (hN : X.N.Nodup) (hi : DI X W tg iter wi I) (ok : BlkOk X.N X.env.scope scope own)
    (hg : ∀ (s : Shared) (H : Hp) (C : Addr) (cl : List (Str × Addr)) (fp : List Addr), DG (X.blk s H scope (compEnvC scope cl C X.env) fp) tg g uu G) (ht : ∀ (s : Shared) (H : Hp) (C : Addr) (cl : List (Str × Addr)) (fp : List Addr), PTs (X.blk s H scope (compEnvC scope cl C X.env) fp) ifs t)
    (hts : SimT X.K W00 t Mt) (he : ∀ (s : Shared) (H : Hp) (C : Addr) (cl : List (Str × Addr)) (fp : List Addr), DE (X.blk s H scope (compEnvC scope cl C X.env) fp) W00 elt te Me) (hu : ∀ u ∈ uu, u ∈ own.map (·.2))
    (hyl : X.env.scope.names.lookup y = some .local) (hsw : swapsWith (.ListComp elt [⟨tg, iter, ifs, 0⟩] scope pos) (some (.Name y py)) spos.line X.env = pure true) (hs : ∀ x, foldedSetIterable iter X.env x = pure x := by intro _; rfl) (hy : X.N[i]? = some y := by rfl) :
    DS X W (.Assign [.Name y py] (.ListComp elt [⟨tg, iter, ifs, 0⟩] scope pos) spos) (tAsg (tLc wi g t te vs) (gName i)) (mAsg (mLc I G Mt Me vs) (mgName i)) :=
  by subst ev; exact ⟨ps_setLc hc hN hy hyl hsw hi.p ok (fun s H C cl fp => (hg s H C cl fp).p) ht (fun s H C cl fp => (he s H C cl fp).p) hs, sim_asg (sim_lc hi.s (hg X.s_0 X.H_0 0 [] []).s hu hts (he X.s_0 X.H_0 0 [] []).s) (simg_name i)⟩
end
theorem fn_ok {P : Program} {w : World} {K : Frag} {mg : Str → Option Value} {base : Heap} {x qual : Str} {params : Arguments} {body : List Stmt} {scope : Scope} {dvs : List V} {kws : List (Str × V)} {f : Addr} {fd : FuncData} {Ns ps : List Str} {k n : Nat} {fr : Bool} {Mb : MS}
    (F : FunD K x qual params body scope dvs kws f fd) (S : FnScope Ns ps scope) (hn : ps.length = n) (N : Nat) (hN : Ns.length = N)
    (h : ∀ (cdv : Value) (A : Around) (outer : List Env) (s : Shared) (H : Hp) (E : XK), Room k (A.deeper (envOfC qual scope s.heap.objs.size f cdv)) → ∃ t, DSs (cxOf (L2.CX P w) P w K mg base Ns qual scope f cdv A outer s H E) (fun c d _ H => E c d H) body t Mb) :
    FnOk P w K mg base (L2.CX P w) (k + 1) f fd ps (spM K n fr (mDef N fr Mb)) := by
  refine F.ok S (fun vs H Q E z => by rw [spM_len vs H Q E z, hn]) fun cdv A outer s H vs Q E hr hs => ?_
  obtain ⟨t, d⟩ := h cdv A outer s H E hr
  exact ⟨t, d.p, sim_def hN d.s hs⟩
end Mp
set_option Elab.async false
set_option linter.all false
set_option maxRecDepth 100000
set_option maxHeartbeats 4000000
namespace Mp
open PySem PySem.Spec PyProof.Rows L2
theorem new_mu {K : Frag} {α1 : Mp_} {hp1 : List O} {H1 : Hp} {p : Addr} {ds : List D} {vs : List V} (w1 : WOk K α1 hp1 H1) (hn : H1 p = none) (r : RepL K (Al α1 hp1) H1 ds vs) :
    ∃ α2, WOk K α2 (hp1 ++ [.lst ds]) (upd H1 p (.lst vs)) ∧ Ext α1 hp1 H1 α2 (hp1 ++ [.lst ds]) (upd H1 p (.lst vs)) ∧ SRep K α2 (hp1 ++ [.lst ds]) (upd H1 p (.lst vs)) (.mu hp1.length) (.ref p) := by
  obtain ⟨w2, e2⟩ := w1.pushLst hn r
  exact ⟨_, w2, e2, (p, []), by show (α1.own ++ [(p, [])])[hp1.length]? = _; rw [← w1.len, List.getElem?_append_right (Nat.le_refl _)]; simp, rfl⟩
def fU (g : Int → D) : F1 := fun a P => match a with
  | .int i => P (g i)
  | _ => False
@[simp] theorem fU_int {g : Int → D} {i : Int} {P : D → Prop} : fU g (.int i) P = P (g i) := rfl
theorem sim_U {K : Frag} {g : Int → D} {g' : Int → V} (hg : ∀ A H i, Rep K A H (g i) (g' i)) : Sim1 K (rU g') (fU g) := by
  intro A H d1 v1 _ r1 P p Q q
  cases d1 with
  | int i => cases r1; exact ⟨_, rfl, q _ _ _ p (hg _ _ _) (.inl rfl)⟩
  | _ => exact p.elim
section
variable {X : Cx} {W : WX} {a b c e : Expr} {es : List Expr} {pos : Pos} {ta tb tc te : TE} {Ma Mb Mc Me : ME} {t u : TT} {Mt Mu : MT} {tA : TA} {MA' : MA}
theorem de_gint {x : Str} {i : Int} (hg : Gl X x) (hm : ∃ t, X.mg x = some (.int i t)) (hd : (x == ("__debug__" : Str)) = false := by decide) : DE X W (.Name x pos) (tC (.int i)) (mC (.int i)) := by
  obtain ⟨t, h⟩ := hm
  exact ⟨pe_glob hg h ⟨t, rfl⟩ hd, sim_c fun _ _ => rfl⟩
theorem de_gstr {x : Str} {i : Str} (hg : Gl X x) (hm : ∃ t, X.mg x = some (.str i t)) (hd : (x == ("__debug__" : Str)) = false := by decide) : DE X W (.Name x pos) (tC (.str i)) (mC (.str i)) := by
  obtain ⟨t, h⟩ := hm
  exact ⟨pe_glob hg h ⟨t, rfl⟩ hd, sim_c fun _ _ => rfl⟩
theorem de_neg (ha : DE X W a ta Ma) : DE X W (.UnaryOp .USub a pos) (tUn (rU fun i => .int (-i)) ta) (m1 (fU fun i => .int (-i)) Ma) := de_un un_neg (sim_U fun _ _ _ => rfl) ha
theorem di_r3 {tg : Expr} {p : Pos} (hg : Gl X "range") (hm : X.mg "range" = none) (ha : DA X W [a, b, c] tA MA') (hs : starEach [a, b, c] X.env = (false, eval a X.env) :: starEach [b, c] X.env := by rfl) (hpl : (backTo pos (starEach [b, c] X.env)).any (·.1) = false := by rfl) :
    DI X W tg (.Call (.Name "range" p) [a, b, c] [] pos) (iRng3 tA) (miRng f3R MA') := ⟨pi_range3 hg hm ha.p hs hpl, simi_r3 ha.s⟩
theorem dgs_cons {g : TG} {gs : TGs} {us ws : List Nat} {G : MG} {Gs : List D → PS → (PS → Prop) → Prop} (h1 : DG X e g us G) (h2 : DGs X es gs ws Gs) (hs : (assignEach (e :: es) X.env).map (·.2) = assign e X.env :: (assignEach es X.env).map (·.2) := by rfl) : DGs X (e :: es) (gCons g gs) (us ++ ws) (mgsCons G Gs) := ⟨pgs_cons h1.p h2.p hs, simgs_cons h1.s h2.s⟩
theorem dg_tup (K : Frag) {k n : Nat} {gs : TGs} {us : List Nat} {Gs : List D → PS → (PS → Prop) → Prop} (hc : X.calm = true) (h : DGs X es gs us Gs) (hn : (assignEach es X.env).length = n := by rfl) (hst : (assignEach es X.env).findIdx? (·.1) = none := by rfl) (hK : X.K = K := by rfl) : DG X (.Tuple es k pos) (gTup K n gs) us (mgTup n Gs) := by subst hK; exact ⟨pg_tup hc h.p hn hst, simg_tup h.s⟩
theorem dg_sb {o : Expr} {to : TE} {Mo : ME} (ho : DE X W o to Mo) (hi : DE X W a ta Ma) (hs : ∀ v, assign (.Subscript o a pos) X.env v = (do
      let ov ← holding [v] (eval o X.env)
      let iv ← holding [v, ov] (eval a X.env)
      standAt pos
      holding [v, ov, iv] (setItem ov iv v)
      release [v, ov, iv] []) := by intro _; rfl) : DG X (.Subscript o a pos) (gSub to ta rSetL) [] (mgSub Mo Ma) := ⟨pg_sub ho.p hi.p set_list hs, simg_sub ho.s hi.s⟩
section
variable {elt tg iter tg1 iter1 cnd : Expr} {scope : Scope} {wi wi1 : TI} {g g1 : TG} {uu uu1 : List Nat} {I I1 : MI} {G G1 : MG}
end
end
end Mp
namespace Mp
open PySem PySem.Spec PyProof.Rows L2
theorem u1 {k : Nat} {A : Around} (r : Room k A) : A.units + 1 < cLine := by have := r.units; omega
end Mp
namespace Mp
open PySem PySem.Spec PyProof.Rows L2
section
variable (K : Frag) {X : Cx}
theorem op_addK (hK : X.K = K := by rfl) : OpR X (binaryOp .Add) (rAddA K) := by subst hK; exact op_addA
theorem op_eqK {k : Nat} (hr : Room k X.A) (hK : X.K = K := by rfl) : OpR X (compareOp .Eq) (rEqD K) := by subst hK; exact op_eqD hr.units
theorem op_neK {k : Nat} (hr : Room k X.A) (hK : X.K = K := by rfl) : OpR X (compareOp .NotEq) (rNeD K) := by subst hK; exact op_neD hr.units
theorem op_inK (hK : X.K = K := by rfl) : OpR X (compareOp .In) (rInA K false) := by subst hK; exact op_inA
theorem op_notInK (hK : X.K = K := by rfl) : OpR X (compareOp .NotIn) (rInA K true) := by subst hK; exact op_notInA
theorem call_lenK (hK : X.K = K := by rfl) : CallR X (.builtin "len") (fun xs H Q => ∃ x n, xs = [x] ∧ LenV K x H n ∧ Q (.int n) H) := by subst hK; exact call_len
theorem call_isiK' (hK : X.K = K := by rfl) : CallR X (.builtin "isinstance") (rIsiA K) := by subst hK; exact call_isiA
theorem call_listK (hK : X.K = K := by rfl) : CallR X (.type "list") (rListA K) := by subst hK; exact call_list_of
theorem call_tupleK (hK : X.K = K := by rfl) : CallR X (.type "tuple") (rTupleA K) := by subst hK; exact call_tuple_of
end
end Mp
set_option Elab.async false
set_option linter.all false
set_option maxRecDepth 100000
set_option maxHeartbeats 4000000
namespace Mp
open PySem PySem.Spec PyProof.Rows L2
abbrev EndAtS := LamX.LawAtS
theorem RepL_ints {K : Frag} {A : Av} {H : Hp} : ∀ ns : List Int, RepL K A H (ns.map D.int) (ns.map V.int)
  | [] => rfl
  | n :: ns => ⟨V.int n, ns.map V.int, rfl, rfl, RepL_ints ns⟩
theorem cx_end {P : Program} {w : World} {H : Hp} {s : Shared} {e : Value} {s' : Shared} (z : L2.CX P w [] H s (fun _ _ _ => False) e s') : False := by
  obtain ⟨a, B, H', cls, d, _, _, _, _, _, _, _, z⟩ := z
  exact z
theorem script_start {K : Frag} {H : Hp} {a : Addr} {ns : List Int} {M : MF} (hS : SqL K H a (ns.map V.int)) (m : M [] [.d (.fl (ns.map D.int))] (fun s _ => s = .d (.bl true)) (fun _ _ => False)) :
    spM K 1 false M [.ref a] H (fun v _ => v = .bl true) (fun _ _ _ => False) := by
  refine ⟨rfl, ⟨[], fun _ => False⟩, [], _, _, _, ?_, ?_, m, fun s hp' α' H' v r e w sr _ => ?_, fun x hp' α' H' c dd z _ _ _ => z⟩
  · exact ⟨rfl, fun _ _ _ h => by simp at h, fun _ _ _ h => by simp at h, fun _ _ _ _ _ _ h => by simp at h, fun _ h => h.elim⟩
  · refine .cons ⟨a, ns.map V.int, rfl, ?_, RepL_ints ns⟩ .nil
    rcases hS with h | h
    · exact .inl ⟨h, fun z => z.elim (fun ⟨_, _, _, h, _⟩ => by simp at h) id⟩
    · exact .inr (.inr h)
  · subst r
    exact sr
end Mp
set_option Elab.async false
set_option linter.all false
set_option maxRecDepth 100000
set_option maxHeartbeats 4000000
namespace Mp
open PySem PySem.Spec PyProof.Rows L2
theorem nr {α : Sort _} {a b : α} (h : a = b) : a = b := h
structure Tg {α : Type} (a : α) : Type where
def onH {τ : Type} (o : Option τ) (k : τ → Prop) (_ : Tg k) : Prop := on o k
def brH (b : Bool) (A B : Prop) (_ : Tg (A, B)) : Prop := if b = true then A else B
def mfH (M : MF) (hp : List O) (ss : List S) (R : S → List O → Prop) (Xp : MX) (_ : Tg (M, R, Xp)) : Prop := M hp ss R Xp
def forH (v : Option Wk) (ds : List D) (G : MG) (Mb : MS) (hp : List O) (env : List (Option S)) (n : Nat) (k : MK) (_ : Tg (G, Mb, k)) : Prop := forL v ds G Mb ds ⟨hp, env, n⟩ k
def whileH (Mc : MT) (Mb : MS) (hp : List O) (env : List (Option S)) (n : Nat) (k : MK) (_ : Tg (Mc, Mb, k)) : Prop := mWhile Mc Mb ⟨hp, env, n⟩ k
def compH (v : Option Wk) (ds : List D) (G : MG) (Mt : MT) (Me : ME) (env : List (Option S)) (hp : List O) (R : List D → List O → Prop) (_ : Tg (G, Mt, Me, R)) : Prop := compL v ds G Mt Me env ds [] hp R
@[simp ↓] theorem onH_some {τ : Type} {x : τ} {k : τ → Prop} {t : Tg k} : onH (some x) k t = k x := nr rfl
@[simp ↓] theorem onH_none {τ : Type} {k : τ → Prop} {t : Tg k} : onH none k t = False := nr rfl
@[simp ↓] theorem brH_true {A B : Prop} {t : Tg (A, B)} : brH true A B t = A := nr rfl
@[simp ↓] theorem brH_false {A B : Prop} {t : Tg (A, B)} : brH false A B t = B := nr rfl
theorem mfH_of {M : MF} {hp : List O} {ss : List S} {R : S → List O → Prop} {Xp : MX} {t : Tg (M, R, Xp)} (h : M hp ss R Xp) : mfH M hp ss R Xp t := h
theorem brH_of {b : Bool} {A B : Prop} {t : Tg (A, B)} (h1 : b = true → A) (h2 : b = false → B) : brH b A B t := by
  cases b
  · exact h2 rfl
  · exact h1 rfl
theorem onH_of {τ : Type} {o : Option τ} {k : τ → Prop} {t : Tg k} {x : τ} (e : o = some x) (h : k x) : onH o k t := by subst e; exact h
section
variable {hp : List O} {env : List (Option S)} {n : Nat} {R : S → List O → Prop} {Rb : Bool → List O → Prop} {Rl : List S → List O → Prop} {Xp : MX} {Ma Mb Mc : ME} {Ta Tb : MT} {La : MA} {Sa Sb : MS}
  {nx bk ct : PS → Prop} {rt : S → List O → Prop} {ex : MX}
@[simp ↓] theorem x_var {i : Nat} : mVar i ⟨hp, env, n⟩ R Xp = onH (env[i]?.join) (fun v => R v hp) .mk := by
  show (match env[i]? with | some (some v) => R v hp | _ => False) = on (env[i]?.join) fun v => R v hp
  cases env[i]? with
  | none => rfl
  | some o => cases o <;> rfl
@[simp ↓] theorem x_c {d : D} : mC d ⟨hp, env, n⟩ R Xp = R (.d d) hp := nr rfl
@[simp ↓] theorem x_2 {f : F2} : m2 f Ma Mb ⟨hp, env, n⟩ R Xp = Ma ⟨hp, env, n⟩ (fun x hp1 => Mb ⟨hp1, env, n⟩ (fun y hp2 => onH (val hp2 x) (fun d1 => onH (val hp2 y) (fun d2 => f d1 d2 fun d => R (.d d) hp2) .mk) .mk) Xp) Xp := nr rfl
@[simp ↓] theorem x_1 {f : F1} : m1 f Ma ⟨hp, env, n⟩ R Xp = Ma ⟨hp, env, n⟩ (fun x hp1 => onH (val hp1 x) (fun d1 => f d1 fun d => R (.d d) hp1) .mk) Xp := nr rfl
@[simp ↓] theorem x_nil : mNil ⟨hp, env, n⟩ Rl Xp = Rl [] hp := nr rfl
@[simp ↓] theorem x_cons : mCons Ma La ⟨hp, env, n⟩ Rl Xp = Ma ⟨hp, env, n⟩ (fun x hp1 => La ⟨hp1, env, n⟩ (fun xs hp2 => Rl (x :: xs) hp2) Xp) Xp := nr rfl
@[simp ↓] theorem x_N {f : FN} : mN f La ⟨hp, env, n⟩ R Xp = La ⟨hp, env, n⟩ (fun xs hp1 => onH (vals hp1 xs) (fun ds => f ds fun d => R (.d d) hp1) .mk) Xp := nr rfl
@[simp ↓] theorem x_tup : mTup La ⟨hp, env, n⟩ R Xp = La ⟨hp, env, n⟩ (fun xs hp1 => onH (allD xs) (fun ds => ds.length ≤ sizeLine ∧ R (.d (.tup ds)) hp1) .mk) Xp := nr rfl
@[simp ↓] theorem x_lst : mLst La ⟨hp, env, n⟩ R Xp = La ⟨hp, env, n⟩ (fun xs hp1 => onH (allD xs) (fun ds => ds.length ≤ sizeLine ∧ R (.d (.lst ds)) hp1) .mk) Xp := nr rfl
@[simp ↓] theorem x_lstM : mLstM La ⟨hp, env, n⟩ R Xp = La ⟨hp, env, n⟩ (fun xs hp1 => onH (allD xs) (fun ds => ds.length ≤ sizeLine ∧ R (.mu hp1.length) (hp1 ++ [.lst ds])) .mk) Xp := nr rfl
@[simp ↓] theorem x_test : mTest Ma ⟨hp, env, n⟩ Rb Xp = Ma ⟨hp, env, n⟩ (fun x hp1 => onH (asB x) (fun b => Rb b hp1) .mk) Xp := nr rfl
@[simp ↓] theorem x_and : mAnd Ta Tb ⟨hp, env, n⟩ Rb Xp = Ta ⟨hp, env, n⟩ (fun b hp1 => brH b (Tb ⟨hp1, env, n⟩ Rb Xp) (Rb false hp1) .mk) Xp := nr rfl
@[simp ↓] theorem x_or : mOr Ta Tb ⟨hp, env, n⟩ Rb Xp = Ta ⟨hp, env, n⟩ (fun b hp1 => brH b (Rb true hp1) (Tb ⟨hp1, env, n⟩ Rb Xp) .mk) Xp := nr rfl
@[simp ↓] theorem x_not : mNot Ta ⟨hp, env, n⟩ Rb Xp = Ta ⟨hp, env, n⟩ (fun b hp1 => Rb (!b) hp1) Xp := nr rfl
@[simp ↓] theorem x_andV : mAndV Ma Mb ⟨hp, env, n⟩ R Xp = Ma ⟨hp, env, n⟩ (fun x hp1 => onH (asB x) (fun b => brH b (Mb ⟨hp1, env, n⟩ R Xp) (R (.d (.bl false)) hp1) .mk) .mk) Xp := nr rfl
@[simp ↓] theorem x_orV : mOrV Ma Mb ⟨hp, env, n⟩ R Xp = Ma ⟨hp, env, n⟩ (fun x hp1 => onH (asB x) (fun b => brH b (R (.d (.bl true)) hp1) (Mb ⟨hp1, env, n⟩ R Xp) .mk) .mk) Xp := nr rfl
@[simp ↓] theorem x_if : mIf Ta Ma Mb ⟨hp, env, n⟩ R Xp = Ta ⟨hp, env, n⟩ (fun b hp1 => brH b (Ma ⟨hp1, env, n⟩ R Xp) (Mb ⟨hp1, env, n⟩ R Xp) .mk) Xp := nr rfl
@[simp ↓] theorem x_asg {G : MG} : mAsg Ma G ⟨hp, env, n⟩ ⟨nx, bk, ct, rt, ex⟩ = Ma ⟨hp, env, n⟩ (fun v hp' => G v ⟨hp', env, n⟩ nx) ex := nr rfl
@[simp ↓] theorem x_gName {i : Nat} {v : S} : mgName i v ⟨hp, env, n⟩ nx = nx ⟨hp, env.set i (some v), n⟩ := nr rfl
@[simp ↓] theorem x_drop : mDrop Ma ⟨hp, env, n⟩ ⟨nx, bk, ct, rt, ex⟩ = Ma ⟨hp, env, n⟩ (fun _ hp' => nx ⟨hp', env, n⟩) ex := nr rfl
@[simp ↓] theorem x_ret : mRet Ma ⟨hp, env, n⟩ ⟨nx, bk, ct, rt, ex⟩ = Ma ⟨hp, env, n⟩ rt ex := nr rfl
@[simp ↓] theorem x_next : mNext ⟨hp, env, n⟩ ⟨nx, bk, ct, rt, ex⟩ = nx ⟨hp, env, n⟩ := nr rfl
@[simp ↓] theorem x_seq : mSeq Sa Sb ⟨hp, env, n⟩ ⟨nx, bk, ct, rt, ex⟩ = Sa ⟨hp, env, n⟩ ⟨fun s' => Sb s' ⟨nx, bk, ct, rt, ex⟩, bk, ct, rt, ex⟩ := nr rfl
@[simp ↓] theorem x_ifS : mIfS Ta Sa Sb ⟨hp, env, n⟩ ⟨nx, bk, ct, rt, ex⟩ = Ta ⟨hp, env, n⟩ (fun b hp' => brH b (Sa ⟨hp', env, n⟩ ⟨nx, bk, ct, rt, ex⟩) (Sb ⟨hp', env, n⟩ ⟨nx, bk, ct, rt, ex⟩) .mk) ex := nr rfl
def intO : Option (Option S) → Option Int
  | some (some (.d (.int a))) => some a
  | _ => none
@[simp] theorem intO_some {a : Int} : intO (some (some (.d (.int a)))) = some a := rfl
@[simp ↓] theorem x_aug {i : Nat} {f : Int → Int → Int} : mAug i f Ma ⟨hp, env, n⟩ ⟨nx, bk, ct, rt, ex⟩ = onH (intO env[i]?) (fun a => Ma ⟨hp, env, n⟩ (fun v hp' => onH (val hp' v) (fun d => onH (asI d) (fun b => nx ⟨hp', env.set i (some (.d (.int (f a b)))), n⟩) .mk) .mk) ex) .mk := nr rfl
@[simp ↓] theorem x_while {Mt : MT} {Mb : MS} {k : MK} : mWhile Mt Mb ⟨hp, env, n⟩ k = whileH Mt Mb hp env n k .mk := nr rfl
@[simp ↓] theorem x_for {I : MI} {G : MG} {Mb : MS} {k : MK} : mFor I G Mb ⟨hp, env, n⟩ k = I ⟨hp, env, n⟩ (fun v ds hp' => forH v ds G Mb hp' env n k .mk) k.ex := nr rfl
def walkO (hp : List O) : S → Option (Option Wk × List D)
  | .d d => (items d).map fun ds => (none, ds)
  | .mu m => match hp[m]? with
    | some (.lst ds) => some (some (.mu m), ds)
    | _ => none
  | .ob n k => (nodeDs hp n k).map fun ds => (some (.ob n k), ds)
  | .exn _ _ _ _ => none
theorem walked_O {v : S} {Rw : Option Wk → List D → List O → Prop} : walked hp v Rw = on (walkO hp v) fun p => Rw p.1 p.2 hp := by
  cases v with
  | d d =>
    show on (items d) _ = on ((items d).map _) _
    cases items d <;> rfl
  | mu m =>
    show (match hp[m]? with | some (.lst ds) => Rw (some (.mu m)) ds hp | _ => False) = on (match hp[m]? with | some (.lst ds) => some (some (Wk.mu m), ds) | _ => none) _
    cases hp[m]? with
    | none => rfl
    | some o => cases o <;> rfl
  | ob n k =>
    show on (nodeDs hp n k) _ = on ((nodeDs hp n k).map _) _
    cases nodeDs hp n k <;> rfl
  | exn _ _ _ _ => rfl
variable {Rw : Option Wk → List D → List O → Prop}
@[simp ↓] theorem x_iSq : miSq Ma ⟨hp, env, n⟩ Rw Xp = Ma ⟨hp, env, n⟩ (fun v hp' => onH (walkO hp' v) (fun p => Rw p.1 p.2 hp') .mk) Xp := by
  show Ma ⟨hp, env, n⟩ (fun v hp' => walked hp' v Rw) Xp = _
  congr 1
  funext v hp'
  exact walked_O
@[simp ↓] theorem x_iRng {f : List Int → (Int → Int → Nat → Prop) → Prop} : miRng f La ⟨hp, env, n⟩ Rw Xp = La ⟨hp, env, n⟩ (fun vs hp' => onH (vals hp' vs) (fun ds => onH (intsD ds) (fun l => f l fun lo c n => Rw none (rng lo c n) hp') .mk) .mk) Xp := nr rfl
@[simp] theorem walkO_d {d : D} : walkO hp (.d d) = (items d).map fun ds => (none, ds) := rfl
def lstO : Option O → Option (List D)
  | some (.lst ds) => some ds
  | _ => none
def dctO : Option O → Option (List (Key × D))
  | some (.dct ds) => some ds
  | _ => none
@[simp] theorem lstO_some {ds : List D} : lstO (some (.lst ds)) = some ds := rfl
@[simp] theorem dctO_some {ds : List (Key × D)} : dctO (some (.dct ds)) = some ds := rfl
@[simp] theorem lstAt_O {m : Nat} : lstAt hp m = lstO hp[m]? := rfl
@[simp] theorem dctAt_O {m : Nat} : dctAt hp m = dctO hp[m]? := rfl
@[simp] theorem walkO_ob {n k : Nat} : walkO hp (.ob n k) = (nodeDs hp n k).map fun ds => (some (.ob n k), ds) := rfl
theorem val_ob {n k : Nat} : val hp (.ob n k) = (nodeDs hp n k).map D.lst := by
  show (match nodeAt hp n k with | some (.lst xs) => (dsOf xs).map D.lst | _ => none) = _
  unfold nodeDs
  cases nodeAt hp n k with
  | none => rfl
  | some g => cases g <;> rfl
@[simp] theorem walkO_mu {m : Nat} : walkO hp (.mu m) = (lstO hp[m]?).map fun ds => (some (.mu m), ds) := by
  show (match hp[m]? with | some (.lst ds) => some (some (Wk.mu m), ds) | _ => none) = _
  cases hp[m]? with
  | none => rfl
  | some o => cases o <;> rfl
@[simp] theorem val_O {m : Nat} : val hp (.mu m) = (lstO hp[m]?).map D.lst := by
  show (match hp[m]? with | some (.lst ds) => some (D.lst ds) | _ => none) = _
  cases hp[m]? with
  | none => rfl
  | some o => cases o <;> rfl
@[simp] theorem vals_nil : vals hp [] = some [] := rfl
def c2 {τ : Type} : Option τ → Option (List τ) → Option (List τ)
  | some a, some b => some (a :: b)
  | _, _ => none
@[simp] theorem c2_some {τ : Type} {a : τ} {b : List τ} : c2 (some a) (some b) = some (a :: b) := rfl
@[simp] theorem vals_cons {x : S} {xs : List S} : vals hp (x :: xs) = c2 (val hp x) (vals hp xs) := by
  show (match val hp x, vals hp xs with | some d, some ds => some (d :: ds) | _, _ => none) = _
  cases val hp x <;> cases vals hp xs <;> rfl
@[simp] theorem allD_nil : allD [] = some [] := rfl
@[simp] theorem allD_d {x : D} {xs : List S} : allD (.d x :: xs) = c2 (some x) (allD xs) := by
  show (match allD xs with | some ds => some (x :: ds) | _ => none) = _
  cases allD xs <;> rfl
@[simp] theorem asB_bl {b : Bool} : asB (.d (.bl b)) = some b := rfl
@[simp] theorem intsD_nil : intsD [] = some [] := rfl
@[simp] theorem intsD_int {i : Int} {r : List D} : intsD (.int i :: r) = c2 (some i) (intsD r) := by
  show ((intsD r).bind fun l => some (i :: l)) = _
  cases intsD r <;> rfl
@[simp] theorem args_t {vs : List S} : args true hp vs = vals hp vs := rfl
@[simp] theorem args_f {vs : List S} : args false hp vs = allD vs := rfl
@[simp ↓] theorem x_meth {x : Bool} {f : FM} : mMeth x f Ma La ⟨hp, env, n⟩ R Xp = Ma ⟨hp, env, n⟩ (fun o hp1 => onH (asMu o) (fun m => onH (lstO hp1[m]?) (fun _ => La ⟨hp1, env, n⟩ (fun vs hp2 => onH (lstO hp2[m]?) (fun ds => onH (args x hp2 vs) (fun es => f ds es fun d ds' => R (.d d) (hp2.set m (.lst ds'))) .mk) .mk) Xp) .mk) .mk) Xp := nr rfl
@[simp ↓] theorem x_gSub {v : S} : mgSub Ma Mb v ⟨hp, env, n⟩ nx = Ma ⟨hp, env, n⟩ (fun o hp1 => Mb ⟨hp1, env, n⟩ (fun i hp2 => onH (asMu o) (fun m => onH (lstO hp2[m]?) (fun ds => onH (isD i) (fun di => onH (asI di) (fun k => onH (ixN ds.length k) (fun j => onH (isD v) (fun d => nx ⟨hp2.set m (.lst (ds.set j d)), env, n⟩) .mk) .mk) .mk) .mk) .mk) .mk) noX) noX := nr rfl
@[simp ↓] theorem x_dget : mDGet Ma Mb ⟨hp, env, n⟩ R Xp = Ma ⟨hp, env, n⟩ (fun o hp1 => Mb ⟨hp1, env, n⟩ (fun y hp2 => onH (asMu o) (fun m => onH (dctO hp2[m]?) (fun l => onH (isD y) (fun dy => onH (keyD dy) (fun k => onH (getK l k) (fun d => R (.d d) hp2) .mk) .mk) .mk) .mk) .mk) Xp) Xp := nr rfl
@[simp ↓] theorem x_dput : mDPut Ma Mb Mc ⟨hp, env, n⟩ ⟨nx, bk, ct, rt, ex⟩ = Mc ⟨hp, env, n⟩ (fun v hp1 => Ma ⟨hp1, env, n⟩ (fun o hp2 => Mb ⟨hp2, env, n⟩ (fun y hp3 => onH (asMu o) (fun m => onH (dctO hp3[m]?) (fun l => onH (isD y) (fun dy => onH (keyD dy) (fun key => onH (isD v) (fun d => l.length < sizeLine ∧
  nx ⟨hp3.set m (.dct (setK l key d)), env, n⟩) .mk) .mk) .mk) .mk) .mk) ex) ex) ex := nr rfl
variable {Ml Mh : MO} {Ro : Option Int → List O → Prop}
@[simp ↓] theorem x_oNone : moNone ⟨hp, env, n⟩ Ro Xp = Ro none hp := nr rfl
@[simp ↓] theorem x_oSome : moSome Ma ⟨hp, env, n⟩ Ro Xp = Ma ⟨hp, env, n⟩ (fun v hp1 => onH (isD v) (fun d => onH (asI d) (fun i => Ro (some i) hp1) .mk) .mk) Xp := nr rfl
@[simp ↓] theorem x_sl : mSl Ma Ml Mh ⟨hp, env, n⟩ R Xp = Ma ⟨hp, env, n⟩ (fun x hp1 => Ml ⟨hp1, env, n⟩ (fun lo hp2 => Mh ⟨hp2, env, n⟩ (fun hi hp3 => onH (val hp3 x) (fun d => fSl d lo hi fun d' => R (.d d') hp3) .mk) Xp) Xp) Xp := nr rfl
@[simp ↓] theorem x_call {N : Nat} {M : MF} {dd : List D} : mCall N M dd La ⟨hp, env, n⟩ R Xp = La ⟨hp, env, n⟩ (fun ss hp1 => ss.length + dd.length = N ∧ mfH M hp1 (ss ++ dd.map S.d) R Xp .mk) Xp := nr rfl
@[simp ↓] theorem x_lc {I : MI} {G : MG} {Mt : MT} {vs : List Nat} : mLc I G Mt Ma vs ⟨hp, env, n⟩ R Xp = I ⟨hp, env, n⟩ (fun v ds hp' => compH v ds G Mt Ma (wipeE env vs) hp' (fun acc hp2 => R (.d (.lst acc)) hp2) .mk) Xp := nr rfl
@[simp ↓] theorem x_yes : mYes ⟨hp, env, n⟩ Rb Xp = Rb true hp := nr rfl
variable {Rp : List (S × S) → List O → Prop}
@[simp ↓] theorem x_pnil : mPairs [] ⟨hp, env, n⟩ Rp Xp = Rp [] hp := nr rfl
@[simp ↓] theorem x_pcons {mr : List (ME × ME)} : mPairs ((Ma, Mb) :: mr) ⟨hp, env, n⟩ Rp Xp = Ma ⟨hp, env, n⟩ (fun k hp1 => Mb ⟨hp1, env, n⟩ (fun v hp2 => mPairs mr ⟨hp2, env, n⟩ (fun ps hp3 => Rp ((k, v) :: ps) hp3) Xp) Xp) Xp := nr rfl
@[simp ↓] theorem x_disp {mr : List (ME × ME)} : mDisp mr ⟨hp, env, n⟩ R Xp = mPairs mr ⟨hp, env, n⟩ (fun ps hp1 => onH (keysD ps) (fun l => l.length ≤ 15 ∧ R (.mu hp1.length) (hp1 ++ [.dct (mergeD [] l)])) .mk) Xp := nr rfl
@[simp ↓] theorem x_def {N : Nat} {fr : Bool} {Mb : MS} {ss : List S} : mDef N fr Mb hp ss R Xp = Mb ⟨hp, ss.map some ++ List.replicate (N - ss.length) none, hp.length⟩ ⟨fun s' => retP hp.length fr R (.d .non) s'.hp, fun _ => False, fun _ => False, retP hp.length fr R, fun x hp' => Xp x (hp'.take hp.length)⟩ := nr rfl
@[simp ↓] theorem x_retD {m : Nat} {d : D} : retP m false R (.d d) hp = R (.d d) (hp.take m) := by
  show ((false = true → isLst d = false) ∧ R (.d d) (hp.take m)) = _
  simp
@[simp ↓] theorem x_retDT {m : Nat} {d : D} : retP m true R (.d d) hp = (isLst d = false ∧ R (.d d) (hp.take m)) := by
  show ((true = true → isLst d = false) ∧ R (.d d) (hp.take m)) = _
  simp
def retO (n0 : Nat) (R : S → List O → Prop) (hp : List O) (o : Option O) (_ : Tg R) : Prop := match o with
  | some (.lst ds) => R (.d (.lst ds)) (hp.take n0)
  | some (.dct l) => R (.mu n0) (hp.take n0 ++ [.dct l])
  | some (.reg gs) => R (.ob n0 0) (hp.take n0 ++ [.reg gs])
  | _ => False
@[simp ↓] theorem x_retM {m k : Nat} {fr : Bool} : retP m fr R (.mu k) hp = brH (decide (k < m)) (R (.mu k) (hp.take m)) (retO m R hp hp[k]? .mk) .mk := by
  show (if k < m then _ else _) = (if decide (k < m) = true then _ else _)
  by_cases h : k < m
  · rw [if_pos h, if_pos (by simpa using h)]
  · rw [if_neg h, if_neg (by simpa using h)]
    rfl
@[simp ↓] theorem retO_lst {m : Nat} {ds : List D} {t : Tg R} : retO m R hp (some (.lst ds)) t = R (.d (.lst ds)) (hp.take m) := nr rfl
@[simp ↓] theorem retO_dct {m : Nat} {ds : List (Key × D)} {t : Tg R} : retO m R hp (some (.dct ds)) t = R (.mu m) (hp.take m ++ [.dct ds]) := nr rfl
@[simp ↓] theorem retO_reg {m : Nat} {gs : List Gn} {t : Tg R} : retO m R hp (some (.reg gs)) t = R (.ob m 0) (hp.take m ++ [.reg gs]) := nr rfl
def retG (n0 k : Nat) (R : S → List O → Prop) (hp : List O) (o : Option O) (_ : Tg R) : Prop := match o with
  | some (.reg gs) => R (.ob n0 k) (hp.take n0 ++ [.reg gs])
  | _ => False
@[simp ↓] theorem x_retOb {m j k : Nat} {fr : Bool} : retP m fr R (.ob j k) hp = brH (decide (j < m)) (R (.ob j k) (hp.take m)) (retG m k R hp hp[j]? .mk) .mk := by
  show (if j < m then _ else _) = (if decide (j < m) = true then _ else _)
  by_cases h : j < m
  · rw [if_pos h, if_pos (by simpa using h)]
  · rw [if_neg h, if_neg (by simpa using h)]
    rfl
@[simp ↓] theorem retG_reg {m k : Nat} {gs : List Gn} {t : Tg R} : retG m k R hp (some (.reg gs)) t = R (.ob m k) (hp.take m ++ [.reg gs]) := nr rfl
variable {τ : Type}
@[simp ↓] theorem x_one {d : D} {P : D → Prop} : one [d] P = P d := nr rfl
@[simp ↓] theorem x_two {d e : D} {P : D → D → Prop} : two [d, e] P = P d e := nr rfl
section
variable {P : D → Prop} {i j : Int} {x y : List D}
@[simp ↓] theorem xfI {C : Int → Int → Prop} {g : Int → Int → D} : fI C g (.int i) (.int j) P = (C i j ∧ P (g i j)) := nr rfl
@[simp ↓] theorem xfI0 {g : Int → Int → D} : fI0 g (.int i) (.int j) P = P (g i j) := nr rfl
@[simp ↓] theorem xfU {g : Int → D} : fU g (.int i) P = P (g i) := nr rfl
@[simp ↓] theorem xfMul : fMul (.int i) (.int j) P = ((CMul i j ∨ CMulW i j) ∧ P (.int (i * j))) := nr rfl
@[simp ↓] theorem xfMulS {z : Str} : fMul (.str z) (.int j) P = (MulOk z j ∧ P (.str (Txt.mul z j))) := nr rfl
@[simp ↓] theorem xfMulL : fMul (.lst x) (.int j) P = (-(2 ^ 63) ≤ j ∧ j < 2 ^ 63 ∧ x.length * j.toNat ≤ sizeLine ∧ P (.lst (List.flatten (List.replicate j.toNat x)))) := nr rfl
@[simp ↓] theorem xfAdd : fAdd (.int i) (.int j) P = P (.int (i + j)) := nr rfl
@[simp ↓] theorem xfAddL : fAdd (.lst x) (.lst y) P = (x.length + y.length ≤ sizeLine ∧ P (.lst (x ++ y))) := nr rfl
@[simp ↓] theorem xfAddT : fAdd (.tup x) (.tup y) P = (x.length + y.length ≤ sizeLine ∧ P (.tup (x ++ y))) := nr rfl
@[simp ↓] theorem xfAddS {i j : Str} : fAdd (.str i) (.str j) P = (i.length + j.length ≤ sizeLine ∧ P (.str (i ++ j))) := nr rfl
@[simp ↓] theorem xfEq {a b : D} : fEq a b P = (shD a = true ∧ shD b = true ∧ P (.bl (eqD a b))) := nr rfl
@[simp ↓] theorem xfNe {a b : D} : fNe a b P = (shD a = true ∧ shD b = true ∧ P (.bl (!eqD a b))) := nr rfl
@[simp ↓] theorem xfIsN {a : D} : fIsN a .non P = P (.bl (isNon a)) := nr rfl
@[simp ↓] theorem xfIxL : fIx (.lst x) (.int i) P = onH (atI x i) P .mk := nr rfl
@[simp ↓] theorem xfIxT : fIx (.tup x) (.int i) P = onH (atI x i) P .mk := nr rfl
@[simp ↓] theorem xfIxF : fIx (.fl x) (.int i) P = onH (atI x i) P .mk := nr rfl
@[simp ↓] theorem xfLenL : fLen [.lst x] P = P (.int x.length) := by simp [fLen, asS, one, on]
@[simp ↓] theorem xfLenT : fLen [.tup x] P = P (.int x.length) := by simp [fLen, asS, one, on]
@[simp ↓] theorem xfLenF : fLen [.fl x] P = P (.int x.length) := by simp [fLen, asS, one, on]
@[simp ↓] theorem xfLenS {x : Str} : fLen [.str x] P = (x.length ≤ sizeLine ∧ P (.int x.length)) := by simp [fLen, asS, one, on, items]
@[simp ↓] theorem xfInt : fInt [.int i] P = P (.int i) := by simp [fInt, one, on, asB']
@[simp ↓] theorem xfIntB {b : Bool} : fInt [.bl b] P = P (.int (if b then 1 else 0)) := by simp [fInt, one, on, asI]
@[simp ↓] theorem xfAbs : fAbs [.int i] P = P (.int (if i < 0 then -i else i)) := nr rfl
@[simp ↓] theorem xfMM {g : Int → Int → Int} : fMM g [.int i, .int j] P = P (.int (g i j)) := nr rfl
@[simp ↓] theorem xfListL : fList [.lst x] P = P (.lst x) := nr rfl
@[simp ↓] theorem xfListT : fList [.tup x] P = P (.lst x) := nr rfl
@[simp ↓] theorem xfListF : fList [.fl x] P = P (.lst x) := nr rfl
@[simp ↓] theorem xfTupleL : fTuple [.lst x] P = P (.tup x) := nr rfl
@[simp ↓] theorem xfTupleT : fTuple [.tup x] P = P (.tup x) := nr rfl
@[simp ↓] theorem xfTupleF : fTuple [.fl x] P = P (.tup x) := nr rfl
@[simp ↓] theorem xfSlL {lo hi : Option Int} : fSl (.lst x) lo hi P = P (.lst (cutD x lo hi)) := nr rfl
@[simp ↓] theorem xfSlF {lo hi : Option Int} : fSl (.fl x) lo hi P = P (.lst (cutD x lo hi)) := nr rfl
@[simp ↓] theorem xfSlS {z : Str} {lo hi : Option Int} : fSl (.str z) lo hi P = (z.length ≤ sizeLine ∧ P (.str (cutS z lo hi))) := nr rfl
@[simp ↓] theorem xfSlT {lo hi : Option Int} : fSl (.tup x) lo hi P = P (.tup (cutD x lo hi)) := nr rfl
variable {Q : D → List D → Prop} {e : D}
@[simp ↓] theorem xfAppend : fAppend x [e] Q = (x.length < sizeLine ∧ Q .non (x ++ [e])) := nr rfl
@[simp ↓] theorem xfExtend : fExtend x [.lst y] Q = (x.length + y.length ≤ sizeLine ∧ Q .non (x ++ y)) := nr rfl
variable {k : Int → Int → Nat → Prop}
@[simp ↓] theorem xf1R : f1R [j] k = (-(2 ^ 62) ≤ j ∧ j < 2 ^ 62 ∧ k 0 1 j.toNat) := nr rfl
@[simp ↓] theorem xf3R {c : Int} : f3R [i, j, c] k = ∃ n, RgC i j c n ∧ k i c n := nr rfl
end
end
end Mp
set_option Elab.async false
set_option linter.all false
set_option maxRecDepth 100000
set_option maxHeartbeats 4000000
namespace Mp
open PySem PySem.Spec PyProof.Rows L2
@[simp] theorem cm_r {i j : Int} (h1 : -18446744073709551616 < j) (h2 : j < 18446744073709551616) : (CMul i j ∨ CMulW i j) = True := eq_true (.inl (.inr ⟨h1, h2⟩))
@[simp] theorem cm_l {i j : Int} (h1 : -18446744073709551616 < i) (h2 : i < 18446744073709551616) : (CMul i j ∨ CMulW i j) = True := eq_true (.inl (.inl ⟨h1, h2⟩))
theorem log2_lt {n k : Nat} (h : n < 2 ^ k) (hk : 0 < k) : n.log2 < k := by
  by_cases h0 : n = 0
  · subst h0; simpa using hk
  · exact (Nat.log2_lt h0).mpr h
@[simp] theorem cdiv_ok {i j : Int} (h1 : 0 < j) (h2 : j < 18446744073709551616) : CDivW i j = True := eq_true ⟨h1, Nat.lt_trans (log2_lt (k := 64) (by omega) (by decide)) (by decide)⟩
@[simp] theorem emod_lt_lit {a m : Int} (h : 0 < m) : (a % m < m) = True := eq_true (Int.emod_lt_of_pos a h)
def iL (xs : List Int) : List D := xs.map D.int
theorem py_ints : ∀ ns : List Int, D.pyL (ns.map D.int) = ns.map PyData.int
  | [] => by simp [D.pyL]
  | n :: ns => by simp [D.pyL, D.py, py_ints ns]
theorem eqv_ints : ∀ xs ys : List Int, PyData.eqvAll (xs.map PyData.int) (ys.map PyData.int) = decide (xs = ys)
  | [], [] => by simp [PyData.eqvAll]
  | [], _ :: _ => by simp [PyData.eqvAll]
  | _ :: _, [] => by simp [PyData.eqvAll]
  | x :: xs, y :: ys => by
    simp only [List.map_cons, PyData.eqvAll, PyData.eqv, eqv_ints xs ys, List.cons.injEq]
    by_cases h1 : x = y <;> by_cases h2 : xs = ys <;> simp [h1, h2]
theorem lay_ints : ∀ ns : List Int, PyData.canLayAll0 (ns.map PyData.int) = true
  | [] => by simp [PyData.canLayAll0]
  | n :: ns => by simp [PyData.canLayAll0, PyData.canLay0, lay_ints ns]
theorem depth_ints : ∀ ns : List Int, PyData.depthAll (ns.map PyData.int) ≤ 1
  | [] => by simp [PyData.depthAll]
  | n :: ns => by
    have := depth_ints ns
    simp [PyData.depthAll, PyData.depth] <;> omega
@[simp] theorem eqD_int {i j : Int} : eqD (.int i) (.int j) = decide (i = j) := by
  simp only [eqD, D.py, PyData.eqv]
  by_cases h : i = j <;> simp [h]
@[simp] theorem eqD_bl {i j : Bool} : eqD (.bl i) (.bl j) = (i == j) := by simp only [eqD, D.py, PyData.eqv]
@[simp] theorem eqD_str {i j : Str} : eqD (.str i) (.str j) = (i == j) := by simp only [eqD, D.py, PyData.eqv]
@[simp] theorem eqD_ints {xs ys : List Int} : eqD (.lst (iL xs)) (.lst (iL ys)) = decide (xs = ys) := by simp only [eqD, D.py, PyData.eqv, iL, py_ints, eqv_ints]
@[simp] theorem eqD_intsT {xs ys : List Int} : eqD (.tup (iL xs)) (.tup (iL ys)) = decide (xs = ys) := by simp only [eqD, D.py, PyData.eqv, iL, py_ints, eqv_ints]
@[simp] theorem shD_int {i : Int} : shD (.int i) = true := by simp [shD, SeqAt.shaped, D.py, PyData.canLay0, PyData.depth]
@[simp] theorem shD_bl {i : Bool} : shD (.bl i) = true := by simp [shD, SeqAt.shaped, D.py, PyData.canLay0, PyData.depth]
@[simp] theorem shD_non : shD .non = true := by simp [shD, SeqAt.shaped, D.py, PyData.canLay0, PyData.depth]
@[simp] theorem shD_ints {xs : List Int} : shD (.lst (iL xs)) = true := by
  have := depth_ints xs
  simp only [shD, SeqAt.shaped, D.py, PyData.canLay0, iL, py_ints, lay_ints, PyData.depth, Bool.true_and, decide_eq_true_eq]
  omega
@[simp] theorem shD_intsT {xs : List Int} : shD (.tup (iL xs)) = true := by
  have := depth_ints xs
  simp only [shD, SeqAt.shaped, D.py, PyData.canLay0, iL, py_ints, lay_ints, PyData.depth, Bool.true_and, decide_eq_true_eq]
  omega
theorem cutD_map {xs : List Int} {lo hi : Option Int} : cutD (iL xs) lo hi = iL (((xs.drop (HT.sIx xs.length 0 lo)).take (HT.sIx xs.length xs.length hi - HT.sIx xs.length 0 lo))) := by
  simp [cutD, iL, List.map_drop, List.map_take]
theorem atI_map {τ ρ : Type} {f : τ → ρ} {xs : List τ} {i : Int} : atI (xs.map f) i = (atI xs i).map f := by
  unfold atI
  simp only [List.length_map, List.getElem?_map]
  cases ixN xs.length i <;> rfl
@[simp] theorem atI_ints {xs : List Int} {i : Int} : atI (iL xs) i = (atI xs i).map D.int := atI_map
@[simp] theorem iL_len {xs : List Int} : (iL xs).length = xs.length := List.length_map ..
@[simp] theorem iL_app {xs ys : List Int} : iL xs ++ iL ys = iL (xs ++ ys) := (List.map_append ..).symm
@[simp] theorem iL_app1 {xs : List Int} {i : Int} : iL xs ++ [D.int i] = iL (xs ++ [i]) := iL_app (ys := [i])
@[simp] theorem iL_set {xs : List Int} {i : Int} {j : Nat} : (iL xs).set j (D.int i) = iL (xs.set j i) := (List.map_set ..).symm
@[simp] theorem iL_get {xs : List Int} {j : Nat} : (iL xs)[j]? = xs[j]?.map D.int := List.getElem?_map ..
@[simp] theorem iL_rev {xs : List Int} : (iL xs).reverse = iL xs.reverse := (List.map_reverse ..).symm
@[simp] theorem iL_rep {k : Nat} {x : Int} : (List.replicate k [D.int x]).flatten = iL (List.replicate k x) := by
  induction k with
  | zero => rfl
  | succ k ih => rw [List.replicate_succ, List.flatten_cons, ih]; rfl
theorem atI_nat {τ : Type} {xs : List τ} {i : Int} (h0 : 0 ≤ i) (h1 : i < xs.length) : atI xs i = some (xs[i.toNat]'(by omega)) := by
  unfold atI ixN
  rw [if_pos h0, if_pos h1]
  show xs[i.toNat]? = _
  exact List.getElem?_eq_getElem _
theorem seq_cut {Sa Sb : MS} {hp : List O} {env : List (Option S)} {n : Nat} {nx bk ct : PS → Prop} {rt : S → List O → Prop} {ex : MX} (Mid : List O → List (Option S) → Prop)
    (h1 : ∀ N : PS → Prop, (∀ hp' env', Mid hp' env' → N ⟨hp', env', n⟩) → Sa ⟨hp, env, n⟩ ⟨N, bk, ct, rt, ex⟩) (h2 : ∀ hp' env', Mid hp' env' → Sb ⟨hp', env', n⟩ ⟨nx, bk, ct, rt, ex⟩) : mSeq Sa Sb ⟨hp, env, n⟩ ⟨nx, bk, ct, rt, ex⟩ := h1 _ h2
theorem set_same {τ : Type} {hp : List τ} {n : Nat} {o : τ} (h : hp[n]? = some o) : hp.set n o = hp := by
  apply List.ext_getElem?
  intro i
  by_cases e : n = i
  · subst e
    rw [List.getElem?_set_self (List.getElem?_eq_some_iff.mp h).1, h]
  · rw [List.getElem?_set_ne e]
@[simp] theorem cpow_lit {i j : Int} (h0 : 0 ≤ j) (h1 : j ≤ 1000000) (h2 : -1000 ≤ i) (h3 : i ≤ 1000) : CPow i j = True := eq_true ⟨h0, h1, by omega⟩
@[simp] theorem take_set {τ : Type} {hp : List τ} {n : Nat} {o : τ} : (hp.set n o).take hp.length = hp.set n o := List.take_of_length_le (by simp)
theorem set_at {τ : Type} {hp : List τ} {n : Nat} {o : τ} (h : hp[n]? = some o) (o' : τ) : (hp.set n o')[n]? = some o' := List.getElem?_set_self (List.getElem?_eq_some_iff.mp h).1
theorem cut_nx {Sa : MS} {hp : List O} {env : List (Option S)} {n : Nat} {nx bk ct : PS → Prop} {rt : S → List O → Prop} {ex : MX} (Mid : List O → List (Option S) → Prop)
    (h1 : ∀ N : PS → Prop, (∀ hp' env', Mid hp' env' → N ⟨hp', env', n⟩) → Sa ⟨hp, env, n⟩ ⟨N, bk, ct, rt, ex⟩) (h2 : ∀ hp' env', Mid hp' env' → nx ⟨hp', env', n⟩) : Sa ⟨hp, env, n⟩ ⟨nx, bk, ct, rt, ex⟩ := h1 _ h2
theorem forH_of {v : Option Wk} {ds : List D} {G : MG} {Mb : MS} {hp : List O} {env : List (Option S)} {n : Nat} {nx bk ct : PS → Prop} {rt : S → List O → Prop} {ex : MX} {t : Tg (G, Mb, (⟨nx, bk, ct, rt, ex⟩ : MK))} (Iv : List D → List O → List (Option S) → Prop)
    (h0 : Iv ds hp env) (hs : ∀ d r hp env N, Iv (d :: r) hp env → (∀ hp' env', still v ds hp' → Iv r hp' env' → N ⟨hp', env', n⟩) → G (.d d) ⟨hp, env, n⟩ fun s1 => Mb s1 ⟨N, nx, N, rt, ex⟩) (hn : ∀ hp env, Iv [] hp env → nx ⟨hp, env, n⟩) : forH v ds G Mb hp env n ⟨nx, bk, ct, rt, ex⟩ t := by
  show forL v ds G Mb ds ⟨hp, env, n⟩ ⟨nx, bk, ct, rt, ex⟩
  have gen : ∀ (r : List D) hp env, Iv r hp env → forL v ds G Mb r ⟨hp, env, n⟩ ⟨nx, bk, ct, rt, ex⟩ := by
    intro r
    induction r with
    | nil => exact fun hp env h => hn hp env h
    | cons d r ih =>
      intro hp env h
      exact hs d r hp env (fun s2 => still v ds s2.hp ∧ forL v ds G Mb r s2 ⟨nx, bk, ct, rt, ex⟩) h fun hp' env' st h' => ⟨st, ih hp' env' h'⟩
  exact gen ds hp env h0
theorem whileH_of {Mt : MT} {Mb : MS} {hp : List O} {env : List (Option S)} {n : Nat} {nx bk ct : PS → Prop} {rt : S → List O → Prop} {ex : MX} {t : Tg (Mt, Mb, (⟨nx, bk, ct, rt, ex⟩ : MK))} (Iv : Nat → List O → List (Option S) → Prop) (m : Nat)
    (h0 : Iv m hp env) (hs : ∀ m hp env (N : PS → Prop), Iv m hp env → (∀ m' hp' env', m' < m → Iv m' hp' env' → N ⟨hp', env', n⟩) → Mt ⟨hp, env, n⟩ (fun b hp1 => brH b (Mb ⟨hp1, env, n⟩ ⟨N, nx, N, rt, ex⟩) (nx ⟨hp1, env, n⟩) .mk) ex) : whileH Mt Mb hp env n ⟨nx, bk, ct, rt, ex⟩ t := by
  show ∃ n', whileN Mt Mb n' ⟨hp, env, n⟩ ⟨nx, bk, ct, rt, ex⟩
  have gen : ∀ (f m : Nat) hp env, m < f → Iv m hp env → whileN Mt Mb f ⟨hp, env, n⟩ ⟨nx, bk, ct, rt, ex⟩ := by
    intro f
    induction f with
    | zero => exact fun m hp env h => absurd h (Nat.not_lt_zero _)
    | succ f ih => exact fun m hp env hm h => hs m hp env (fun s' => whileN Mt Mb f s' ⟨nx, bk, ct, rt, ex⟩) h fun m' hp' env' h1 h2 => ih m' hp' env' (by omega) h2
  exact ⟨m + 1, gen (m + 1) m hp env (Nat.lt_succ_self m) h0⟩
theorem compH_of {v : Option Wk} {ds : List D} {G : MG} {Me : ME} {env : List (Option S)} {hp : List O} {R : List D → List O → Prop} {t : Tg (G, mYes, Me, R)} (Iv : List D → List D → List O → Prop) (hb : ds.length ≤ sizeLine) (h0 : Iv [] ds hp)
    (hs : ∀ acc d r hp (N : D → List O → Prop), Iv acc (d :: r) hp → (∀ y hp', still v ds hp' → Iv (acc ++ [y]) r hp' → N y hp') → G (.d d) ⟨hp, env, hp.length⟩ fun s1 => Me s1 (fun y hp3 => onH (isD y) (fun dy => N dy hp3) .mk) noX)
    (hn : ∀ acc hp, Iv acc [] hp → R acc hp) : compH v ds G mYes Me env hp R t := by
  show compL v ds G mYes Me env ds [] hp R
  have gen : ∀ (r acc : List D) hp, acc.length + r.length ≤ sizeLine → Iv acc r hp → compL v ds G mYes Me env r acc hp R := by
    intro r
    induction r with
    | nil => exact fun acc hp _ h => hn acc hp h
    | cons d r ih =>
      intro acc hp hl h
      show G (.d d) ⟨hp, env, hp.length⟩ fun s1 => mYes s1 (fun b hp2 => if b = true then Me { s1 with hp := hp2 } (fun y hp3 => on (isD y) fun dy => acc.length < sizeLine ∧ still v ds hp3 ∧ compL v ds G mYes Me env r (acc ++ [dy]) hp3 R) noX else still v ds hp2 ∧ compL v ds G mYes Me env r acc hp2 R) noX
      have q := hs acc d r hp (fun dy hp3 => acc.length < sizeLine ∧ still v ds hp3 ∧ compL v ds G mYes Me env r (acc ++ [dy]) hp3 R) h fun y hp' st h' => by
        simp only [List.length_cons] at hl
        exact ⟨by omega, st, ih (acc ++ [y]) hp' (by simp; omega) h'⟩
      exact q
  exact gen ds [] hp (by simpa using hb) h0
@[simp] theorem lt_size {n : Nat} : (n < sizeLine) = (n < 16777216) := rfl
@[simp] theorem le_size {n : Nat} : (n ≤ sizeLine) = (n ≤ 16777216) := rfl
theorem isi1 {d : D} {m n : String} {b : Bool} {P : D → Prop} (h1 : tyN d = some n) (h2 : kitB n m = some b) : fIsi [d, .ty m] P = P (.bl b) := by simp [fIsi, two, h1, h2, asTy, asTup, on]
theorem isi2 {d : D} {l : List D} {ms : List String} {n : String} {b : Bool} {P : D → Prop} (h1 : tyN d = some n) (h0 : tyNames l = some ms) (h2 : isAny n ms = some b) : fIsi [d, .tup l] P = P (.bl b) := by simp [fIsi, two, h1, h0, h2, asTy, asTup, on]
section
variable {P : D → Prop} {b : Bool} {i : Int} {z : Str} {x : List D}
@[simp ↓] theorem isi_non_bool : fIsi [.non, .ty "bool"] P = P (.bl false) := isi1 rfl rfl
@[simp ↓] theorem isi_non_int : fIsi [.non, .ty "int"] P = P (.bl false) := isi1 rfl rfl
@[simp ↓] theorem isi_non_str : fIsi [.non, .ty "str"] P = P (.bl false) := isi1 rfl rfl
@[simp ↓] theorem isi_non_tuple : fIsi [.non, .ty "tuple"] P = P (.bl false) := isi1 rfl rfl
@[simp ↓] theorem isi_non_list : fIsi [.non, .ty "list"] P = P (.bl false) := isi1 rfl rfl
@[simp ↓] theorem isi_non_dict : fIsi [.non, .ty "dict"] P = P (.bl false) := isi1 rfl rfl
@[simp ↓] theorem isi_non_list_tuple : fIsi [.non, .tup [.ty "list", .ty "tuple"]] P = P (.bl false) := isi2 rfl rfl rfl
@[simp ↓] theorem isi_non_int_str : fIsi [.non, .tup [.ty "int", .ty "str"]] P = P (.bl false) := isi2 rfl rfl rfl
@[simp ↓] theorem isi_non_str_int : fIsi [.non, .tup [.ty "str", .ty "int"]] P = P (.bl false) := isi2 rfl rfl rfl
@[simp ↓] theorem isi_bl_bool : fIsi [(.bl b), .ty "bool"] P = P (.bl true) := isi1 rfl rfl
@[simp ↓] theorem isi_bl_int : fIsi [(.bl b), .ty "int"] P = P (.bl true) := isi1 rfl rfl
@[simp ↓] theorem isi_bl_str : fIsi [(.bl b), .ty "str"] P = P (.bl false) := isi1 rfl rfl
@[simp ↓] theorem isi_bl_tuple : fIsi [(.bl b), .ty "tuple"] P = P (.bl false) := isi1 rfl rfl
@[simp ↓] theorem isi_bl_list : fIsi [(.bl b), .ty "list"] P = P (.bl false) := isi1 rfl rfl
@[simp ↓] theorem isi_bl_dict : fIsi [(.bl b), .ty "dict"] P = P (.bl false) := isi1 rfl rfl
@[simp ↓] theorem isi_bl_list_tuple : fIsi [(.bl b), .tup [.ty "list", .ty "tuple"]] P = P (.bl false) := isi2 rfl rfl rfl
@[simp ↓] theorem isi_bl_int_str : fIsi [(.bl b), .tup [.ty "int", .ty "str"]] P = P (.bl true) := isi2 rfl rfl rfl
@[simp ↓] theorem isi_bl_str_int : fIsi [(.bl b), .tup [.ty "str", .ty "int"]] P = P (.bl true) := isi2 rfl rfl rfl
@[simp ↓] theorem isi_int_bool : fIsi [(.int i), .ty "bool"] P = P (.bl false) := isi1 rfl rfl
@[simp ↓] theorem isi_int_int : fIsi [(.int i), .ty "int"] P = P (.bl true) := isi1 rfl rfl
@[simp ↓] theorem isi_int_str : fIsi [(.int i), .ty "str"] P = P (.bl false) := isi1 rfl rfl
@[simp ↓] theorem isi_int_tuple : fIsi [(.int i), .ty "tuple"] P = P (.bl false) := isi1 rfl rfl
@[simp ↓] theorem isi_int_list : fIsi [(.int i), .ty "list"] P = P (.bl false) := isi1 rfl rfl
@[simp ↓] theorem isi_int_dict : fIsi [(.int i), .ty "dict"] P = P (.bl false) := isi1 rfl rfl
@[simp ↓] theorem isi_int_list_tuple : fIsi [(.int i), .tup [.ty "list", .ty "tuple"]] P = P (.bl false) := isi2 rfl rfl rfl
@[simp ↓] theorem isi_int_int_str : fIsi [(.int i), .tup [.ty "int", .ty "str"]] P = P (.bl true) := isi2 rfl rfl rfl
@[simp ↓] theorem isi_int_str_int : fIsi [(.int i), .tup [.ty "str", .ty "int"]] P = P (.bl true) := isi2 rfl rfl rfl
@[simp ↓] theorem isi_str_bool : fIsi [(.str z), .ty "bool"] P = P (.bl false) := isi1 rfl rfl
@[simp ↓] theorem isi_str_int : fIsi [(.str z), .ty "int"] P = P (.bl false) := isi1 rfl rfl
@[simp ↓] theorem isi_str_str : fIsi [(.str z), .ty "str"] P = P (.bl true) := isi1 rfl rfl
@[simp ↓] theorem isi_str_tuple : fIsi [(.str z), .ty "tuple"] P = P (.bl false) := isi1 rfl rfl
@[simp ↓] theorem isi_str_list : fIsi [(.str z), .ty "list"] P = P (.bl false) := isi1 rfl rfl
@[simp ↓] theorem isi_str_dict : fIsi [(.str z), .ty "dict"] P = P (.bl false) := isi1 rfl rfl
@[simp ↓] theorem isi_str_list_tuple : fIsi [(.str z), .tup [.ty "list", .ty "tuple"]] P = P (.bl false) := isi2 rfl rfl rfl
@[simp ↓] theorem isi_str_int_str : fIsi [(.str z), .tup [.ty "int", .ty "str"]] P = P (.bl true) := isi2 rfl rfl rfl
@[simp ↓] theorem isi_str_str_int : fIsi [(.str z), .tup [.ty "str", .ty "int"]] P = P (.bl true) := isi2 rfl rfl rfl
@[simp ↓] theorem isi_tup_bool : fIsi [(.tup x), .ty "bool"] P = P (.bl false) := isi1 rfl rfl
@[simp ↓] theorem isi_tup_int : fIsi [(.tup x), .ty "int"] P = P (.bl false) := isi1 rfl rfl
@[simp ↓] theorem isi_tup_str : fIsi [(.tup x), .ty "str"] P = P (.bl false) := isi1 rfl rfl
@[simp ↓] theorem isi_tup_tuple : fIsi [(.tup x), .ty "tuple"] P = P (.bl true) := isi1 rfl rfl
@[simp ↓] theorem isi_tup_list : fIsi [(.tup x), .ty "list"] P = P (.bl false) := isi1 rfl rfl
@[simp ↓] theorem isi_tup_dict : fIsi [(.tup x), .ty "dict"] P = P (.bl false) := isi1 rfl rfl
@[simp ↓] theorem isi_tup_list_tuple : fIsi [(.tup x), .tup [.ty "list", .ty "tuple"]] P = P (.bl true) := isi2 rfl rfl rfl
@[simp ↓] theorem isi_tup_int_str : fIsi [(.tup x), .tup [.ty "int", .ty "str"]] P = P (.bl false) := isi2 rfl rfl rfl
@[simp ↓] theorem isi_tup_str_int : fIsi [(.tup x), .tup [.ty "str", .ty "int"]] P = P (.bl false) := isi2 rfl rfl rfl
@[simp ↓] theorem isi_lst_bool : fIsi [(.lst x), .ty "bool"] P = P (.bl false) := isi1 rfl rfl
@[simp ↓] theorem isi_lst_int : fIsi [(.lst x), .ty "int"] P = P (.bl false) := isi1 rfl rfl
@[simp ↓] theorem isi_lst_str : fIsi [(.lst x), .ty "str"] P = P (.bl false) := isi1 rfl rfl
@[simp ↓] theorem isi_lst_tuple : fIsi [(.lst x), .ty "tuple"] P = P (.bl false) := isi1 rfl rfl
@[simp ↓] theorem isi_lst_list : fIsi [(.lst x), .ty "list"] P = P (.bl true) := isi1 rfl rfl
@[simp ↓] theorem isi_lst_dict : fIsi [(.lst x), .ty "dict"] P = P (.bl false) := isi1 rfl rfl
@[simp ↓] theorem isi_lst_list_tuple : fIsi [(.lst x), .tup [.ty "list", .ty "tuple"]] P = P (.bl true) := isi2 rfl rfl rfl
@[simp ↓] theorem isi_lst_int_str : fIsi [(.lst x), .tup [.ty "int", .ty "str"]] P = P (.bl false) := isi2 rfl rfl rfl
@[simp ↓] theorem isi_lst_str_int : fIsi [(.lst x), .tup [.ty "str", .ty "int"]] P = P (.bl false) := isi2 rfl rfl rfl
@[simp ↓] theorem isi_fl_bool : fIsi [(.fl x), .ty "bool"] P = P (.bl false) := isi1 rfl rfl
@[simp ↓] theorem isi_fl_int : fIsi [(.fl x), .ty "int"] P = P (.bl false) := isi1 rfl rfl
@[simp ↓] theorem isi_fl_str : fIsi [(.fl x), .ty "str"] P = P (.bl false) := isi1 rfl rfl
@[simp ↓] theorem isi_fl_tuple : fIsi [(.fl x), .ty "tuple"] P = P (.bl false) := isi1 rfl rfl
@[simp ↓] theorem isi_fl_list : fIsi [(.fl x), .ty "list"] P = P (.bl true) := isi1 rfl rfl
@[simp ↓] theorem isi_fl_dict : fIsi [(.fl x), .ty "dict"] P = P (.bl false) := isi1 rfl rfl
@[simp ↓] theorem isi_fl_list_tuple : fIsi [(.fl x), .tup [.ty "list", .ty "tuple"]] P = P (.bl true) := isi2 rfl rfl rfl
@[simp ↓] theorem isi_fl_int_str : fIsi [(.fl x), .tup [.ty "int", .ty "str"]] P = P (.bl false) := isi2 rfl rfl rfl
@[simp ↓] theorem isi_fl_str_int : fIsi [(.fl x), .tup [.ty "str", .ty "int"]] P = P (.bl false) := isi2 rfl rfl rfl
end
end Mp
set_option Elab.async false
set_option linter.all false
set_option maxRecDepth 100000
set_option maxHeartbeats 400000
namespace Mp
open PySem PySem.Spec PyProof.Rows L2
section
variable {v : Option Wk} {all ds acc : List D} {d : D} {G : MG} {Mt : MT} {Me : ME} {env : List (Option S)} {hp : List O} {n : Nat} {R : List D → List O → Prop}
@[simp ↓] theorem x_compC : compL v all G Mt Me env (d :: ds) acc hp R = G (.d d) ⟨hp, env, hp.length⟩ fun s1 => Mt s1 (fun b hp2 => brH b (Me ⟨hp2, s1.env, s1.n0⟩ (fun y hp3 => onH (isD y) (fun dy => acc.length < sizeLine ∧ still v all hp3 ∧ compL v all G Mt Me env ds (acc ++ [dy]) hp3 R) .mk) noX)
      (still v all hp2 ∧ compL v all G Mt Me env ds acc hp2 R) .mk) noX := nr rfl
@[simp ↓] theorem x_compN : compL v all G Mt Me env [] acc hp R = R acc hp := nr rfl
end
section
variable {v : Option Wk} {all ds : List D} {d : D} {G : MG} {Mb : MS} {hp : List O} {env : List (Option S)} {n : Nat} {k : MK}
variable {nx bk ct : PS → Prop} {rt : S → List O → Prop} {ex : MX}
@[simp ↓] theorem x_forC : forL v all G Mb (d :: ds) ⟨hp, env, n⟩ ⟨nx, bk, ct, rt, ex⟩ = G (.d d) ⟨hp, env, n⟩ fun s1 => Mb s1 ⟨fun s2 => still v all s2.hp ∧ forL v all G Mb ds s2 ⟨nx, bk, ct, rt, ex⟩, nx, fun s2 => still v all s2.hp ∧ forL v all G Mb ds s2 ⟨nx, bk, ct, rt, ex⟩, rt, ex⟩ := nr rfl
@[simp ↓] theorem x_forN : forL v all G Mb [] ⟨hp, env, n⟩ ⟨nx, bk, ct, rt, ex⟩ = nx ⟨hp, env, n⟩ := nr rfl
end
theorem forH_rng {lo c : Int} {m : Nat} {G : MG} {Mb : MS} {hp : List O} {env : List (Option S)} {n : Nat} {nx bk ct : PS → Prop} {rt : S → List O → Prop} {ex : MX} {t : Tg (G, Mb, (⟨nx, bk, ct, rt, ex⟩ : MK))} (Iv : Nat → List O → List (Option S) → Prop)
    (h0 : Iv 0 hp env) (hs : ∀ (i : Nat) hp env (N : PS → Prop), i < m → Iv i hp env → (∀ hp' env', Iv (i + 1) hp' env' → N ⟨hp', env', n⟩) → G (.d (.int (lo + (i : Int) * c))) ⟨hp, env, n⟩ fun s1 => Mb s1 ⟨N, nx, N, rt, ex⟩) (hn : ∀ hp env, Iv m hp env → nx ⟨hp, env, n⟩) :
    forH none (rng lo c m) G Mb hp env n ⟨nx, bk, ct, rt, ex⟩ t := by
  refine forH_of (fun ds hp env => ∃ i, i ≤ m ∧ ds = (rng lo c m).drop i ∧ Iv i hp env) ⟨0, Nat.zero_le _, by simp, h0⟩ ?_ ?_
  · rintro d r hp env N ⟨i, hi, e, h⟩ hN
    have hlt : i < m := by
      by_cases z : i < m
      · exact z
      · rw [List.drop_eq_nil_of_le (by rw [rng_len]; omega)] at e
        cases e
    have e2 : (rng lo c m)[i]'(by rw [rng_len]; exact hlt) = D.int (lo + (i : Int) * c) := by simp [rng]
    rw [List.drop_eq_getElem_cons (by rw [rng_len]; exact hlt), e2] at e
    cases e
    exact hs i hp env N hlt h fun hp' env' h' => hN hp' env' trivial ⟨i + 1, by omega, rfl, h'⟩
  · rintro hp env ⟨i, hi, e, h⟩
    have hl := congrArg List.length e
    rw [List.length_drop, rng_len] at hl
    have hie : i = m := by simp at hl; omega
    subst hie
    exact hn hp env h
@[simp] theorem wipeE_nil {env : List (Option S)} : wipeE env [] = env := rfl
@[simp] theorem wipeE_cons {env : List (Option S)} {v : Nat} {vs : List Nat} : wipeE env (v :: vs) = (wipeE env vs).set v none := rfl
@[simp] theorem sIx_none {n d : Nat} : HT.sIx n d none = d := rfl
theorem sIx_at {n d : Nat} {i : Int} (h : 0 ≤ i) : HT.sIx n d (some i) = min i.toNat n := by
  show (if i < 0 then _ else _) = _
  rw [if_neg (by omega)]
@[simp ↓] theorem app_at1 {τ : Type} {hp : List τ} {x : τ} : (hp ++ [x])[hp.length]? = some x := by simp
@[simp ↓] theorem app_at2 {τ : Type} {hp : List τ} {n : Nat} {o x : τ} : (hp.set n o ++ [x])[hp.length]? = some x := by rw [List.getElem?_append_right (by simp)]; simp
@[simp ↓] theorem app_set1 {τ : Type} {hp : List τ} {x y : τ} : (hp ++ [x]).set hp.length y = hp ++ [y] := by rw [List.set_append_right _ _ (by simp)]; simp
@[simp ↓] theorem app_set2 {τ : Type} {hp : List τ} {n : Nat} {o x y : τ} : (hp.set n o ++ [x]).set hp.length y = hp.set n o ++ [y] := by rw [List.set_append_right _ _ (by simp)]; simp
theorem app_set4 {τ : Type} {hp l : List τ} {n : Nat} {o u : τ} (h : n < hp.length) : (hp.set n u ++ l).set n o = hp.set n o ++ l := by rw [List.set_append_left _ _ (by simpa using h), List.set_set]
theorem app_at3 {τ : Type} {hp l : List τ} {n : Nat} {o : τ} (h : n < hp.length) : (hp.set n o ++ l)[n]? = some o := by rw [List.getElem?_append_left (by simpa using h), List.getElem?_set_self h]
def Bd (lo hi : Int) (xs : List Int) : Prop := ∀ x ∈ xs, lo ≤ x ∧ x ≤ hi
theorem Bd.nil {lo hi : Int} : Bd lo hi [] := fun _ h => by simp at h
theorem Bd.app {lo hi x : Int} {xs : List Int} (h : Bd lo hi xs) (h1 : lo ≤ x) (h2 : x ≤ hi) : Bd lo hi (xs ++ [x]) := fun y hy => by
  rcases List.mem_append.mp hy with hy | hy
  · exact h y hy
  · simp at hy; subst hy; exact ⟨h1, h2⟩
theorem Bd.set {lo hi x : Int} {xs : List Int} {j : Nat} (h : Bd lo hi xs) (h1 : lo ≤ x) (h2 : x ≤ hi) : Bd lo hi (xs.set j x) := fun y hy => by
  rcases List.mem_or_eq_of_mem_set hy with hy | hy
  · exact h y hy
  · subst hy; exact ⟨h1, h2⟩
theorem Bd.ix {lo hi i : Int} {xs : List Int} (h : Bd lo hi xs) (h0 : 0 ≤ i) (h1 : i < xs.length) : ∃ y, atI xs i = some y ∧ lo ≤ y ∧ y ≤ hi := ⟨_, atI_nat h0 h1, h _ (List.getElem_mem _)⟩
theorem ixN_nat {n : Nat} {i : Int} (h0 : 0 ≤ i) (h1 : i < n) : ixN n i = some i.toNat := by
  unfold ixN
  rw [if_pos h0, if_pos h1]
theorem ixN_last {n : Nat} (h : 0 < n) : ixN n (-1) = some (n - 1) := by
  unfold ixN
  rw [if_neg (by omega), if_pos (by omega)]
  congr 1
  omega
@[simp ↓] theorem app_at0 {τ : Type} {hp l : List τ} : (hp ++ l)[hp.length]? = l[0]? := by rw [List.getElem?_append_right (by simp)]; simp
@[simp ↓] theorem app_atk {τ : Type} {hp l : List τ} {k : Nat} : (hp ++ l)[hp.length + k]? = l[k]? := by rw [List.getElem?_append_right (by simp)]; simp
@[simp ↓] theorem app_set0 {τ : Type} {hp l : List τ} {y : τ} : (hp ++ l).set hp.length y = hp ++ l.set 0 y := by rw [List.set_append_right _ _ (by simp)]; simp
@[simp ↓] theorem app_setk {τ : Type} {hp l : List τ} {k : Nat} {y : τ} : (hp ++ l).set (hp.length + k) y = hp ++ l.set k y := by rw [List.set_append_right _ _ (by simp)]; simp
@[simp] theorem take_app {τ : Type} {hp l : List τ} : (hp ++ l).take hp.length = hp := List.take_left' rfl
@[simp] theorem take_app2 {τ : Type} {hp l : List τ} {n : Nat} {o : τ} : (hp.set n o ++ l).take hp.length = hp.set n o := List.take_left' (by simp)
theorem at_app {τ : Type} {hp : List τ} {a : Nat} {o : τ} (h : hp[a]? = some o) (l : List τ) : (hp ++ l)[a]? = some o := by rw [List.getElem?_append_left (List.getElem?_eq_some_iff.mp h).1, h]
@[simp] theorem iL_rep2 {k : Nat} {x : Int} : List.replicate k (D.int x) = iL (List.replicate k x) := (List.map_replicate ..).symm
end Mp
set_option Elab.async false
set_option linter.all false
set_option maxRecDepth 100000
set_option maxHeartbeats 4000000
namespace Mp
open PySem PySem.Spec PyProof.Rows L2
def lstD : D → Option (List D)
  | .lst ds => some ds
  | _ => none
section
variable {X : Cx} {W : WX} {a b c e : Expr} {es : List Expr} {pos : Pos} {ta tb tc te : TE} {Ma Mb Mc Me : ME} {tA : TA} {MA' : MA}
theorem pe_callSD0 {CX : CXT} {k : Nat} {f : Addr} {fd : FuncData} {ps : List Str} {sp : Sp} {dvs : List V} {ds : List Value} {E : L2.St → XK} {x : Str} {p : Pos} (F : FnOk X.prog X.w X.K X.mg X.base CX k f fd ps sp) (hr : Room k X.A) (hg : Gl X x) (hm : X.mg x = some (.ref f)) (hk : PySem.W.keepIn X.K (.ref f) = true) (hb : Binds X.K fd ps ds) (hd : Vals dvs ds) (hx : ∀ σ, PassesAt CX X σ (E σ))
    (hdb : (x == ("__debug__" : Str)) = false := by decide) : PE X (.Call (.Name x p) [] [] pos) (tCallSD sp dvs E tNil) := by
  refine ⟨fun pins s σ H Q I h => ?_⟩
  refine wpAny_Call_Name_kw (ld_glob I hg hm ?_ hdb)
  exact PySem.W.callWith_K0 I.kIn hk (run_fnSD (us := []) F hr hb hd (hx σ) I .nil h)
theorem de_call0 (K : Frag) {x : Str} {k n : Nat} {f : Addr} {fd : FuncData} {ps : List Str} {fr : Bool} {M : MF} {ds : List Value} {dvs : List V} {dd : List D} {p : Pos} (F : FnOk X.prog X.w K X.mg X.base (L2.CX X.prog X.w) k f fd ps (spM K n fr M)) (tk : Takes X W) (hr : Room k X.A) (hg : Gl X x) (hm : X.mg x = some (.ref f))
    (hk : PySem.W.keepIn K (.ref f) = true) (hb : Binds K fd ps ds) (hd : Vals dvs ds) (hdd : ∀ A H, RepL K A H dd dvs) (hdb : (x == ("__debug__" : Str)) = false := by decide) (hK : X.K = K := by rfl) :
    DE X W (.Call (.Name x p) [] [] pos) (tCallSD (spM K n fr M) dvs (WE W) tNil) (mCall n M dd mNil) := by subst hK; exact ⟨pe_callSD0 F hr hg hm hk hb hd (fun σ => passAt tk σ) hdb, sim_call hdd sim_nil⟩
end
section
variable {hp : List O} {env : List (Option S)} {n : Nat} {Ma : ME} {nx bk ct : PS → Prop} {rt : S → List O → Prop} {ex : MX}
end
section
variable {X : Cx} {W : WX} {a b c e : Expr} {pos : Pos} {ta tb : TE} {Ma Mb : ME}
end
section
variable {hp : List O} {env : List (Option S)} {n : Nat} {R : S → List O → Prop} {Xp : MX} {Ma Mb : ME} {P : D → Prop}
@[simp] theorem lstD_lst {ds : List D} : lstD (.lst ds) = some ds := rfl
end
end Mp
set_option Elab.async false
set_option linter.all false
set_option maxRecDepth 100000
set_option maxHeartbeats 4000000
namespace Mp
open PySem PySem.Spec PyProof.Rows L2
structure XcOk (P : Program) (K : Frag) (C f cc cda : Addr) (qual : Str) (params : Arguments) (body : List Stmt) (scope : Scope) (fd : FuncData) (ns : List Str) : Prop where
  ox : OexC K C
  fn : ∃ oc od kV doc pm an ct osl, fd = PySem.W.ksFn "__init__" qual params body scope .none kV doc pm an (.ref cda) ct cc ∧ K.lookup f = some ⟨oc, od, .func fd, osl⟩
  cd : PySem.W.codeIn K (.ref cda) qual = true
  code : ∃ ccl cdd vs ccs file tf, K.lookup cda = some ⟨ccl, cdd, .fields vs, ccs⟩ ∧ vs[2]? = some (.str file tf) ∧ ((P.main.file : Str) == file) = true
  cell : ∃ cl cld csl, K.lookup cc = some ⟨cl, cld, .cell (some (.ref C)), csl⟩
  pl : ∀ x ∈ ns, PySem.W.findIn K (.ref C) x = some none
  op : PySem.W.nsIn K cStatics "thirdparty.any" = some none
  su : PySem.W.ks_superIn K C C "__init__" = some (some (.builtin "ValueError.__init__"))
  ve : PySem.W.subIn K (.ref C) (.type "ValueError") = some true
  sup : PySem.W.mroIn K C (.ref C) = some true
structure XcSc (P : Program) (params : Arguments) (scope : Scope) (ns : List Str) : Prop where
  kind : scope.kind = .function
  co : scope.isCoroutine = false
  gen : scope.isGenerator = false
  nocell : ∀ y ∈ scope.names, y.2 ≠ .cell
  free : ∀ y ∈ scope.names, y.2 = .free → y.1 = ("__class__" : Str)
  self : scope.names.lookup ("self" : Str) = some .local
  fld : ∀ x ∈ ns, scope.names.lookup x = some .local
  nd : (("self" : Str) :: ns).Nodup
  sup : scope.names.lookup ("super" : Str) = some .globalImplicit
  cls : scope.names.lookup ("__class__" : Str) = some .free
  hd : ∃ ar, (params.posonlyargs ++ params.args).head? = some ar ∧ ar.arg = ("self" : Str)
  top : (P.main.scope.names.lookup ("super" : Str)).isSome = false
def spXN (C : Addr) (ns : List Str) (Wp : List V → Hp → Prop) : Sp := fun vs H Q _ => ∃ (a : Addr) (ws : List V), vs = .ref a :: ws ∧ ws.length = ns.length ∧ Wp ws H ∧ H a = some (exo a C none) ∧
  ∀ dx, H dx = none → dx ≠ a → Q .non (upd (upd H dx (exd dx (ns.zip ws).reverse)) a (exo a C (some dx)))
def cxX (P : Program) (w : World) (K : Frag) (mg : Str → Option Value) (base : Heap) (ns : List Str) (env : Env) (A : Around) (outer : List Env) (s : Shared) (H : Hp) (E : XK) : Cx where
  prog := P
  w := w
  K := K
  mg := mg
  base := base
  A := A.deeper env
  N := "self" :: ns
  s_0 := s
  H_0 := H
  env := env
  outer := outer
  stack := env :: outer
  ex := []
  calm := true
  fn := fun _ => false
  pn := []
  xe := fun e s' => wpAny (model P w) (A.deeper env) (leaving env e) (fun _ s'' => L2.CX P w outer H s E e s'') (fun e' s'' => L2.CX P w outer H s E e' s'') s'
theorem look_one {x y : Str} {c d : Addr} (h : ([(x, d)] : List (Str × Addr)).lookup y = some c) : y = x ∧ c = d := by
  have e : (if y = x then some d else none) = some c := by
    by_cases z : y = x
    · subst z
      simpa using h
    · have : (y == x) = false := by simpa using z
      simp [List.lookup, this] at h
  by_cases z : y = x
  · rw [if_pos z] at e
    exact ⟨z, (Option.some.inj e).symm⟩
  · rw [if_neg z] at e
    cases e
theorem look_nd {x : Str} {u : Value} : ∀ {l : List (Str × Value)}, (l.map (·.1)).Nodup → (x, u) ∈ l → l.lookup x = some u
  | [], _, h => by cases h
  | (y, v) :: r, nd, h => by
    obtain ⟨h1, h2⟩ := List.nodup_cons.mp nd
    rcases List.mem_cons.mp h with e | e
    · cases e
      simp [List.lookup]
    · have ne : x ≠ y := fun z => h1 (List.mem_map.mpr ⟨(x, u), e, z⟩)
      have q : (x == y) = false := by simpa using ne
      simp only [List.lookup, q]
      exact look_nd h2 e
theorem look_zip {xs : List Str} {us : List Value} {i : Nat} {x : Str} {u : Value} (nd : xs.Nodup) (hl : us.length = xs.length) (h : xs[i]? = some x) (hu : us[i]? = some u) : (xs.zip us).reverse.lookup x = some u := by
  refine look_nd ?_ ?_
  · rw [List.map_reverse]
    have e : (xs.zip us).map (·.1) = xs := List.map_fst_zip (by omega)
    rw [e]
    exact List.pairwise_reverse.mpr (nd.imp fun h => Ne.symm h)
  · rw [List.mem_reverse]
    have hi := (List.getElem?_eq_some_iff.mp h).1
    have e : (xs.zip us)[i]? = some (x, u) := by rw [List.getElem?_zip_eq_some]; exact ⟨h, hu⟩
    exact List.mem_of_getElem? e
theorem inv_x {P : Program} {w : World} {K : Frag} {mg : Str → Option Value} {base : Heap} {qual : Str} {params : Arguments} {scope : Scope} {f cc cda : Addr} {A : Around} {outer : List Env} {s : Shared} {H : Hp} {E : XK} {h1 : Heap} {tk : Nat} {a : Addr} {ns : List Str} {ws : List V} {us : List Value} {oc : Obj} {v0 : Option Value}
    (S : XcSc P params scope ns) (hd : A.handled = none) (e0 : Env0 P w K mg base A outer s H) (hcc : base.get? cc = some oc) (hcd : oc.data = .cell v0) (hl : ws.length = ns.length) (r : Vals ws us)
    (hns : h1.Ns s.heap.objs.size (fun x => (((("self" : Str) :: ns).zip (Value.ref a :: us)).reverse).lookup x)) (hk : ∀ b o, s.heap.get? b = some o → h1.get? b = some o) :
    Inv (cxX P w K mg base ns (PySem.W.ksEnv qual scope s.heap.objs.size f (.ref cda) cc) A outer s H E) [] (some (.ref a) :: ws.map some) H { s with heap := h1, toks := tk } := by
  have noA : ∀ b : Addr, b ∉ (cxX P w K mg base ns (PySem.W.ksEnv qual scope s.heap.objs.size f (.ref cda) cc) A outer s H E).ex := fun b z => absurd (show b ∈ ([] : List Addr) from z) (by simp)
  have hcc' := e0.bs cc oc hcc
  have lu : us.length = ns.length := by rw [← r.length]; exact hl
  refine ⟨⟨e0.mod, S.kind, rfl, rfl, Nat.le_refl _, fun y z c h1 h2 => ?_, fun y hy => ?_, fun y c hf _ => (Bool.noConfusion (show false = true from hf)), fun _ => hd, Around.frames_deeper e0.frames, .inr ⟨rfl, rfl⟩, fun b z => absurd z (noA b), e0.bs, e0.bsz, fun b _ _ => noA b, fun b z => absurd z (noA b), e0.funs, e0.frf⟩,
    rfl, e0.bare, Un.kept hk, ⟨_, hns, fun i y v h1 h2 h3 => ?_⟩, fun y c h => ?_, e0.hok.fresh (Nat.le_refl _), fun y c h => ?_, fun p hp => absurd (show p ∈ ([] : List (Addr × Obj)) from hp) (by simp), e0.hok.kept hk, by simp [cxX, hl]⟩
  · rw [(look_one h1).1, (look_one h2).1]
  · have hy : scope.names.lookup y = some .cell ∨ scope.names.lookup y = some .free := hy
    rcases hy with hy | hy
    · exact absurd rfl (S.nocell _ (PySem.mem_of_lookup hy))
    · have e : y = ("__class__" : Str) := S.free _ (PySem.mem_of_lookup hy) rfl
      subst e
      exact ⟨cc, rfl⟩
  · have h1 : (("self" : Str) :: ns)[i]? = some y := h1
    have rel : Vals (V.ref a :: ws) (Value.ref a :: us) := .cons rfl r
    have h2' : (V.ref a :: ws)[i]? = some v := by
      cases i with
      | zero => simpa using h2
      | succ j => simpa using h2
    obtain ⟨u, hu, ru⟩ := paired_get rel h2'
    refine ⟨u, ru, .inl ⟨?_, look_zip S.nd (by simp [lu]) h1 hu⟩⟩
    cases i with
    | zero => cases h1; exact S.self
    | succ j => exact S.fld _ (List.mem_of_getElem? (by simpa using h1))
  · obtain ⟨_, rfl⟩ := look_one h
    exact ⟨v0, oc, hk _ _ hcc'.1, hcd⟩
  · obtain ⟨_, rfl⟩ := look_one h
    exact hcc'.2
def xCall (J : Expr) (p0 p1 p2 p7 : Pos) : Expr := .Call (.Attribute (.Call (.Name "super" p0) [] [] p1) "__init__" p2) [J] [] p7
def xBody (J : Expr) (rest : List Stmt) (p0 p1 p2 p7 p8 : Pos) : List Stmt := .Expr (xCall J p0 p1 p2 p7) p8 :: rest
theorem fn_xinitN {P : Program} {w : World} {K : Frag} {mg : Str → Option Value} {base : Heap} {qual : Str} {params : Arguments} {body : List Stmt} {scope : Scope} {C f cc cda : Addr} {fd : FuncData} {J : Expr} {rest : List Stmt} {p0 p1 p2 p7 p8 : Pos} {pl : Sem Bool} {ns : List Str} {Wp : List V → Hp → Prop} {tJ : TA} {tR : TS}
    (Z : XcOk P K C f cc cda qual params body scope fd ns) (S : XcSc P params scope ns) (hb : body = xBody J rest p0 p1 p2 p7 p8) (hmg : mg "super" = none)
    (hsw1 : ∀ env : Env, swapsWith (xCall J p0 p1 p2 p7) none p8.line env = pure false)
    (hj : ∀ env : Env, eval (xCall J p0 p1 p2 p7) env = (do
      let ov ← attributeBase (.Call (.Name "super" p0) [] [] p1) "__init__" env (eval (.Call (.Name "super" p0) [] [] p1) env)
      standAt p2.atName
      let (f, first) ← holding [ov] (getMethod ov "__init__" pl)
      callWith p7 f first (backTo p7 (starEach [J] env)) []))
    (hst : ∀ env : Env, starEach [J] env = (false, eval J env) :: starEach [] env)
    (hJ : ∀ (A : Around) (outer : List Env) (s : Shared) (H : Hp) (E : XK), Room 0 (A.deeper (PySem.W.ksEnv qual scope s.heap.objs.size f (.ref cda) cc)) → PA (cxX P w K mg base ns (PySem.W.ksEnv qual scope s.heap.objs.size f (.ref cda) cc) A outer s H E) [J] tJ)
    (hJq : ∀ (a : Addr) (ws : List V) (H : Hp), ws.length = ns.length → Wp ws H → tJ (some (.ref a) :: ws.map some) H fun vs H1 => H1 = H ∧ vs.length = 1)
    (hR : ∀ (A : Around) (outer : List Env) (s : Shared) (H : Hp) (E : XK), PSs (cxX P w K mg base ns (PySem.W.ksEnv qual scope s.heap.objs.size f (.ref cda) cc) A outer s H E) rest tR)
    (hRq : ∀ (a : Addr) (ws : List V) (H : Hp) (Q : VK), ws.length = ns.length → H a = some (exo a C none) → (∀ dx, H dx = none → dx ≠ a → Q .non (upd (upd H dx (exd dx (ns.zip ws).reverse)) a (exo a C (some dx)))) →
      tR { nx := fun _ H' => Q .non H', rt := Q, bk := fun _ _ => False, ct := fun _ _ => False } (some (.ref a) :: ws.map some) H) :
    FnOk P w K mg base (L2.CX P w) 1 f fd (("self" : Str) :: ns) (spXN C ns Wp) := by
  obtain ⟨oc, od, kV, doc, pm, an, ct, osl, rfl, lk⟩ := Z.fn
  obtain ⟨ccl, cdd, cvs, ccs, file, tf, hcode, hvs, hfile⟩ := Z.code
  obtain ⟨ecl, ecd, ecs, hcell⟩ := Z.cell
  obtain ⟨ar, har, harn⟩ := S.hd
  obtain ⟨nm, qn, N, bs, bm, sn, sub, ab, col, dd, k0, k1, k2, k3, k5, hC, hbm⟩ := Z.ox.cls
  have hcl : PySem.W.clsIn K C = some { name := nm, bases := bs, mro := .ref C :: bm, ns := N, qualname := qn, hasDict := true, slotNames := sn, subclasses := sub, abstract := ab, collection := col, hasDel := false } := by unfold PySem.W.clsIn; rw [hC] <;> rfl
  subst hb
  refine ⟨fun vs H Q E h => by obtain ⟨a, ws, rfl, hl, _⟩ := h; simp [hl], fun A outer s H args us vs Q E hr e0 hbd r hsp => ?_⟩
  obtain ⟨a, ws, rfl, hl, hwp, ha, hq⟩ := hsp
  cases r with
  | @cons _ u0 _ ur ra r =>
  obtain rfl : u0 = Value.ref a := ra
  have KX : K.In s.heap := e0.mod.kin.keeps fun b o e => (e0.bs b o e).1
  have lim : s.heap.NoLimit := e0.mod.nolimit.keeps fun b o e => (e0.bs b o e).1
  refine ks_codeAny_call_defAt hr.depth (KX _ _ lk) rfl lim (PySem.W.codeRec_of KX Z.cd) rfl hbd S.nocell (fun y hy => ?_) (fun h1 hns hk => ?_) S.co S.gen S.kind
  · have hm := (List.of_mem_zip (a := y.1) (b := y.2) hy).1
    rcases List.mem_cons.mp hm with e | e
    · rw [e]; exact S.self
    · exact S.fld _ e
  have kk : ∀ b o, s.heap.get? b = some o → h1.get? b = some o := hk
  have I : Inv (cxX P w K mg base ns (PySem.W.ksEnv qual scope s.heap.objs.size f (.ref cda) cc) A outer s H E) [] (some (.ref a) :: ws.map some) H { s with heap := h1, toks := s.toks + ((("self" : Str) :: ns).zip (Value.ref a :: ur)).length } := inv_x S hr.hd e0 (e0.mod.kin _ _ hcell) rfl hl r hns kk
  have K1 : K.In h1 := KX.keeps kk
  show PySem.wpAt (model P w) (A.deeper (PySem.W.ksEnv qual scope s.heap.objs.size f (.ref cda) cc)) (.func _ (PySem.W.ksEnv qual scope s.heap.objs.size f (.ref cda) cc)) (execs (xBody J rest p0 p1 p2 p7 p8) (PySem.W.ksEnv qual scope s.heap.objs.size f (.ref cda) cc)) _ _ _
  have hint : interactive (PySem.W.ksEnv qual scope s.heap.objs.size f (.ref cda) cc) = false := by
    have hkd := S.kind
    unfold interactive
    simp [hkd]
  refine ks_wpAt_execs_cons (ks_wpAt_Expr_any (ks_wpAt_MethodCall (pl := pl) ?_ (hj _)) hint (hsw1 _))
  refine ks_wpAt_super_base S.sup S.cls (by decide) rfl (K1 _ _ lk) rfl har rfl (K1 _ _ hcode) rfl hvs hfile S.top ?_
  obtain ⟨mb, hb1, hb2⟩ := I.mod.blt
  refine PySem.W.ks_loadName_global S.kind S.sup (Calls.loadGlobal_builtin (I.mod.glob.keeps I.bk) hmg (hb1.keeps I.bk) ((hb2 "super" (by decide)).trans (by first | rfl | kernel_rfl)) ⟨rfl, ?_⟩)
  refine wpAny_loadName_free S.kind S.cls rfl ⟨_, K1 _ _ hcell, rfl⟩ ?_
  rw [harn]
  refine wpAny_loadName_local (v := .ref a) S.kind S.self hns (look_zip (i := 0) S.nd (by simp [← r.length, hl]) rfl rfl) ?_
  refine ks_wpAny_isType_cls (K1 _ _ hC) rfl ⟨rfl, ?_⟩
  obtain ⟨t1, hoa⟩ := exo_at I.hok ha
  refine ks_wpAny_call_super (K1 _ _ hC) rfl hoa rfl (fun c e => by cases e) (PySem.W.looks_mroIn K1 Z.sup) (fun h2 hso k2 => ?_)
  have I2 := I.kept (t' := s.toks + ((("self" : Str) :: ns).zip (Value.ref a :: ur)).length) k2
  have K2 : K.In h2 := K1.keeps k2
  obtain ⟨t2, hoa2⟩ := exo_at I2.hok ha
  have hne : a ≠ C := fun z => by
    have z1 := K2 _ _ hC
    rw [← z, hoa2] at z1
    cases z1
  have hsu : PySem.W.alongIn K "__init__" (((Value.ref C :: bm).dropWhile (· != .ref C)).drop 1) = some (some (.builtin "ValueError.__init__")) := by
    have z := Z.su
    unfold PySem.W.ks_superIn at z
    rw [hcl] at z
    exact z
  have hinst : PySem.W.Looks (model P w) h2 (isInstance (.ref a) (.type "ValueError")) true := PySem.W.Looks.andThen (fun A Q E s k q => wpAny_typeOf_ref (k _ _ hoa2) q) (PySem.W.looks_subIn K2 Z.ve)
  refine PySem.W.kxs_getMethod PySem.W.kxs_ValueError hso (PySem.W.looks_opaque K2 Z.op) (l₀ := Value.ref C :: bm) ?_ rfl K2 hsu hinst hne (by decide) ?_
  · exact fun A Q E s k q => wpAny_bind ((PySem.W.looks_clsIn K2 hcl) A _ E s k (wpAny_pure q))
  have hu : (h2.push (PySem.W.kxs_mw "ValueError.__init__" a)).get? h2.objs.size = some (PySem.W.kxs_mw "ValueError.__init__" a) := Heap.get?_push_at rfl rfl
  have k3 : ∀ b o, h2.get? b = some o → (h2.push (PySem.W.kxs_mw "ValueError.__init__" a)).get? b = some o := fun b o e => Heap.get?_push_of_some _ e
  have I3 := I2.kept (t' := s.toks + ((("self" : Str) :: ns).zip (Value.ref a :: ur)).length + 1) k3
  have sz : h2.objs.size ≤ h2.objs.size := Nat.le_refl _
  have I4 : Inv (cxX P w K mg base ns (PySem.W.ksEnv qual scope s.heap.objs.size f (.ref cda) cc) A outer s H E) [(h2.objs.size, PySem.W.kxs_mw "ValueError.__init__" a)] (some (.ref a) :: ws.map some) H _ := I3.pins_of fun p hp => by
    rw [List.mem_singleton.mp hp]
    exact ⟨hu, I2.hok.fresh sz, fun z => absurd I2.lt (by rw [← z]; exact Nat.lt_irrefl _), I2.nofs sz, fun v z => by cases z⟩
  have hfs := hJ A outer s H E ((hr.deeper _).mono (Nat.le_refl _))
  have hrun := hfs.run p7 _ _ _ _ (fun vs H1 => H1 = H ∧ vs.length = 1) I4 (hJq a ws H hl hwp)
  rw [hst] at hrun ⊢
  refine PySem.W.kxs_callWith (i := "ValueError.__init__") (x := a) (by rfl) (Calls.evalArgs_plain (thn hrun fun us s1 ⟨vs, H1, I5, rv, e1, e2⟩ => ?_))
  rw [e1] at I5
  obtain ⟨hu5, _⟩ := I5.pin (h2.objs.size, PySem.W.kxs_mw "ValueError.__init__" a) (by show _ ∈ ([] ++ [_] : List (Addr × Obj)); simp)
  refine ⟨hu5, ?_⟩
  have hus : us.length ≤ sizeLine := by
    rw [← rv.length, e2, sizeLine_eq]
    omega
  obtain ⟨t5, hoa5⟩ := exo_at I5.hok ha
  obtain ⟨g5, gg5, d5, tk5, os5⟩ := s1
  have hC5 := I5.kIn _ _ hC
  refine wpAny_call (codeAny_of_tree ?_)
  show wpAny _ (A.deeper (PySem.W.ksEnv qual scope s.heap.objs.size f (.ref cda) cc)).in1 (callAny (.ref h2.objs.size) ⟨us, []⟩) _ _ _
  simp only [callAny]
  refine wpAny_bind (wpAny_load hu5 ?_)
  have q1 : (Value.type "method-wrapper" == Value.type "method" || Value.type "method-wrapper" == Value.type "builtin_function_or_method" || Value.type "method-wrapper" == Value.type "method-wrapper") = true := by decide
  simp only [PySem.W.kxs_mw, q1, if_true]
  refine PySem.W.KFB.if_so (by decide) ?_
  refine wpAny_bind (PySem.W.check_bound_init F.excBase_ValueError.toExcCallFacts hC5 hoa5 rfl ?_)
  refine wpAny_bind (wpAny_pure (wpAny_pure ?_))
  refine ⟨plainId_quiet F.excBase_ValueError.init.plain _, codeAny_builtin F.excBase_ValueError.initEntry ?_⟩
  refine PySem.W.exc_init_tree (cls := .ref C) (t0 := t5) (dv := none) (c2 := .none) (c3 := .none) (b4 := .bool false) hoa5 hus fun h6 k6 e6 _ => ?_
  have J := I5.write (t' := tk5) (x := a) (e := a) (o := exo a C none) (by rw [ha]; exact True.intro) (.inl rfl) k6 ⟨_, e6⟩ (exo_ok e6)
  have eu : upd H a (exo a C none) = H := by
    funext b
    by_cases hb : b = a
    · rw [hb, upd_same, ha]
    · rw [upd_ne hb]
  rw [eu] at J
  have J0 := J.pins_of (pins' := []) (fun p hp => absurd hp (by simp))
  show PySem.wpAt _ _ _ (execs rest _) _ _ _
  refine wpAt_of_wpAny (wpAny_mono ((hR A outer s H E).run [] _ _ H { nx := fun _ H' => Q .non H', rt := Q, bk := fun _ _ => False, ct := fun _ _ => False } J0 (hRq a ws H Q hl ha hq)) (fun fl s' hs => ?_) fun e s' hs => hs)
  cases fl with
    | ret u =>
      obtain ⟨v, σ', H', J, rv, q⟩ := hs
      exact ⟨v, H', J.os, J.bare, J.base, J.hok, rv, q⟩
    | next =>
      obtain ⟨σ', H', J, q⟩ := hs
      exact ⟨.non, H', J.os, J.bare, J.base, J.hok, rfl, q⟩
    | brk => obtain ⟨_, _, _, q⟩ := hs; exact q.elim
    | cont => obtain ⟨_, _, _, q⟩ := hs; exact q.elim
end Mp
set_option Elab.async false
set_option linter.all false
set_option maxRecDepth 100000
set_option maxHeartbeats 4000000
namespace Mp
open PySem PySem.Spec PyProof.Rows L2 HandSPX
structure Air (X : Cx) (pins : List (Addr × Obj)) (σ : L2.St) (H : Hp) (a : Addr) (cls : Value) (d : Option Addr) (B : Heap) (sI s : Shared) : Prop where
  inv : Inv X pins σ H sI
  ground : ∀ b o, sI.heap.get? b = some o → b ∉ frs X.stack → B.get? b = some o
  up : sI.heap.UpToSlots s.heap
  fly : FlyingZ B (X.env :: X.outer) a (Zc cls d) s.heap
  na : H a = none
  os : s.os = sI.os
  bare : AllBare s.gens
namespace Air
variable {X : Cx} {pins : List (Addr × Obj)} {σ : L2.St} {H : Hp} {a : Addr} {cls : Value} {d : Option Addr} {B : Heap} {sI s : Shared}
theorem here (z : Air X pins σ H a cls d B sI s) : Inv X pins σ H s := z.inv.landed z.ground z.fly.1 z.up z.os z.bare
theorem apart (hf : X.env.frame = some X.env.locals) (z : Air X pins σ H a cls d B sI s) : a ∉ frs (X.env :: X.outer) := fun hm => by
  obtain ⟨oe, vs, h1, _, h3⟩ := z.fly.there
  obtain ⟨_, ob, h4, h5⟩ := z.fly.2.2.1.mem hm
  have e := h1.symm.trans h4
  cases e
  exact h5 _ h3
theorem suite (hf : X.env.frame = some X.env.locals) (z : Air X pins σ H a cls d B sI s) : ∃ oe vs, s.heap.get? a = some oe ∧ Zc cls d oe ∧ oe.data = .fields vs ∧ Inv (X.suite a ((a, oe) :: (X.pn ++ pins))) [] σ H s := by
  obtain ⟨oe, vs, h1, h2, h3⟩ := z.fly.there
  have n := z.apart hf
  refine ⟨oe, vs, h1, h2, h3, z.here.suite h1 h3 z.na (fun e => n ?_) fun hm => n ?_⟩
  · exact List.mem_filterMap.mpr ⟨X.env, by simp, hf.trans (congrArg some e.symm)⟩
  · obtain ⟨e, h4, h5⟩ := List.mem_filterMap.mp hm
    exact List.mem_filterMap.mpr ⟨e, by simp [h4], h5⟩
theorem on_ (hs : X.stack = X.env :: X.outer) (hf : X.env.frame = some X.env.locals) {W : WX} (tk : Takes X W) (z : Air X pins σ H a cls d B sI s) (w : W cls d σ H) {D : Ends} :
    wpAny (model X.prog X.w) X.A (handleBy (.ref a) X.env []) (SP X pins D) X.xe s := by
  have go : wpAny (model X.prog X.w) X.A (setFlight (.ref a) X.env.frame) (fun _ u => wpAny (model X.prog X.w) X.A (throw (.ref a) : Sem Flow) (SP X pins D) X.xe u) X.xe s := by
    rw [hf]
    refine setFlight_upZ z.fly fun h hh up => wpAny_throw (tk _ _ ⟨a, B, sI, pins, σ, H, cls, d, rfl, z.inv, z.ground, z.up.trans up, .inr (.inr ?_), z.na, z.os, z.bare, w⟩)
    rw [hs]
    exact hh
  refine wpAny_handleBy_nil ?_
  obtain ⟨_, _, _, oe, vs, T, _, _, h1, _, h2, h3, _⟩ := id z.fly
  unfold PySem.passOn
  refine wpAny_bind (wpAny_field h1 h2 h3 ?_)
  have ne : ¬ ((Value.ref T == Value.none) = true) := by simp
  rw [if_neg ne]
  first
    | exact wpAny_bind go
    | exact wpAny_bind (wpAny_pure (wpAny_bind go))
end Air
def TstOk (X : Cx) (t : Expr) (mt : Value → Option Bool) : Prop := ∀ {a : Addr} {oe : Obj} {pn : List (Addr × Obj)} {σ : L2.St} {H : Hp} {s : Shared} {cls : Value} {b : Bool} {R : Bool → Shared → Prop} {E : Value → Shared → Prop},
  Inv (X.suite a ((a, oe) :: pn)) [] σ H s → PySem.W.Looks (model X.prog X.w) s.heap (typeOf (.ref a)) cls → X.K.In s.heap → mt cls = some b → (∀ h', (∀ q o, s.heap.get? q = some o → h'.get? q = some o) → R b { s with heap := h' }) →
  wpAny (model X.prog X.w) (X.A.mark (some (.ref a))) (eval t X.env) (fun c s1 => wpAny (model X.prog X.w) (X.A.mark (some (.ref a))) (excMatches (.ref a) c) R E s1) E s
theorem names_ok {X : Cx} {x : Str} {c : Value} {np : Pos} (hc : Names X x c) {a : Addr} {oe : Obj} {pn : List (Addr × Obj)} {σ : L2.St} {H : Hp} {s : Shared} {Q : Value → Shared → Prop} {E : Value → Shared → Prop} (J : Inv (X.suite a ((a, oe) :: pn)) [] σ H s) (q : Q c s) : wpAny (model X.prog X.w) (X.A.mark (some (.ref a))) (eval (.Name x np) X.env) Q E s := by
  obtain ⟨m1, m2, m3⟩ := hc
  rcases m3 with m3 | ⟨m3, m4, m5⟩
  · exact ld_glob (X := X.suite a ((a, oe) :: pn)) J m1 m3 q m2
  · exact ld_blt (X := X.suite a ((a, oe) :: pn)) J m1 m3 m4 q m5 m2
theorem tst_name {X : Cx} {x : Str} {c : Value} {np : Pos} (hc : Names X x c) : TstOk X (.Name x np) (fun cls => PySem.W.exmOne X.K cls c) := fun J LT kI e1 q =>
  names_ok hc J ((PySem.W.exm_one kI LT e1).here (q _ fun _ _ z => z))
structure HdT where
  mt : Value → Option Bool
  i : Option Nat
  ts : Addr → Value → Option Addr → TS
def setO (σ : L2.St) : Option Nat → Option V → L2.St
  | none, _ => σ
  | some i, v => σ.set i v
def endsW : Option Nat → Ends → Ends
  | none, D => D
  | some i, D => { nx := fun σ H => D.nx (σ.set i none) H, bk := fun σ H => D.bk (σ.set i none) H, ct := fun σ H => D.ct (σ.set i none) H, rt := D.rt }
def wHs (K : Frag) (Wout : WX) (D : Ends) : List HdT → WX
  | [] => Wout
  | h :: r => fun cls d σ H => ∃ b, h.mt cls = some b ∧ (b = true → ∀ a, H a = none → h.ts a cls d (endsW h.i D) (setO σ h.i (some (.ref a))) H) ∧ (b = false → wHs K Wout D r cls d σ H)
inductive HsOk (X : Cx) : List ExceptHandler → List HdT → Prop
  | nil : HsOk X [] []
  | cons {t : Expr} {n : Str} {mt : Value → Option Bool} {i : Nat} {ts : Addr → Value → Option Addr → TS} {b0 : Stmt} {suite : List Stmt} {pos : Pos} {hds : List ExceptHandler} {l : List HdT} (hi : X.N[i]? = some n) (hl : X.env.kindOf n = some .local) (ht : TstOk X t mt)
      (hsu : ∀ (a : Addr) (oe : Obj) (cls : Value) (d : Option Addr) (pn : List (Addr × Obj)), Zc cls d oe → (∃ vs, oe.data = .fields vs) → PSs (X.suite a ((a, oe) :: pn)) (b0 :: suite) (ts a cls d)) (r : HsOk X hds l) :
      HsOk X (.ExceptHandler (some t) (some n) (b0 :: suite) pos :: hds) (⟨mt, some i, ts⟩ :: l)
  | anon {t : Expr} {mt : Value → Option Bool} {ts : Addr → Value → Option Addr → TS} {b0 : Stmt} {suite : List Stmt} {pos : Pos} {hds : List ExceptHandler} {l : List HdT} (ht : TstOk X t mt)
      (hsu : ∀ (a : Addr) (oe : Obj) (cls : Value) (d : Option Addr) (pn : List (Addr × Obj)), Zc cls d oe → (∃ vs, oe.data = .fields vs) → PSs (X.suite a ((a, oe) :: pn)) (b0 :: suite) (ts a cls d)) (r : HsOk X hds l) :
      HsOk X (.ExceptHandler (some t) none (b0 :: suite) pos :: hds) (⟨mt, none, ts⟩ :: l)
section
variable {X : Cx} {pins : List (Addr × Obj)} {σ : L2.St} {H : Hp} {a : Addr} {cls : Value} {d : Option Addr} {B : Heap} {sI s : Shared}
theorem Air.at (z : Air X pins σ H a cls d B sI s) {h : Heap} (fl : FlyingZ B (X.env :: X.outer) a (Zc cls d) h) (up : s.heap.UpToSlots h) : Air X pins σ H a cls d B sI { s with heap := h } := ⟨z.inv, z.ground, z.up.trans up, fl, z.na, z.os, z.bare⟩
theorem Air.keeps (z : Air X pins σ H a cls d B sI s) {h : Heap} (k : ∀ b o, s.heap.get? b = some o → h.get? b = some o) : Air X pins σ H a cls d B sI { s with heap := h } := by
  obtain ⟨f1, f2, f3, oe, vs, T, oT, ts, g1, g2, g3, g4, g5, g6, g7, g8, g9⟩ := z.fly
  exact z.at ⟨fun b o e => k b o (f1 b o e), f2, f3.of_keeps fun b o e _ => ⟨o, k b o e, rfl⟩, oe, vs, T, oT, ts, k _ _ g1, g2, g3, g4, g5, g6, k _ _ g7, g8, g9⟩ (.of_keeps k)
theorem hs_go (hs : X.stack = X.env :: X.outer) (hf : X.env.frame = some X.env.locals) (hN : X.N.Nodup) {Wout : WX} (tk : Takes X Wout) {D : Ends} : ∀ {hds : List ExceptHandler} {l : List HdT}, HsOk X hds l → ∀ {s : Shared}, Air X pins σ H a cls d B sI s →
    wHs X.K Wout D l cls d σ H → wpAny (model X.prog X.w) X.A (handleBy (.ref a) X.env hds) (SP X pins D) X.xe s := by
  intro hds l k
  induction k with
  | nil => exact fun z w => z.on_ hs hf tk w
  | @cons t n mt i ts b0 suite pos hds l hi hl ht hsu r ih =>
    rintro s z ⟨b, e1, yes, no⟩
    obtain ⟨oe, vs, g1, g2, g3, J⟩ := z.suite hf
    refine wpAny_handleBy_cons (codeAny_handlers_test ?_) (fun q => by cases q)
    have LT : PySem.W.Looks (model X.prog X.w) s.heap (typeOf (.ref a)) cls := fun A Q E u k q => wpAny_typeOf_ref (k _ _ g1) (g2.1.symm ▸ q)
    refine ht J LT z.here.kIn e1 fun h' kp => ?_
    have z := z.keeps kp
    cases b with
    | false =>
      show wpAny _ X.A (handleBy (.ref a) X.env hds) _ _ _
      exact ih z (no rfl)
    | true =>
      refine codeAny_handlers_suite_as (lands_againZ z.fly fun h2 fl up => ?_)
      have z2 := z.at fl up
      obtain ⟨oe2, vs2, _, g5, g6, J2⟩ := z2.suite hf
      refine store_ok (X := X.suite a ((a, oe2) :: (X.pn ++ pins))) (v := .ref a) J2 hN hi (.inl hl) rfl (fun s3 J3 => ?_) (.inr hl)
      have run := (hsu a oe2 cls d (X.pn ++ pins) g5 ⟨_, g6⟩).run [] s3 _ H (endsW (some i) D) J3 (yes rfl a z.na)
      refine wpAny_mono run (fun f s4 q4 => ?_) fun _ _ y => False.elim y
      have fin : ∀ {σ' : L2.St} {H' : Hp} {Q : Shared → Prop}, Inv (X.suite a ((a, oe2) :: (X.pn ++ pins))) [] σ' H' s4 → (∀ u, Inv X pins (σ'.set i none) H' u → Q u) →
          wpAny (model X.prog X.w) X.A (do bindName X.env n .none; unbindBehindTheSuite X.env n pos) (fun _ u => Q u) X.xe s4 := fun J4 q => gone_ok (J4.unsuite z.inv.ok) hN hi hl q
      cases f with
      | ret u =>
        obtain ⟨v, σ4, H4, J4, r4, q5⟩ := q4
        exact fin J4 fun u5 J5 => ⟨v, _, _, J5, r4, q5⟩
      | next => obtain ⟨σ4, H4, J4, q5⟩ := q4; exact fin J4 fun u5 J5 => ⟨_, _, J5, q5⟩
      | brk => obtain ⟨σ4, H4, J4, q5⟩ := q4; exact fin J4 fun u5 J5 => ⟨_, _, J5, q5⟩
      | cont => obtain ⟨σ4, H4, J4, q5⟩ := q4; exact fin J4 fun u5 J5 => ⟨_, _, J5, q5⟩
  | @anon t mt ts b0 suite pos hds l ht hsu r ih =>
    rintro s z ⟨b, e1, yes, no⟩
    obtain ⟨oe, vs, g1, g2, g3, J⟩ := z.suite hf
    refine wpAny_handleBy_cons (codeAny_handlers_test ?_) (fun q => by cases q)
    have LT : PySem.W.Looks (model X.prog X.w) s.heap (typeOf (.ref a)) cls := fun A Q E u k q => wpAny_typeOf_ref (k _ _ g1) (g2.1.symm ▸ q)
    refine ht J LT z.here.kIn e1 fun h' kp => ?_
    have z := z.keeps kp
    cases b with
    | false =>
      show wpAny _ X.A (handleBy (.ref a) X.env hds) _ _ _
      exact ih z (no rfl)
    | true =>
      refine codeAny_handlers_suite (lands_againZ z.fly fun h2 fl up => ?_)
      have z2 := z.at fl up
      obtain ⟨oe2, vs2, _, g5, g6, J2⟩ := z2.suite hf
      have run := (hsu a oe2 cls d (X.pn ++ pins) g5 ⟨_, g6⟩).run [] _ _ H (endsW none D) J2 (yes rfl a z.na)
      refine wpAny_mono run (fun f s4 q4 => ?_) fun _ _ y => False.elim y
      cases f with
      | ret u =>
        obtain ⟨v, σ4, H4, J4, r4, q5⟩ := q4
        exact ⟨v, _, _, J4.unsuite z.inv.ok, r4, q5⟩
      | next => obtain ⟨σ4, H4, J4, q5⟩ := q4; exact ⟨_, _, J4.unsuite z.inv.ok, q5⟩
      | brk => obtain ⟨σ4, H4, J4, q5⟩ := q4; exact ⟨_, _, J4.unsuite z.inv.ok, q5⟩
      | cont => obtain ⟨σ4, H4, J4, q5⟩ := q4; exact ⟨_, _, J4.unsuite z.inv.ok, q5⟩
end
theorem ps_tryN {X : Cx} {body : List Stmt} {h0 : ExceptHandler} {hds : List ExceptHandler} {l : List HdT} {pos : Pos} {tb : WX → TS} {Wout : WX} (hs : X.stack = X.env :: X.outer) (hf : X.env.frame = some X.env.locals) (hN : X.N.Nodup) (tk : Takes X Wout)
    (hb : ∀ (W : WX) (pn : List (Addr × Obj)) (xe : Value → Shared → Prop), Takes (X.tr pn xe) W → PassesOwn (model X.prog X.w) X.A X.env xe → PSs (X.tr pn xe) body (tb W)) (hh : HsOk X (h0 :: hds) l) :
    L2.PS X (.Try body (h0 :: hds) [] [] pos) (fun D σ H => tb (wHs X.K Wout D l) D σ H) := by
  refine ⟨fun pins s σ H D I q => wpAny_Try_except ?_⟩
  have hA : X.A.frames = some (X.env :: X.outer) := hs ▸ I.ok.frames
  let xe : Value → Shared → Prop := fun e u => wpAny (model X.prog X.w) X.A (noteFrame e X.env) (fun _ u2 => wpAny (model X.prog X.w) X.A (setFlight e none) (fun _ u3 => wpAny (model X.prog X.w) X.A (handleBy e X.env (h0 :: hds)) (SP X pins D) X.xe u3) X.xe u2) X.xe u
  have tk2 : Takes (X.tr (X.pn ++ pins) xe) (wHs X.K Wout D l) := by
    rintro u s' ⟨a, B, sI, pins', σ', H', cls, d, rfl, J, ground, up, sky, na, os, bare, w⟩
    have sky2 : Sky B (X.env :: X.outer) a (Zc cls d) X.env.locals s'.heap := hs ▸ sky
    refine Sky.land Zc.steady hA hf sky2 fun h3 fl up3 => ?_
    exact hs_go hs hf hN tk hh (s := { s' with heap := h3 }) (B := B) (sI := sI) ⟨J.ofTry I.ok, ground, up.trans up3, fl, na, os, bare⟩ w
  refine wpAny_mono ((hb _ (X.pn ++ pins) xe tk2 PassesOwn.looking).run [] s σ H D (I.toTry _) q) (fun f u hq => ?_) fun _ _ y => y
  cases f with
  | ret v => obtain ⟨v', σ', H', J, r, q⟩ := hq; exact ⟨v', σ', H', J.ofTry I.ok, r, q⟩
  | next => obtain ⟨σ', H', J, q⟩ := hq; exact wpAny_execs_nil ⟨σ', H', J.ofTry I.ok, q⟩
  | brk => obtain ⟨σ', H', J, q⟩ := hq; exact ⟨σ', H', J.ofTry I.ok, q⟩
  | cont => obtain ⟨σ', H', J, q⟩ := hq; exact ⟨σ', H', J.ofTry I.ok, q⟩
def rIsX (K : Frag) (C a : Addr) (d : Option Addr) : List V → Hp → VK → Prop := fun xs H Q => (∃ dd fs, d = some dd ∧ H dd = some (.xd fs)) ∧ ∃ (c : V) (b : Bool), xs = [.ref a, c] ∧ Q (.bl b) H ∧
  ((∃ cv, ClsV c cv ∧ PySem.W.kitOne K (.ref C) cv = some b) ∨ ∃ tp cs us, c = .ref tp ∧ H tp = some (.tup cs) ∧ Paired ClsV cs us ∧ PySem.W.kitAny K (.ref C) us = some b)
theorem call_isX {X : Cx} {a C : Addr} {d : Option Addr} {oe : Obj} {pn : List (Addr × Obj)} (Z : ExcC X.K C) (hz : Zc (.ref C) d oe) (hf : ∃ vs, oe.data = .fields vs) : CallR (X.suite a ((a, oe) :: pn)) (.builtin "isinstance") (rIsX X.K C a d) := by
  rintro pins s σ H xs us Q I r ⟨⟨dd, fs, rfl, hdd⟩, c, b, rfl, q, alt⟩
  obtain ⟨u1, u2, rfl, r1, r2⟩ := vals2 r
  cases (show u1 = Value.ref a from r1)
  obtain ⟨g, _⟩ := I.pin (a, oe) (by simp)
  obtain ⟨vs, hv⟩ := hf
  obtain ⟨mA, ⟨od, es, ep, ho, hod⟩, _⟩ := (show ObjOk X.prog X.w H s.heap dd (.xd fs) from I.hok dd _ hdd)
  have J : PySem.W.InstAt s.heap a oe C (some od) := by
    refine ⟨g, hz.1, ?_, ?_⟩
    · unfold PySem.W.notCls
      rw [hv] <;> rfl
    · rw [hz.2]
      exact ho
  have hcl : (PySem.W.clsIn X.K C).isSome = true := by
    obtain ⟨cd, hc, _⟩ := PySem.W.any_some Z.hd
    rw [hc] <;> rfl
  have KZ := PySem.W.kitx_exc (x := a) (ox := oe) (od := some od) hcl Z.hg Z.hk Z.hs Z.ha Z.hn Z.ht Z.hm
  rcases alt with ⟨cv, k, e⟩ | ⟨tp, cs, ws, rfl, hT, k, e⟩
  · cases k.eq r2
    exact PySem.W.kia_one KZ I.kIn J e (fun z => nomatch z) fun tk => ⟨.bl b, H, I.tok tk, rfl, q⟩
  · cases (show u2 = Value.ref tp from r2)
    obtain ⟨_, its, rv, o, h1, h2, n, h3⟩ := (show ObjOk X.prog X.w H s.heap tp (.tup cs) from I.hok tp _ hT)
    cases ClsV.all k rv
    obtain ⟨oc, ob, dt, sl⟩ := o
    simp only at h2 h3
    subst h2 h3
    exact PySem.W.kia_tup KZ I.kIn J h1 e (fun z => nomatch z) fun tk => ⟨.bl b, H, I.tok tk, rfl, q⟩
end Mp
set_option Elab.async false
set_option linter.all false
set_option maxRecDepth 100000
set_option maxHeartbeats 4000000
namespace Mp
open PySem PySem.Spec PyProof.Rows L2 HandSPX
abbrev tRaiseN (W : WX) (C : Addr) (ns : List Str) (Wp : List V → Hp → Prop) (ta : TA) : TS := fun _ σ H => tMkO C (spXN C ns Wp) [] ta σ H fun cls d H' => W cls d σ H'
def W1 : List V → Hp → Prop := fun ws _ => ∃ n : Int, ws = [.int n] ∧ n.natAbs.log2 < 1920
def mRaiseN (cls : Str) (ns : List Str) (Wd : List D → Prop) (Ma : MA) : MS := fun s k => Ma s (fun ss hp' => on (allD ss) fun ds => ds.length = ns.length ∧ ds.length ≤ 1000 ∧ Wd ds ∧ k.ex ⟨cls, (ns.zip ds).reverse⟩ hp') k.ex
theorem RepXF.app {K : Frag} {A : Av} {H : Hp} : ∀ {l r : List (Str × D)} {xs ys : List (Str × V)}, RepXF K A H l xs → RepXF K A H r ys → RepXF K A H (l ++ r) (xs ++ ys)
  | [], _, _, _, h, g => by cases h; exact g
  | (k, d) :: l, _, _, _, ⟨v, t, e, h, q⟩, g => by subst e; exact ⟨v, _, rfl, h, RepXF.app q g⟩
theorem RepXF.zip_ {K : Frag} {A : Av} {H : Hp} : ∀ {ns : List Str} {ds : List D} {vs : List V}, RepL K A H ds vs → RepXF K A H (ns.zip ds).reverse (ns.zip vs).reverse
  | [], _, _, _ => rfl
  | n :: ns, [], _, h => by cases h; exact rfl
  | n :: ns, d :: ds, _, ⟨v, r, e, h, t⟩ => by
    subst e
    rw [List.zip_cons_cons, List.zip_cons_cons, List.reverse_cons, List.reverse_cons]
    exact RepXF.app (RepXF.zip_ t) ⟨v, [], rfl, h, rfl⟩
theorem exn_gone {H1 : Hp} {a dx C : Addr} {o : HO} {fs : List (Str × V)} (hn : H1 a = none) (hne : dx ≠ a) :
    upd (L2.del (upd (upd (upd H1 a (exo a C none)) dx o) a (exo a C (some dx))) a) dx (.xd fs) = upd H1 dx (.xd fs) := by
  funext b
  by_cases hb : b = dx
  · rw [hb, upd_same, upd_same]
  · rw [upd_ne hb, upd_ne hb]
    by_cases hb2 : b = a
    · rw [hb2, del_same, hn]
    · rw [del_ne hb2, upd_ne hb2, upd_ne hb, upd_ne hb2]
theorem sim_raiseN {K : Frag} {W : WX} {cls : Str} {ns : List Str} {Wd : List D → Prop} {Wp : List V → Hp → Prop} {ta : TA} {Ma : MA} (ha : SimA K W ta Ma) (hns : ns ≠ []) (hw : ∀ (A : Av) (H : Hp) (ds : List D) (vs : List V), RepL K A H ds vs → Wd ds → Wp vs H) :
    SimS K W (tRaiseN W (He.ga K cls) ns Wp ta) (mRaiseN cls ns Wd Ma) := by
  intro ρ α s H σ h k m D p
  refine ha α s H σ h.ok h.env _ _ m _ (fun ss hp1 α1 H1 vs m1 e1 w1 r1 => ?_) (p.postX h.pre)
  obtain ⟨ds, g1, l1, l2, hwd, m1⟩ := on.ex m1
  have r2 := r1.allD g1
  have lv : vs.length = ds.length := r2.length.symm
  refine ⟨by omega, fun a hn => ⟨a, vs ++ [], rfl, by rw [List.append_nil, lv, l1], ?_, upd_same, fun dx hd hne => ⟨rfl, dx, (ns.zip vs).reverse, upd_same, by rw [List.append_nil, upd_ne hne, upd_same], by rw [upd_ne hne] at hd; exact hd, ?_⟩⟩⟩
  · rw [List.append_nil]
    exact hw _ _ _ _ (RepL.mono (Ext.fresh (o := exo a (He.ga K cls) none) hn).step _ _ r2) hwd
  have hd1 : H1 dx = none := by rw [upd_ne hne] at hd; exact hd
  rw [exn_gone hn hne]
  have ef := e1.trans (Ext.fresh (o := .xd (ns.zip vs).reverse) hd1)
  refine p.ex _ hp1 α1 _ _ _ σ m1 (h.pre.ext ef) (w1.fresh hd1) ef.step ef.pre.ban ⟨rfl, .inr ⟨dx, _, rfl, ⟨upd_same, w1.non dx hd1⟩, RepXF.zip_ ?_⟩⟩
  exact RepL.mono (Ext.fresh (o := .xd (ns.zip vs).reverse) hd1).step _ _ r2
structure XcFN (P : Program) (w : World) (K : Frag) (mg : Str → Option Value) (base : Heap) (x : Str) (ns : List Str) (Wp : List V → Hp → Prop) : Prop where
  ox : OexC K (He.ga K x)
  g : mg x = some (.ref (He.ga K x))
  fn : ∃ f fd, PySem.W.findIn K (.ref (He.ga K x)) "__init__" = some (some (.ref f)) ∧ PySem.W.typeIn K (.ref f) = some (.type "function") ∧ FnOk P w K mg base (L2.CX P w) 1 f fd (("self" : Str) :: ns) (spXN (He.ga K x) ns Wp) ∧ Binds K fd (("self" : Str) :: ns) []
abbrev XcF (P : Program) (w : World) (K : Frag) (mg : Str → Option Value) (base : Heap) (x : Str) : Prop := XcFN P w K mg base x ["place"] W1
section
variable {X : Cx} {W : WX} {e : Expr} {es : List Expr} {te : TE} {Me : ME} {tA : TA} {MA' : MA} {p p2 pos : Pos}
theorem ds_raiseN (K : Frag) {x : Str} {ns : List Str} {Wd : List D → Prop} {Wp : List V → Hp → Prop} (Z : XcFN X.prog X.w K X.mg X.base x ns Wp) (hw : ∀ (A : Av) (H : Hp) (ds : List D) (vs : List V), RepL K A H ds vs → Wd ds → Wp vs H) (hns : ns ≠ []) (hc : X.calm = true) (tk : Takes X W) (hr : Room 2 X.A) (hg : Gl X x) (ha : DA X W (e :: es) tA MA')
    (hdb : (x == ("__debug__" : Str)) = false := by decide) (hst : starEach (e :: es) X.env = (false, eval e X.env) :: starEach es X.env := by rfl) (hpl : (backTo p2 (starEach es X.env)).any (·.1) = false := by rfl) (hK : X.K = K := by rfl) :
    DS X W (.Raise (some (.Call (.Name x p) (e :: es) [] p2)) none pos) (tRaiseN W (He.ga K x) ns Wp tA) (mRaiseN x ns Wd MA') := by
  subst hK
  obtain ⟨f, fd, h1, h2, h3, h4⟩ := Z.fn
  exact ⟨ps_raise hc tk (pmk_oex (dvs := []) (ds := []) Z.ox h1 h2 h3 hr h4 .nil passL hg Z.g ha.p hdb hst hpl), sim_raiseN ha.s hns hw⟩
end
structure HdM where
  tbl : List (Str × Bool)
  i : Option Nat
  ms : Addr → Value → Option Addr → MS
def envO (env : List (Option S)) : Option Nat → Option S → List (Option S)
  | none, _ => env
  | some i, v => env.set i v
def mHs (n : Nat) (k : MK) (n0 : Nat) : List HdM → Exn → List O → Prop
  | [], x, hp => k.ex x hp
  | h :: r, x, hp => on (h.tbl.lookup x.cls) fun b => if b = true then ∀ (a : Addr) (c : Value) (d : Option Addr), h.ms a c d ⟨hp, envO (List.replicate n none) h.i (some (.exn a c d x)), n0⟩
      { nx := fun s => k.nx { s with env := envO s.env h.i none }, bk := fun s => k.bk { s with env := envO s.env h.i none }, ct := fun s => k.ct { s with env := envO s.env h.i none }, rt := k.rt, ex := fun _ _ => False } else mHs n k n0 r x hp
def mTry (n : Nat) (l : List HdM) (Mb : MS) : MS := fun s k => Mb s { k with ex := mHs n k s.n0 l }
abbrev WNo : WX := fun _ _ _ _ => False
inductive HsD (X : Cx) : List ExceptHandler → List HdT → List HdM → Prop
  | nil : HsD X [] [] []
  | cons {t : Expr} {n : Str} {mt : Value → Option Bool} {i : Nat} {ts : Addr → Value → Option Addr → TS} {tbl : List (Str × Bool)} {ms : Addr → Value → Option Addr → MS} {b0 : Stmt} {suite : List Stmt} {pos : Pos} {hds : List ExceptHandler} {l : List HdT} {lm : List HdM} (hi : X.N[i]? = some n) (hl : X.env.kindOf n = some .local) (ht : TstOk X t mt)
      (tb : ∀ z b, tbl.lookup z = some b → mt (.ref (He.ga X.K z)) = some b)
      (hsu : ∀ (a : Addr) (oe : Obj) (cls : Value) (d : Option Addr) (pn : List (Addr × Obj)), Zc cls d oe → (∃ vs, oe.data = .fields vs) → DSs (X.suite a ((a, oe) :: pn)) WNo (b0 :: suite) (ts a cls d) (ms a cls d)) (r : HsD X hds l lm) :
      HsD X (.ExceptHandler (some t) (some n) (b0 :: suite) pos :: hds) (⟨mt, some i, ts⟩ :: l) (⟨tbl, some i, ms⟩ :: lm)
  | anon {t : Expr} {mt : Value → Option Bool} {ts : Addr → Value → Option Addr → TS} {tbl : List (Str × Bool)} {ms : Addr → Value → Option Addr → MS} {b0 : Stmt} {suite : List Stmt} {pos : Pos} {hds : List ExceptHandler} {l : List HdT} {lm : List HdM} (ht : TstOk X t mt)
      (tb : ∀ z b, tbl.lookup z = some b → mt (.ref (He.ga X.K z)) = some b)
      (hsu : ∀ (a : Addr) (oe : Obj) (cls : Value) (d : Option Addr) (pn : List (Addr × Obj)), Zc cls d oe → (∃ vs, oe.data = .fields vs) → DSs (X.suite a ((a, oe) :: pn)) WNo (b0 :: suite) (ts a cls d) (ms a cls d)) (r : HsD X hds l lm) :
      HsD X (.ExceptHandler (some t) none (b0 :: suite) pos :: hds) (⟨mt, none, ts⟩ :: l) (⟨tbl, none, ms⟩ :: lm)
theorem HsD.ok {X : Cx} : ∀ {hds : List ExceptHandler} {l : List HdT} {lm : List HdM}, HsD X hds l lm → HsOk X hds l
  | _, _, _, .nil => .nil
  | _, _, _, .cons hi hl ht _ hsu r => .cons hi hl ht (fun a oe cls d pn z f => (hsu a oe cls d pn z f).p) r.ok
  | _, _, _, .anon ht _ hsu r => .anon ht (fun a oe cls d pn z f => (hsu a oe cls d pn z f).p) r.ok
theorem EnvR.setN {K : Frag} {α : Mp_} {hp : List O} {H : Hp} {env : List (Option S)} {σ : L2.St} {i : Nat} (e : EnvR K α hp H env σ) : EnvR K α hp H (env.set i none) (σ.set i none) := by
  refine ⟨by rw [List.length_set, List.length_set]; exact e.1, fun j s hj => ?_⟩
  by_cases hi : i = j
  · subst hi
    by_cases hl : i < env.length
    · rw [List.getElem?_set_self hl] at hj
      cases hj
    · rw [List.getElem?_eq_none (by simpa using hl)] at hj
      cases hj
  · rw [List.getElem?_set_ne hi] at hj ⊢
    exact e.2 j s hj
theorem EnvR.none {K : Frag} {α : Mp_} {hp : List O} {H : Hp} {σ : L2.St} {n : Nat} (h : σ.length = n) : EnvR K α hp H (List.replicate n none) σ :=
  ⟨by rw [List.length_replicate]; exact h.symm, fun j s hj => by
    rw [List.getElem?_replicate] at hj
    split at hj <;> cases hj⟩
section
variable {X : Cx} {pos : Pos} {W : WX}
theorem sim_hs {ρ : En} {α : Mp_} {hp : List O} {H : Hp} {n n0 : Nat} {k : MK} {D : Ends} (p : PostS X.K W ρ α hp H k D) (hn0 : True) : ∀ {hds : List ExceptHandler} {l : List HdT} {lm : List HdM}, HsD X hds l lm → ∀ (x : Exn) (hp' : List O) (α' : Mp_) (H' : Hp) (c : Value) (dd : Option Addr) (σ' : L2.St),
    mHs n k n0 lm x hp' → Pre0 ρ α' H' → WOk X.K α' hp' H' → StepW α hp H α' hp' H' → α'.ban = α.ban → XRep X.K (Al α' hp') H' x c dd → σ'.length = n → wHs X.K W D l c dd σ' H' := by
  intro hds l lm z
  induction z with
  | nil => exact fun x hp' α' H' c dd σ' m pre w st bb xr _ => p.ex x hp' α' H' c dd σ' m pre w st bb xr
  | @cons t nm hmt hi_ hts htbl hms b0 suite hpos hds l lm hi hl ht tb hsu r ih =>
    intro x hp' α' H' c dd σ' m pre w st bb xr hlen
    obtain ⟨b, g, m⟩ := on.ex (show on (htbl.lookup x.cls) _ from m)
    have hcls : c = .ref (He.ga X.K x.cls) := xr.1
    refine ⟨b, by rw [hcls]; exact tb _ _ g, fun hb a ha => ?_, fun hb => ?_⟩
    · rw [if_pos hb] at m
      let oe : Obj := { cls := c, dict := dd, data := .fields #[] }
      have q := (hsu a oe c dd [] ⟨rfl, rfl⟩ ⟨_, rfl⟩).s
      have hE : EnvR X.K α' hp' H' ((List.replicate n none).set hi_ (some (.exn a c dd x))) (σ'.set hi_ (some (.ref a))) := (EnvR.none hlen).set ⟨rfl, xr⟩
      have m' := m a c dd
      have p' := p.at st bb
      refine q ρ α' ⟨hp', _, n0⟩ H' _ ⟨pre, hn0, w, hE⟩ _ m' _ ⟨?_, ?_, ?_, p'.rt, fun _ _ _ _ _ _ _ z => z.elim⟩
      · exact fun s2 α2 H2 σ2 n2 i2 st2 b2 => p'.nx _ α2 H2 _ n2 ⟨i2.pre, i2.n0, i2.ok, i2.env.setN⟩ st2 b2
      · exact fun s2 α2 H2 σ2 n2 i2 st2 b2 => p'.bk _ α2 H2 _ n2 ⟨i2.pre, i2.n0, i2.ok, i2.env.setN⟩ st2 b2
      · exact fun s2 α2 H2 σ2 n2 i2 st2 b2 => p'.ct _ α2 H2 _ n2 ⟨i2.pre, i2.n0, i2.ok, i2.env.setN⟩ st2 b2
    · rw [if_neg (by rw [hb]; exact Bool.false_ne_true)] at m
      exact ih x hp' α' H' c dd σ' m pre w st bb xr hlen
  | @anon t hmt hts htbl hms b0 suite hpos hds l lm ht tb hsu r ih =>
    intro x hp' α' H' c dd σ' m pre w st bb xr hlen
    obtain ⟨b, g, m⟩ := on.ex (show on (htbl.lookup x.cls) _ from m)
    have hcls : c = .ref (He.ga X.K x.cls) := xr.1
    refine ⟨b, by rw [hcls]; exact tb _ _ g, fun hb a ha => ?_, fun hb => ?_⟩
    · rw [if_pos hb] at m
      let oe : Obj := { cls := c, dict := dd, data := .fields #[] }
      have q := (hsu a oe c dd [] ⟨rfl, rfl⟩ ⟨_, rfl⟩).s
      have hE : EnvR X.K α' hp' H' (List.replicate n none) σ' := EnvR.none hlen
      have m' := m a c dd
      have p' := p.at st bb
      exact q ρ α' ⟨hp', _, n0⟩ H' _ ⟨pre, hn0, w, hE⟩ _ m' _ ⟨fun s2 α2 H2 σ2 n2 i2 st2 b2 => p'.nx _ α2 H2 _ n2 ⟨i2.pre, i2.n0, i2.ok, i2.env⟩ st2 b2, fun s2 α2 H2 σ2 n2 i2 st2 b2 => p'.bk _ α2 H2 _ n2 ⟨i2.pre, i2.n0, i2.ok, i2.env⟩ st2 b2,
        fun s2 α2 H2 σ2 n2 i2 st2 b2 => p'.ct _ α2 H2 _ n2 ⟨i2.pre, i2.n0, i2.ok, i2.env⟩ st2 b2, p'.rt, fun _ _ _ _ _ _ _ z => z.elim⟩
    · rw [if_neg (by rw [hb]; exact Bool.false_ne_true)] at m
      exact ih x hp' α' H' c dd σ' m pre w st bb xr hlen
abbrev wTry (X : Cx) (W : WX) (l : List HdT) (D : Ends) : WX := fun c d σ H => σ.length = X.N.length → wHs X.K W D l c d σ H
def xeAny (X : Cx) : Value → Shared → Prop := fun e u => wpAny (model X.prog X.w) X.A (noteFrame e X.env) (fun _ u2 => wpAny (model X.prog X.w) X.A (setFlight e none) (fun _ _ => True) X.xe u2) X.xe u
theorem takes_any (hs : X.stack = X.env :: X.outer) (hf : X.env.frame = some X.env.locals) {pn : List (Addr × Obj)} {W : WX} : Takes (X.tr pn (xeAny X)) W := by
  rintro u s' ⟨a, B, sI, pins', σ', H', cls, d, rfl, J, _, _, sky, _⟩
  have sky2 : Sky B (X.env :: X.outer) a (Zc cls d) X.env.locals s'.heap := hs ▸ sky
  have hA : X.A.frames = some (X.env :: X.outer) := hs ▸ J.ok.frames
  exact Sky.land Zc.steady hA hf sky2 fun _ _ _ => trivial
theorem ds_try {body : List Stmt} {h0 : ExceptHandler} {hds : List ExceptHandler} {l : List HdT} {lm : List HdM} {tb : WX → TS} {Mb : MS} (hs : X.stack = X.env :: X.outer) (hf : X.env.frame = some X.env.locals) (hN : X.N.Nodup) (tk : Takes X W)
    (hb : ∀ (W : WX) (pn : List (Addr × Obj)) (xe : Value → Shared → Prop), Takes (X.tr pn xe) W → PassesOwn (model X.prog X.w) X.A X.env xe → DSs (X.tr pn xe) W body (tb W) Mb) (hh : HsD X (h0 :: hds) l lm) :
    DS X W (.Try body (h0 :: hds) [] [] pos) (fun D σ H => tb (wTry X W l D) D σ H) (mTry X.N.length lm Mb) := by
  refine ⟨?_, ?_⟩
  · refine ps_tryN (tb := fun W => tb fun c d σ H => σ.length = X.N.length → W c d σ H) hs hf hN tk (fun W pn xe t po => (hb _ pn xe (fun u s' z => t u s' ?_) po).p) hh.ok
    obtain ⟨a, B, sI, pins, σ, H, cls, d, e, I, g1, g2, g3, g4, g5, g6, w⟩ := z
    exact ⟨a, B, sI, pins, σ, H, cls, d, e, I, g1, g2, g3, g4, g5, g6, w I.len⟩
  · intro ρ α s H σ h k m D p
    have q := (hb (wTry X W l D) [] (xeAny X) (takes_any hs hf) PassesOwn.looking).s
    exact q ρ α s H σ h _ m D ⟨p.nx, p.bk, p.ct, p.rt, fun x hp' α' H' c dd σ' kx pre w st bb xr hlen => sim_hs p h.n0 hh x hp' α' H' c dd σ' kx pre w st bb xr hlen⟩
end
def mIsX (i : Nat) (a : Addr) (c : Value) (d : Option Addr) (tbl : List (Str × Bool)) : ME := fun s R _ => match s.env[i]? with
  | some (some (.exn a' c' d' x)) => a' = a ∧ c' = c ∧ d' = d ∧ x.fs ≠ [] ∧ on (tbl.lookup x.cls) fun b => R (.d (.bl b)) s.hp
  | _ => False
def mXf (i : Nat) (a : Addr) (c : Value) (d : Option Addr) (cs : List Str) (f : Str) : ME := fun s R _ => match s.env[i]? with
  | some (some (.exn a' c' d' x)) => a' = a ∧ c' = c ∧ d' = d ∧ x.cls ∈ cs ∧ on (x.fs.lookup f) fun y => R (.d y) s.hp
  | _ => False
theorem exn_at {K : Frag} {α : Mp_} {hp : List O} {H : Hp} {env : List (Option S)} {σ : L2.St} {i : Nat} {a : Addr} {c : Value} {d : Option Addr} {k : Exn → Prop} (e : EnvR K α hp H env σ)
    (m : match env[i]? with
      | some (some (.exn a' c' d' x)) => a' = a ∧ c' = c ∧ d' = d ∧ k x
      | _ => False) : ∃ x, σ[i]? = some (some (.ref a)) ∧ XRep K (Al α hp) H x c d ∧ k x := by
  split at m
  · rename_i a' c' d' x q
    obtain ⟨rfl, rfl, rfl, kx⟩ := m
    obtain ⟨v, h1, h2, h3⟩ := e.2 i _ q
    exact ⟨x, by rw [h1, h2], h3, kx⟩
  · exact m.elim
theorem XRep.at_ {K : Frag} {A : Av} {H : Hp} {x : Exn} {c : Value} {d : Option Addr} (h : XRep K A H x c d) (n : x.fs ≠ []) : ∃ a ws, d = some a ∧ H a = some (.xd ws) ∧ RepXF K A H x.fs ws := by
  rcases h.2 with z | ⟨a, ws, h1, h2, h3⟩
  · exact absurd z n
  · exact ⟨a, ws, h1, h2.1, h3⟩
theorem RepXF.look {K : Frag} {A : Av} {H : Hp} {f : Str} {y : D} : ∀ {l : List (Str × D)} {ws : List (Str × V)}, RepXF K A H l ws → l.lookup f = some y → ∃ v, ws.lookup f = some v ∧ Rep K A H y v
  | [], _, _, h => by cases h
  | (k, d) :: r, _, ⟨v, t, e, h1, h2⟩, h => by
    subst e
    by_cases z : f = k
    · subst z
      have : d = y := by simpa [List.lookup] using h
      subst this
      exact ⟨v, by simp [List.lookup], h1⟩
    · have q : (f == k) = false := by simpa using z
      have h' : r.lookup f = some y := by simpa [List.lookup, q] using h
      obtain ⟨u, g1, g2⟩ := RepXF.look h2 h'
      exact ⟨u, by simpa [List.lookup, q] using g1, g2⟩
def tXv (K : Frag) (i : Nat) (a : Addr) (c : Value) (d : Option Addr) (f : Str) : TE := fun σ H Q => σ[i]? = some (some (.ref a)) ∧ ∃ C dd fs v, c = .ref C ∧ XfC K C ∧ PySem.W.findIn K (.ref C) f = some none ∧ d = some dd ∧ H dd = some (.xd fs) ∧ fs.lookup f = some v ∧ Q v H
def tIsX (K : Frag) (i : Nat) (a : Addr) (c : Value) (d : Option Addr) (us : List Value) (tup : Bool) (vs : List V) : TE := fun σ H Q => σ[i]? = some (some (.ref a)) ∧ ∃ C dd fs b, c = .ref C ∧ L2.ExcC K C ∧ d = some dd ∧ H dd = some (.xd fs) ∧ PySem.W.kitAny K (.ref C) us = some b ∧
  if tup = true then vs.length ≤ sizeLine ∧ ∀ p, H p = none → Q (.bl b) (upd H p (.tup vs)) else Q (.bl b) H
section
variable {X : Cx} {a : Addr} {oe : Obj} {c : Value} {d : Option Addr} {pn : List (Addr × Obj)} {x : Str} {i : Nat} {p p1 p2 pos : Pos} {W : WX}
theorem pe_xv {f : Str} (hN : X.N[i]? = some x) (hv : Vis X.env.scope x) (hz : Zc c d oe) (hf : ∃ vs, oe.data = .fields vs) (hd : (x == ("__debug__" : Str)) = false := by decide) (hcd : (x == ("__classdict__" : Str)) = false := by decide)
    (hb : attributeBase (.Name x p) f X.env (eval (.Name x p) X.env) = eval (.Name x p) X.env := by rfl) : PE (X.suite a ((a, oe) :: pn)) (.Attribute (.Name x p) f pos) (tXv X.K i a c d f) := by
  refine ⟨fun pins s σ H Q I h => ?_⟩
  obtain ⟨h1, C, dd, fs, v, rfl, T, hno, rfl, h2, h3, q⟩ := h
  exact (pe_xf T hno hz hf (pe_var (X := X.suite a ((a, oe) :: pn)) (i := i) hN hv hd hcd) hb).run pins s σ H Q I ⟨_, h1, rfl, rfl, dd, fs, v, rfl, h2, h3, q⟩
theorem sim_xv {K : Frag} {f : Str} {cs : List Str} (hX : ∀ z ∈ cs, XfC K (He.ga K z) ∧ PySem.W.findIn K (.ref (He.ga K z)) f = some none) : SimE K W (tXv K i a c d f) (mXf i a c d cs f) := by
  intro α s H σ w e R Xp m Q q _
  obtain ⟨z, h1, h2, hin, m2⟩ := exn_at e m
  obtain ⟨y, h3, m3⟩ := on.ex m2
  have n : z.fs ≠ [] := fun e => by rw [e] at h3; cases h3
  obtain ⟨dd, ws, hd, h4, h5⟩ := h2.at_ n
  obtain ⟨v, h6, h7⟩ := h5.look h3
  exact ⟨h1, _, dd, ws, v, h2.1, (hX _ hin).1, (hX _ hin).2, hd, h4, h6, q _ _ α H v m3 Ext.refl w h7⟩
theorem de_xv (K : Frag) {f : Str} {cs : List Str} (hX : ∀ z ∈ cs, XfC K (He.ga K z) ∧ PySem.W.findIn K (.ref (He.ga K z)) f = some none) (hz : Zc c d oe) (hf : ∃ vs, oe.data = .fields vs) (i : Nat) (hN : X.N[i]? = some x := by rfl) (hv : Vis X.env.scope x := by first | exact Or.inl rfl | exact Or.inr (Or.inl rfl) | exact Or.inr (Or.inr rfl))
    (hd : (x == ("__debug__" : Str)) = false := by decide) (hcd : (x == ("__classdict__" : Str)) = false := by decide) (hb : attributeBase (.Name x p) f X.env (eval (.Name x p) X.env) = eval (.Name x p) X.env := by rfl) (hK : X.K = K := by rfl) :
    DE (X.suite a ((a, oe) :: pn)) W (.Attribute (.Name x p) f pos) (tXv K i a c d f) (mXf i a c d cs f) := by subst hK; exact ⟨pe_xv hN hv hz hf hd hcd hb, sim_xv hX⟩
theorem pe_isX1 {y : Expr} {v : V} {u : Value} (hN : X.N[i]? = some x) (hv : Vis X.env.scope x) (hz : Zc c d oe) (hf : ∃ vs, oe.data = .fields vs) (hg : Gl X "isinstance") (hm : X.mg "isinstance" = none) (hy : PE (X.suite a ((a, oe) :: pn)) y (tC v)) (k : ClsV v u)
    (hd : (x == ("__debug__" : Str)) = false := by decide) (hcd : (x == ("__classdict__" : Str)) = false := by decide) (he : starEach [.Name x p1, y] X.env = (false, eval (.Name x p1) X.env) :: starEach [y] X.env := by rfl) (he2 : starEach [y] X.env = (false, eval y X.env) :: starEach [] X.env := by rfl) (hpl : (backTo pos (starEach [y] X.env)).any (·.1) = false := by rfl) :
    PE (X.suite a ((a, oe) :: pn)) (.Call (.Name "isinstance" p) [.Name x p1, y] [] pos) (tIsX X.K i a c d [u] false []) := by
  refine ⟨fun pins s σ H Q I h => ?_⟩
  obtain ⟨h1, C, dd, fs, b, rfl, Z, rfl, h2, h3, q⟩ := h
  have hone : PySem.W.kitOne X.K (.ref C) u = some b := by
    unfold PySem.W.kitAny at h3
    split at h3
    · rename_i z; rw [z]; exact h3
    · rename_i z; rw [z]; exact h3
    · cases h3
  have hvar : PE (X.suite a ((a, oe) :: pn)) (.Name x p1) (tVar i) := pe_var (X := X.suite a ((a, oe) :: pn)) hN hv hd hcd
  have r := pe_callB (X := X.suite a ((a, oe) :: pn)) (p := p) (pos := pos) (call_isX Z hz hf) hg hm (by first | rfl | kernel_rfl) (pa_cons hvar (pa_cons hy pa_nil he2) he) (by decide) (by decide) he hpl
  exact r.run pins s σ H Q I ⟨_, h1, ⟨dd, fs, rfl, h2⟩, v, b, rfl, q, .inl ⟨u, k, hone⟩⟩
def IsT (K : Frag) (us : List Value) (tbl : List (Str × Bool)) : Prop := ∀ z b, tbl.lookup z = some b → L2.ExcC K (He.ga K z) ∧ PySem.W.kitAny K (.ref (He.ga K z)) us = some b
theorem sim_isX {K : Frag} {us : List Value} {tbl : List (Str × Bool)} (hX : IsT K us tbl) {tup : Bool} {vs : List V} (hl : vs.length ≤ 100) : SimE K W (tIsX K i a c d us tup vs) (mIsX i a c d tbl) := by
  intro α s H σ w e R Xp m Q q _
  obtain ⟨z, h1, h2, n, m2⟩ := exn_at e m
  obtain ⟨b, h3, m3⟩ := on.ex m2
  obtain ⟨dd, ws, hd, h4, h5⟩ := h2.at_ n
  refine ⟨h1, _, dd, ws, b, h2.1, (hX _ _ h3).1, hd, h4, (hX _ _ h3).2, ?_⟩
  cases tup with
  | false => exact q _ _ α H _ m3 Ext.refl w rfl
  | true =>
    rw [if_pos rfl]
    exact ⟨by rw [sizeLine_eq]; omega, fun p hp => q _ _ α _ _ m3 (Ext.fresh hp) (w.fresh hp) rfl⟩
theorem de_isX1 (K : Frag) {y : Expr} {v : V} {u : Value} {tbl : List (Str × Bool)} (hX : IsT K [u] tbl) (hz : Zc c d oe) (hf : ∃ vs, oe.data = .fields vs) (hg : Gl X "isinstance") (hm : X.mg "isinstance" = none) (hy : PE (X.suite a ((a, oe) :: pn)) y (tC v)) (k : ClsV v u) (i : Nat) (hN : X.N[i]? = some x := by rfl)
    (hv : Vis X.env.scope x := by first | exact Or.inl rfl | exact Or.inr (Or.inl rfl) | exact Or.inr (Or.inr rfl)) (hd : (x == ("__debug__" : Str)) = false := by decide) (hcd : (x == ("__classdict__" : Str)) = false := by decide)
    (he : starEach [.Name x p1, y] X.env = (false, eval (.Name x p1) X.env) :: starEach [y] X.env := by rfl) (he2 : starEach [y] X.env = (false, eval y X.env) :: starEach [] X.env := by rfl) (hpl : (backTo pos (starEach [y] X.env)).any (·.1) = false := by rfl) (hK : X.K = K := by rfl) :
    DE (X.suite a ((a, oe) :: pn)) W (.Call (.Name "isinstance" p) [.Name x p1, y] [] pos) (tIsX K i a c d [u] false []) (mIsX i a c d tbl) := by subst hK; exact ⟨pe_isX1 hN hv hz hf hg hm hy k hd hcd he he2 hpl, sim_isX hX (by simp)⟩
end
end Mp
set_option Elab.async false
set_option linter.all false
set_option maxRecDepth 100000
set_option maxHeartbeats 4000000
namespace Mp
open PySem PySem.Spec PyProof.Rows L2 HandSPX
abbrev XV : Type := Option (Str × Str × Arguments × FuncBody × Scope × Addr × List Str × Addr)
def xObs (K : Frag) (x : Str) : XV := match K.lookup (He.ma K (He.ga K x) "__init__") with
  | some ⟨_, _, .func fd, _⟩ => some (fd.name, fd.qualname, fd.params, fd.body, fd.scope, fd.globals, fd.closure.map (·.1), fd.builtins)
  | _ => none
structure XcD where
  x : Str
  qual : Str
  st : Stmt
  ns : List Str := ["place"]
def XcD.val (d : XcD) : XV := some ("__init__", d.qual, defArgs d.st, .stmts (defBody d.st), defScope d.st, mainGlobals, ["__class__"], builtinsNs)
def oexB (K : Frag) (C : Addr) : Bool := match K.lookup C with
  | some ⟨.type t, _, .cls cd, sl⟩ => (match cd.mro, sl.toList with
    | .ref C' :: bm, [_, _, _, _, some (.builtin n), _] => decide (t = "type") && (decide (C' = C) && (decide (n = "ValueError.__new__") && (!cd.hasDel && (cd.hasDict && refsVE bm))))
    | _, _ => false)
  | _ => false
theorem oexB_ok {K : Frag} {C : Addr} (h : oexB K C = true) : ∃ nm q N bs bm sn sub ab col dd k0 k1 k2 k3 k5, K.lookup C = some (excClassObj nm q C N bs bm true sn sub ab col dd k0 k1 k2 k3 k5 "ValueError.__new__") ∧ refsVE bm = true := by
  unfold oexB at h
  split at h
  · rename_i t dd cd sl ho
    split at h
    · rename_i C' bm k0 k1 k2 k3 n k5 hm hs
      obtain ⟨h1, h⟩ := He.ba h
      obtain ⟨h2, h⟩ := He.ba h
      obtain ⟨h3, h⟩ := He.ba h
      obtain ⟨h4, h⟩ := He.ba h
      obtain ⟨h5, h6⟩ := He.ba h
      have e1 := of_decide_eq_true h1
      have e2 := of_decide_eq_true h2
      have e3 := of_decide_eq_true h3
      subst e1 e2 e3
      obtain ⟨nm, bs, mro, ns, qn, hd, sn, sub, ab, col, del⟩ := cd
      dsimp only at hm h4 h5
      subst hm h5
      have h4' : del = false := by simpa using h4
      subst h4'
      obtain ⟨l⟩ := sl
      dsimp only at hs
      subst hs
      exact ⟨nm, qn, ns, bs, bm, sn, sub, ab, col, dd, k0, k1, k2, k3, k5, ho, h6⟩
    · cases h
  · cases h
def XcD.tests (P : Program) (K : Frag) (d : XcD) : List Bool :=
  let C := He.ga K d.x
  let f := He.ma K C "__init__"
  [He.eqO (PySem.W.nsIn K mainGlobals d.x) (some (some (.ref C))), oexB K C, He.eqO (PySem.W.findIn K (.ref C) "__setattr__") (some (some (.builtin "object.__setattr__"))), decide (PySem.W.subIn K (.ref C) (.type "BaseException") = some true), decide (PySem.W.typeIn K (.ref C) = some (.type "type")), PySem.W.keepIn K (.ref C),
    xfB K C, He.eqO (PySem.W.findIn K (.ref C) "__class__") (some (some (.builtin "object.__class__"))), decide (PySem.W.specialIn K (.builtin "object.__class__") "__get__" = some (some (.builtin "getset_descriptor.__get__"))), decide (PySem.W.takesIn K (.builtin "object.__class__") = some true), decide (PySem.W.mroIn K C (.type "object") = some true),
    He.eqO (PySem.W.findIn K (.ref C) "__init__") (some (some (.ref f))), decide (PySem.W.typeIn K (.ref f) = some (.type "function")), (d.ns.all fun x => He.eqO (PySem.W.findIn K (.ref C) x) (some none)), He.eqO (PySem.W.nsIn K cStatics "thirdparty.any") (some none),
    He.eqO (PySem.W.ks_superIn K C C "__init__") (some (some (.builtin "ValueError.__init__"))), decide (PySem.W.subIn K (.ref C) (.type "ValueError") = some true), decide (PySem.W.mroIn K C (.ref C) = some true),
    match K.lookup f with
      | some ⟨_, _, .func fd, _⟩ => (PySem.W.codeIn K fd.code d.qual && (match fd.defaults with
        | .none => true
        | _ => false)) && (match fd.code, fd.closure with
        | .ref cda, [(_, cc)] => (match K.lookup cda with
          | some ⟨_, _, .fields vs, _⟩ => (match (vs[2]? : Option Value) with
            | some (Value.str file _) => (P.main.file : Str) == file
            | _ => false)
          | _ => false) && (match K.lookup cc with
            | some ⟨_, _, .cell (some (.ref D)), _⟩ => decide (D = C)
            | _ => false)
        | _, _ => false)
      | _ => false]
theorem XcD.good {P : Program} {K : Frag} {d : XcD} (e : xObs K d.x = d.val) (t : (d.tests P K).all id = true) :
    PySem.W.nsIn K mainGlobals d.x = some (some (.ref (He.ga K d.x))) ∧ XfC K (He.ga K d.x) ∧ L2.ExcC K (He.ga K d.x) ∧ PySem.W.findIn K (.ref (He.ga K d.x)) "__init__" = some (some (.ref (He.ma K (He.ga K d.x) "__init__"))) ∧ PySem.W.typeIn K (.ref (He.ma K (He.ga K d.x) "__init__")) = some (.type "function") ∧
      ∃ cc cda fd, XcOk P K (He.ga K d.x) (He.ma K (He.ga K d.x) "__init__") cc cda d.qual (defArgs d.st) (defBody d.st) (defScope d.st) fd d.ns := by
  unfold XcD.tests at t
  simp only [List.all_cons, List.all_nil, id, Bool.and_true, Bool.and_eq_true] at t
  obtain ⟨t1, t2, t3, t4, t5, t6, t7, t8, t9, t10, t11, t12, t13, t14, t15, t16, t17, t18, t19⟩ := t
  have XC := xfB_ok t7
  refine ⟨He.eqO_ok t1, XC, ⟨XC.ga, XC.gg, XC.exC, XC.hdC, He.eqO_ok t8, of_decide_eq_true t9, of_decide_eq_true t10, of_decide_eq_true t11⟩, He.eqO_ok t12, of_decide_eq_true t13, ?_⟩
  unfold xObs at e
  cases hf : K.lookup (He.ma K (He.ga K d.x) "__init__") with
  | none => rw [hf] at t19; cases t19
  | some o =>
    obtain ⟨oc, od, dt, osl⟩ := o
    rw [hf] at t19 e
    cases dt with
    | func fd =>
      obtain ⟨n1, n2, n3, n4, n5, n6, n7, n8, n9, n10, n11, n12, n13, n14, n15⟩ := fd
      have e2 : (some (n1, n2, n3, n4, n5, n6, n7.map (·.1), n15) : XV) = (some (("__init__" : Str), d.qual, defArgs d.st, FuncBody.stmts (defBody d.st), defScope d.st, mainGlobals, [("__class__" : Str)], builtinsNs) : XV) := e
      simp only [Option.some.injEq, Prod.mk.injEq] at e2
      obtain ⟨g1, g2, g3, g4, g5, g6, g7, g8⟩ := e2
      obtain ⟨d1, c2⟩ := He.ba t19
      obtain ⟨c1', c0⟩ := He.ba d1
      have c1 := c1'
      dsimp only at c0 c1 c2
      cases n8 with
      | none =>
       cases n13 with
       | ref cda =>
         match n7, g7, c2 with
         | [(nm, cc)], g7, c2 =>
           have g7' : nm = ("__class__" : Str) := by simpa using g7
           obtain ⟨c3, c4⟩ := He.ba c2
           refine ⟨cc, cda, _, ⟨⟨oexB_ok t2, He.eqO_ok t3, of_decide_eq_true t4, of_decide_eq_true t5, t6⟩, ⟨oc, od, n9, n10, n11, n12, n14, osl, ?_, hf⟩, c1, ?_, ?_, (fun x hx => He.eqO_ok (List.all_eq_true.mp t14 x hx)), He.eqO_ok t15, He.eqO_ok t16, of_decide_eq_true t17, of_decide_eq_true t18⟩⟩
           · subst g1 g2 g3 g4 g5 g6 g8 g7'
             rfl
           · cases hc : K.lookup cda with
             | none => rw [hc] at c3; cases c3
             | some o2 =>
               obtain ⟨ccl, cdd, dt2, ccs⟩ := o2
               rw [hc] at c3
               cases dt2 with
               | fields vs =>
                 dsimp only at c3
                 cases hv : vs[2]? with
                 | none => rw [hv] at c3; cases c3
                 | some v =>
                   rw [hv] at c3
                   cases v with
                   | str file tf => exact ⟨ccl, cdd, vs, ccs, file, tf, rfl, hv, c3⟩
                   | _ => cases c3
               | _ => cases c3
           · cases hc : K.lookup cc with
             | none => rw [hc] at c4; cases c4
             | some o2 =>
               obtain ⟨ecl, ecd, dt2, ecs⟩ := o2
               rw [hc] at c4
               cases dt2 with
               | cell v =>
                 cases v with
                 | none => cases c4
                 | some v =>
                   cases v with
                   | ref D =>
                     have ed : D = He.ga K d.x := of_decide_eq_true c4
                     subst ed
                     exact ⟨ecl, ecd, ecs, rfl⟩
                   | _ => cases c4
               | _ => cases c4
       | _ => cases c2
      | _ => cases c0
    | _ => cases t19
theorem xc_fN {P : Program} {w : World} {K : Frag} {mg : Str → Option Value} {base h : Heap} {d : XcD} {J : Expr} {rest : List Stmt} {p0 p1 p2 p7 p8 : Pos} {pl : Sem Bool} {Wp : List V → Hp → Prop} {tJ : TA} {tR : TS} (X : K.In h) (G : h.Ns mainGlobals mg) (e : xObs K d.x = d.val) (t : (d.tests P K).all id = true)
    (S : XcSc P (defArgs d.st) (defScope d.st) d.ns) (hb : defBody d.st = xBody J rest p0 p1 p2 p7 p8) (hmg : mg "super" = none)
    (hsw1 : ∀ env : Env, swapsWith (xCall J p0 p1 p2 p7) none p8.line env = pure false)
    (hj : ∀ env : Env, eval (xCall J p0 p1 p2 p7) env = (do
      let ov ← attributeBase (.Call (.Name "super" p0) [] [] p1) "__init__" env (eval (.Call (.Name "super" p0) [] [] p1) env)
      standAt p2.atName
      let (f, first) ← holding [ov] (getMethod ov "__init__" pl)
      callWith p7 f first (backTo p7 (starEach [J] env)) []))
    (hst : ∀ env : Env, starEach [J] env = (false, eval J env) :: starEach [] env)
    (hJ : ∀ (f cda cc : Addr) (A : Around) (outer : List Env) (s : Shared) (H : Hp) (E : XK), Room 0 (A.deeper (PySem.W.ksEnv d.qual (defScope d.st) s.heap.objs.size f (.ref cda) cc)) → PA (cxX P w K mg base d.ns (PySem.W.ksEnv d.qual (defScope d.st) s.heap.objs.size f (.ref cda) cc) A outer s H E) [J] tJ)
    (hJq : ∀ (a : Addr) (ws : List V) (H : Hp), ws.length = d.ns.length → Wp ws H → tJ (some (.ref a) :: ws.map some) H fun vs H1 => H1 = H ∧ vs.length = 1)
    (hR : ∀ (f cda cc : Addr) (A : Around) (outer : List Env) (s : Shared) (H : Hp) (E : XK), PSs (cxX P w K mg base d.ns (PySem.W.ksEnv d.qual (defScope d.st) s.heap.objs.size f (.ref cda) cc) A outer s H E) rest tR)
    (hRq : OexC K (He.ga K d.x) → (∀ x ∈ d.ns, PySem.W.findIn K (.ref (He.ga K d.x)) x = some none) → ∀ (a : Addr) (ws : List V) (H : Hp) (Q : VK), ws.length = d.ns.length → H a = some (exo a (He.ga K d.x) none) → (∀ dx, H dx = none → dx ≠ a → Q .non (upd (upd H dx (exd dx (d.ns.zip ws).reverse)) a (exo a (He.ga K d.x) (some dx)))) →
      tR { nx := fun _ H' => Q .non H', rt := Q, bk := fun _ _ => False, ct := fun _ _ => False } (some (.ref a) :: ws.map some) H)
    (hbind : ∀ (kV doc pm : Value) (an : Option Addr) (cdv ct : Value) (cc : Addr) (us : List Value), us.length = d.ns.length + 1 → bindArgs (PySem.W.ksFn "__init__" d.qual (defArgs d.st) (defBody d.st) (defScope d.st) .none kV doc pm an cdv ct cc) ⟨us, []⟩ = pure ((("self" : Str) :: d.ns).zip us)) :
    XcFN P w K mg base d.x d.ns Wp := by
  obtain ⟨g1, g2, g3, g4, g5, cc, cda, fd, Z⟩ := XcD.good e t
  refine ⟨Z.ox, PySem.W.mg_of X G g1, _, fd, g4, g5, fn_xinitN Z S hb hmg hsw1 hj hst (hJ _ _ _) hJq (hR _ _ _) (hRq Z.ox Z.pl), ?_⟩
  obtain ⟨_, _, kV, doc, pm, an, ct, _, ef, _⟩ := Z.fn
  subst ef
  exact .all fun us hl => hbind _ _ _ _ _ _ _ us (by simpa using hl)
theorem xr_one {K : Frag} {C : Addr} {x : Str} (ox : OexC K C) (pl : ∀ y ∈ ([x] : List Str), PySem.W.findIn K (.ref C) y = some none) (a : Addr) (ws : List V) (H : Hp) (Q : VK) (hl : ws.length = ([x] : List Str).length) (ha : H a = some (exo a C none))
    (hq : ∀ dx, H dx = none → dx ≠ a → Q .non (upd (upd H dx (exd dx (([x] : List Str).zip ws).reverse)) a (exo a C (some dx)))) :
    tOst K x (tVar 0) (tVar 1) { nx := fun _ H' => Q .non H', rt := Q, bk := fun _ _ => False, ct := fun _ _ => False } (some (.ref a) :: ws.map some) H := by
  match ws, hl with
  | [v], _ => exact ⟨_, rfl, _, rfl, a, C, rfl, ox, pl x (by simp), .inl ⟨ha, hq⟩⟩
theorem xr_two {K : Frag} {C : Addr} {x y : Str} (ox : OexC K C) (pl : ∀ z ∈ ([x, y] : List Str), PySem.W.findIn K (.ref C) z = some none) (a : Addr) (ws : List V) (H : Hp) (Q : VK) (hl : ws.length = ([x, y] : List Str).length) (ha : H a = some (exo a C none))
    (hq : ∀ dx, H dx = none → dx ≠ a → Q .non (upd (upd H dx (exd dx (([x, y] : List Str).zip ws).reverse)) a (exo a C (some dx)))) :
    tSeq (tOst K x (tVar 0) (tVar 1)) (tOst K y (tVar 0) (tVar 2)) { nx := fun _ H' => Q .non H', rt := Q, bk := fun _ _ => False, ct := fun _ _ => False } (some (.ref a) :: ws.map some) H := by
  match ws, hl with
  | [v, u], _ =>
    refine ⟨_, rfl, _, rfl, a, C, rfl, ox, pl x (by simp), .inl ⟨ha, fun dx hd hne => ⟨_, rfl, _, rfl, a, C, rfl, ox, pl y (by simp), .inr ⟨dx, _, upd_same, by rw [upd_ne hne, upd_same], by simp, ?_⟩⟩⟩⟩
    have e : upd (upd (upd H dx (exd dx [(x, v)])) a (exo a C (some dx))) dx (exd dx [(y, u), (x, v)]) = upd (upd H dx (exd dx [(y, u), (x, v)])) a (exo a C (some dx)) := by
      funext b
      by_cases hb : b = dx
      · rw [hb, upd_same, upd_ne hne, upd_same]
      · rw [upd_ne hb]
        by_cases hb2 : b = a
        · rw [hb2, upd_same, upd_same]
        · rw [upd_ne hb2, upd_ne hb, upd_ne hb2, upd_ne hb]
    show Q .non _
    rw [e]
    exact hq dx hd hne
def tJd (ts : List TE) : TE := fun σ H Q => tJs ts Str.empty σ H fun out H1 => Q (.str out) H1
theorem xj_int {lit : Str} (hlit : lit.length ≤ 1000) (a : Addr) (ws : List V) (H : Hp) (hw : W1 ws H) : tCons (tJd [tC (.str lit), tFmt (tVar 1)]) tNil (some (.ref a) :: ws.map some) H fun vs H1 => H1 = H ∧ vs.length = 1 := by
  obtain ⟨n, rfl, hlog⟩ := hw
  refine ⟨lit, rfl, ?_, .int n, rfl, .inr ⟨n, rfl, hlog, _, rfl, ?_, rfl, rfl⟩⟩
  · rw [sizeLine_eq]
    simp only [Str.length_append]
    show 0 + _ ≤ _
    omega
  · have := int_text_len_1921 hlog
    rw [sizeLine_eq]
    simp only [Str.length_append]
    show 0 + _ + _ ≤ _
    omega
theorem xc_p {P : Program} {K : Frag} {d : XcD} (e : xObs K d.x = d.val) (t : (d.tests P K).all id = true) : (XfC K (He.ga K d.x) ∧ ∀ y ∈ d.ns, PySem.W.findIn K (.ref (He.ga K d.x)) y = some none) ∧ L2.ExcC K (He.ga K d.x) := by
  obtain ⟨_, g2, g3, _, _, cc, cda, fd, Z⟩ := XcD.good e t
  exact ⟨⟨g2, Z.pl⟩, g3⟩
abbrev AlX : Type := Bool × (List He.FnW × List XV)
def obsX (P : Program) (fa : List He.Fa) (fn : List He.DefD) (xs : List XcD) (bs : List (Frag → Bool)) (K : Frag) : AlX :=
  ((fa.all fun f => f.ok K) && ((fn.all fun d => d.ok K) && ((xs.all fun d => (d.tests P K).all id) && bs.all fun b => b K)), (fn.map fun d => He.fnW K d.at_, xs.map fun d => xObs K d.x))
def valX (fn : List He.DefD) (xs : List XcD) : AlX := (true, (fn.map He.DefD.val, xs.map XcD.val))
def SaysX (P : Program) (fa : List He.Fa) (fn : List He.DefD) (xs : List XcD) (bs : List (Frag → Bool)) (K : Frag) : Prop := obsX P fa fn xs bs K = valX fn xs
section
variable {P : Program} {fa : List He.Fa} {fn : List He.DefD} {xs : List XcD} {bs : List (Frag → Bool)} {K : Frag}
theorem SaysX.all_ (c : SaysX P fa fn xs bs K) : ((fa.all fun f => f.ok K) && ((fn.all fun d => d.ok K) && ((xs.all fun d => (d.tests P K).all id) && bs.all fun b => b K))) = true := congrArg (fun z : AlX => z.1) c
theorem SaysX.fact (c : SaysX P fa fn xs bs K) (i : Nat) {f : He.Fa} (h : fa[i]? = some f := by rfl) : f.ok K = true := List.all_eq_true.mp (He.ba c.all_).1 f (List.mem_of_getElem? h)
theorem SaysX.test (c : SaysX P fa fn xs bs K) (i : Nat) {b : Frag → Bool} (h : bs[i]? = some b := by rfl) : b K = true := List.all_eq_true.mp (He.ba (He.ba (He.ba c.all_).2).2).2 b (List.mem_of_getElem? h)
theorem SaysX.def_ (c : SaysX P fa fn xs bs K) (i : Nat) {d : He.DefD} (h : fn[i]? = some d := by rfl) : ∃ fd, FunD K d.name d.qual d.params d.body d.scope (d.dvs K) (d.kws K) (He.fAd K d.at_) fd := by
  have e : fn.map (fun d => He.fnW K d.at_) = fn.map He.DefD.val := congrArg (fun z : AlX => z.2.1) c
  have q := congrArg (fun l => l[i]?) e
  simp only [List.getElem?_map, h, Option.map_some] at q
  exact He.DefD.funD (Option.some.inj q) (List.all_eq_true.mp (He.ba (He.ba c.all_).2).1 d (List.mem_of_getElem? h))
theorem SaysX.xc (c : SaysX P fa fn xs bs K) (i : Nat) {d : XcD} (h : xs[i]? = some d := by rfl) : xObs K d.x = d.val ∧ (d.tests P K).all id = true := by
  have e : xs.map (fun d => xObs K d.x) = xs.map XcD.val := congrArg (fun z : AlX => z.2.2) c
  have q := congrArg (fun l => l[i]?) e
  simp only [List.getElem?_map, h, Option.map_some] at q
  exact ⟨Option.some.inj q, List.all_eq_true.mp (He.ba (He.ba (He.ba c.all_).2).2).1 d (List.mem_of_getElem? h)⟩
end
def exT (x : Str) (tbl : List (Str × Bool)) : Frag → Bool := fun K => tbl.all fun p => decide (PySem.W.exmOne K (.ref (He.ga K p.1)) (.ref (He.ga K x)) = some p.2)
inductive Cn where
  | own (x : Str) | ty (n : String)
def Cn.u (K : Frag) : Cn → Value
  | .own x => .ref (He.ga K x)
  | .ty n => .type n
def isT (cs : List Cn) (tbl : List (Str × Bool)) : Frag → Bool := fun K => tbl.all fun p => decide (PySem.W.kitAny K (.ref (He.ga K p.1)) (cs.map (Cn.u K)) = some p.2)
theorem mem_look {tbl : List (Str × Bool)} {z : Str} {b : Bool} (h : tbl.lookup z = some b) : (z, b) ∈ tbl := by
  induction tbl with
  | nil => cases h
  | cons p r ih =>
    obtain ⟨x, c⟩ := p
    by_cases e : z = x
    · subst e
      have : c = b := by simpa [List.lookup] using h
      subst this
      exact List.mem_cons_self ..
    · have q : (z == x) = false := by simpa using e
      exact List.mem_cons_of_mem _ (ih (by simpa [List.lookup, q] using h))
theorem exT_ok {K : Frag} {x : Str} {tbl : List (Str × Bool)} (h : exT x tbl K = true) : ∀ z b, tbl.lookup z = some b → PySem.W.exmOne K (.ref (He.ga K z)) (.ref (He.ga K x)) = some b := fun z b e =>
  of_decide_eq_true (List.all_eq_true.mp h (z, b) (mem_look e))
theorem isT_ok {K : Frag} {cs : List Cn} {tbl : List (Str × Bool)} (h : isT cs tbl K = true) (hx : ∀ z b, tbl.lookup z = some b → L2.ExcC K (He.ga K z)) : IsT K (cs.map (Cn.u K)) tbl := fun z b e =>
  ⟨hx z b e, of_decide_eq_true (List.all_eq_true.mp h (z, b) (mem_look e))⟩
end Mp
set_option Elab.async false
set_option linter.all false
set_option maxRecDepth 100000
set_option maxHeartbeats 4000000
namespace Mp
open PySem PySem.Spec PyProof.Rows L2
section
variable {hp : List O} {env : List (Option S)} {n : Nat} {R : S → List O → Prop} {Xp : MX} {Ma : ME} {Sb : MS} {nx bk ct : PS → Prop} {rt : S → List O → Prop} {ex : MX}
@[simp ↓] theorem x_raiseN {c : Str} {ns : List Str} {Wd : List D → Prop} {La : MA} : mRaiseN c ns Wd La ⟨hp, env, n⟩ ⟨nx, bk, ct, rt, ex⟩ = La ⟨hp, env, n⟩ (fun ss hp' => onH (allD ss) (fun ds => ds.length = ns.length ∧ ds.length ≤ 1000 ∧ Wd ds ∧ ex ⟨c, (ns.zip ds).reverse⟩ hp') .mk) ex := nr rfl
@[simp ↓] theorem x_try {N : Nat} {l : List HdM} : mTry N l Sb ⟨hp, env, n⟩ ⟨nx, bk, ct, rt, ex⟩ = Sb ⟨hp, env, n⟩ ⟨nx, bk, ct, rt, mHs N ⟨nx, bk, ct, rt, ex⟩ n l⟩ := nr rfl
@[simp ↓] theorem x_hsN {N : Nat} {k : MK} {x : Exn} : mHs N k n [] x hp = k.ex x hp := nr rfl
@[simp ↓] theorem x_hsC {N : Nat} {tbl : List (Str × Bool)} {i : Nat} {ms : Addr → Value → Option Addr → MS} {l : List HdM} {c : Str} {fs : List (Str × D)} : mHs N ⟨nx, bk, ct, rt, ex⟩ n (⟨tbl, some i, ms⟩ :: l) ⟨c, fs⟩ hp =
  onH (tbl.lookup c) (fun b => brH b (∀ (a : Addr) (cv : Value) (d : Option Addr), ms a cv d ⟨hp, (List.replicate N none).set i (some (.exn a cv d ⟨c, fs⟩)), n⟩
    ⟨fun s => nx { s with env := s.env.set i none }, fun s => bk { s with env := s.env.set i none }, fun s => ct { s with env := s.env.set i none }, rt, fun _ _ => False⟩) (mHs N ⟨nx, bk, ct, rt, ex⟩ n l ⟨c, fs⟩ hp) .mk) .mk := nr rfl
@[simp ↓] theorem x_hsA {N : Nat} {tbl : List (Str × Bool)} {ms : Addr → Value → Option Addr → MS} {l : List HdM} {c : Str} {fs : List (Str × D)} : mHs N ⟨nx, bk, ct, rt, ex⟩ n (⟨tbl, none, ms⟩ :: l) ⟨c, fs⟩ hp =
  onH (tbl.lookup c) (fun b => brH b (∀ (a : Addr) (cv : Value) (d : Option Addr), ms a cv d ⟨hp, List.replicate N none, n⟩ ⟨nx, bk, ct, rt, fun _ _ => False⟩) (mHs N ⟨nx, bk, ct, rt, ex⟩ n l ⟨c, fs⟩ hp) .mk) .mk := nr rfl
def exO : Option (Option S) → Option (Addr × Value × Option Addr × Exn)
  | some (some (.exn a c d x)) => some (a, c, d, x)
  | _ => none
@[simp] theorem exO_some {a : Addr} {c : Value} {d : Option Addr} {x : Exn} : exO (some (some (.exn a c d x))) = some (a, c, d, x) := rfl
@[simp ↓] theorem x_isX {i : Nat} {a : Addr} {c : Value} {d : Option Addr} {tbl : List (Str × Bool)} : mIsX i a c d tbl ⟨hp, env, n⟩ R Xp = onH (exO env[i]?) (fun q => q.1 = a ∧ q.2.1 = c ∧ q.2.2.1 = d ∧ q.2.2.2.fs ≠ [] ∧ onH (tbl.lookup q.2.2.2.cls) (fun b => R (.d (.bl b)) hp) .mk) .mk := by
  show (match env[i]? with | some (some (.exn a' c' d' x)) => _ | _ => False) = on (exO env[i]?) _
  rcases env[i]? with _ | _ | s
  · rfl
  · rfl
  · cases s <;> rfl
@[simp ↓] theorem x_xf {i : Nat} {a : Addr} {c : Value} {d : Option Addr} {cs : List Str} {f : Str} : mXf i a c d cs f ⟨hp, env, n⟩ R Xp = onH (exO env[i]?) (fun q => q.1 = a ∧ q.2.1 = c ∧ q.2.2.1 = d ∧ q.2.2.2.cls ∈ cs ∧ onH (q.2.2.2.fs.lookup f) (fun y => R (.d y) hp) .mk) .mk := by
  show (match env[i]? with | some (some (.exn a' c' d' x)) => _ | _ => False) = on (exO env[i]?) _
  rcases env[i]? with _ | _ | s
  · rfl
  · rfl
  · cases s <;> rfl
@[simp] theorem look_first {f : Str} {y : D} {r : List (Str × D)} : List.lookup f ((f, y) :: r) = some y := by simp [List.lookup]
end
end Mp
set_option Elab.async false
set_option linter.all false
set_option maxRecDepth 100000
set_option maxHeartbeats 4000000
namespace Mp
open PySem PySem.Spec PyProof.Rows L2
def mMulM (Ma Mb : ME) : ME := fun s R Xp => Ma s (fun x hp1 => Mb { s with hp := hp1 } (fun y hp2 => on (val hp2 x) fun d1 => on (val hp2 y) fun d2 => on (lstD d1) fun xs => on (asI d2) fun k => -(2 ^ 63) ≤ k ∧ k < 2 ^ 63 ∧ xs.length * k.toNat ≤ sizeLine ∧ R (.mu hp2.length) (hp2 ++ [.lst (List.flatten (List.replicate k.toNat xs))])) Xp) Xp
theorem sim_mulM {K : Frag} {W : WX} {ta tb : TE} {Ma Mb : ME} (ha : SimE K W ta Ma) (hb : SimE K W tb Mb) : SimE K W (tOp rMulA ta tb) (mMulM Ma Mb) := by
  intro α s H σ w e R Xp m Q q qx
  refine ha α s H σ w e _ _ m _ (fun x hp1 α1 H1 v1 m1 e1 w1 r1 => ?_) qx
  refine hb α1 { s with hp := hp1 } H1 σ w1 (e.mono e1) _ _ m1 _ (fun y hp2 α2 H2 v2 m2 e2 w2 r2 => ?_) (qx.at e1)
  obtain ⟨d1, g1, m2⟩ := on.ex m2
  obtain ⟨d2, g2, m2⟩ := on.ex m2
  obtain ⟨xs, g3, m3⟩ := on.ex m2
  obtain ⟨k, g4, hk1, hk2, hz, m4⟩ := on.ex m3
  have t1 := (r1.mono e2).val w2 g1
  have t2 := (r2.val w2 g2).asI g4
  cases d1 with
  | lst ys =>
    cases g3
    subst t2
    obtain ⟨a, vs, ev, h1, r⟩ := t1
    refine .inr (.inr (.inl ⟨a, k, vs, ev, rfl, h1, hk1, hk2, by rw [← r.length]; exact hz, fun l hl => ?_⟩))
    obtain ⟨α3, w3, e3, r3⟩ := new_mu w2 hl (r.flat _)
    exact q _ _ α3 _ _ m4 ((e1.trans e2).trans e3) w3 r3
  | _ => cases g3
section
variable {X : Cx} {W : WX} {a b : Expr} {pos : Pos} {ta tb : TE} {Ma Mb : ME}
theorem de_mulM (ha : DE X W a ta Ma) (hb : DE X W b tb Mb) : DE X W (.BinOp a .Mult b pos) (tOp rMulA ta tb) (mMulM Ma Mb) := ⟨pe_op op_mulA ha.p hb.p, sim_mulM ha.s hb.s⟩
end
@[simp ↓] theorem x_mulM {hp : List O} {env : List (Option S)} {n : Nat} {R : S → List O → Prop} {Xp : MX} {Ma Mb : ME} : mMulM Ma Mb ⟨hp, env, n⟩ R Xp = Ma ⟨hp, env, n⟩ (fun x hp1 => Mb ⟨hp1, env, n⟩ (fun y hp2 => onH (val hp2 x) (fun d1 => onH (val hp2 y) (fun d2 => onH (lstD d1) (fun xs => onH (asI d2) (fun k =>
  -(2 ^ 63) ≤ k ∧ k < 2 ^ 63 ∧ xs.length * k.toNat ≤ sizeLine ∧ R (.mu hp2.length) (hp2 ++ [.lst (List.flatten (List.replicate k.toNat xs))])) .mk) .mk) .mk) .mk) Xp) Xp := nr rfl
end Mp
set_option Elab.async false
set_option linter.all false
set_option maxRecDepth 100000
set_option maxHeartbeats 4000000
namespace Mp
open PySem PySem.Spec PyProof.Rows L2
section
variable {X : Cx} {CX : CXT} {k n : Nat} {f : Addr} {fd : FuncData} {ps ks : List Str} {sp : Sp} {E : L2.St → XK} {x : Str} {p pos : Pos} {e : Expr} {es : List Expr} {kws : List Keyword} {t tk : TA} {g : List Value → List Value → List Value} {gV : List V → List V → List V}
end
structure DK (X : Cx) (W : WX) (kws : List Keyword) (t : TA) (M : MA) : Prop where
  p : PK X kws t
  s : SimA X.K W t M
section
variable {X : Cx} {W : WX} {e : Expr} {es : List Expr} {kws : List Keyword} {nm : Str} {pos kpos : Pos} {te : TE} {t tk : TA} {Me : ME} {Ma Mk : MA}
end
end Mp
set_option Elab.async false
set_option linter.all false
set_option maxRecDepth 100000
set_option maxHeartbeats 4000000
namespace Mp
open PySem PySem.Spec PyProof.Rows L2
section
variable {P : D → Prop}
@[simp] theorem flatD_int {i : Int} : flatD (.int i) = true := rfl
@[simp] theorem flatD_bl {i : Bool} : flatD (.bl i) = true := rfl
@[simp] theorem flatD_str {i : Str} : flatD (.str i) = true := rfl
@[simp] theorem flatD_non : flatD .non = true := rfl
@[simp ↓] theorem xfIn_i {neg : Bool} {i : Int} {c : D} : fIn neg (.int i) c P = onH (items c) (fun ds => ds.all flatD = true ∧ P (.bl (if neg then !inD (.int i) ds else inD (.int i) ds))) .mk := by
  show (on (asS (.int i)) _ ∨ on (items c) _) = on (items c) _
  simp [asS, flatD]
@[simp ↓] theorem xfIn_st {neg : Bool} {x : Str} {ds : List D} : fIn neg (.str x) (.tup ds) P = (ds.all flatD = true ∧ P (.bl (if neg then !inD (.str x) ds else inD (.str x) ds))) := by
  show (on (asS (.str x)) (fun i => on (asS (.tup ds)) _) ∨ on (items (.tup ds)) _) = _
  simp [asS, flatD]
@[simp ↓] theorem xfIn_sf {neg : Bool} {x : Str} {ds : List D} : fIn neg (.str x) (.fl ds) P = (ds.all flatD = true ∧ P (.bl (if neg then !inD (.str x) ds else inD (.str x) ds))) := by
  show (on (asS (.str x)) (fun i => on (asS (.fl ds)) _) ∨ on (items (.fl ds)) _) = _
  simp [asS, flatD]
@[simp ↓] theorem xfIn_sl {neg : Bool} {x : Str} {ds : List D} : fIn neg (.str x) (.lst ds) P = (ds.all flatD = true ∧ P (.bl (if neg then !inD (.str x) ds else inD (.str x) ds))) := by
  show (on (asS (.str x)) (fun i => on (asS (.lst ds)) _) ∨ on (items (.lst ds)) _) = _
  simp [asS, flatD]
end
section
variable {hp : List O} {env : List (Option S)} {c : Nat}
@[simp ↓] theorem x_gTup {n : Nat} {Gs : List D → PS → (PS → Prop) → Prop} {v : S} {N : PS → Prop} : mgTup n Gs v ⟨hp, env, c⟩ N = onH (isD v) (fun d => onH (asTup d) (fun ds => ds.length = n ∧ Gs ds ⟨hp, env, c⟩ N) .mk) .mk := nr rfl
@[simp ↓] theorem x_gsCons {G : MG} {Gs : List D → PS → (PS → Prop) → Prop} {d : D} {r : List D} {N : PS → Prop} : mgsCons G Gs (d :: r) ⟨hp, env, c⟩ N = G (.d d) ⟨hp, env, c⟩ (fun s1 => Gs r s1 N) := nr rfl
@[simp ↓] theorem x_gsNil {N : PS → Prop} : mgsNil [] ⟨hp, env, c⟩ N = N ⟨hp, env, c⟩ := nr rfl
@[simp] theorem x_isD {d : D} : isD (.d d) = some d := rfl
@[simp] theorem x_asTup {ds : List D} : asTup (.tup ds) = some ds := rfl
@[simp] theorem at_0 {τ : Type} {x : τ} {r : List τ} : atI (x :: r) 0 = some x := (atI_nat (by omega) (by simp)).trans rfl
@[simp] theorem at_1 {τ : Type} {x y : τ} {r : List τ} : atI (x :: y :: r) 1 = some y := (atI_nat (by omega) (by simp; omega)).trans rfl
@[simp] theorem at_2 {τ : Type} {x y z : τ} {r : List τ} : atI (x :: y :: z :: r) 2 = some z := (atI_nat (by omega) (by simp; omega)).trans rfl
@[simp] theorem at_3 {τ : Type} {x y z t : τ} {r : List τ} : atI (x :: y :: z :: t :: r) 3 = some t := (atI_nat (by omega) (by simp; omega)).trans rfl
end
end Mp
set_option Elab.async false
set_option linter.all false
set_option maxRecDepth 100000
set_option maxHeartbeats 4000000
namespace Mp
open PySem PySem.Spec PyProof.Rows L2
section
variable {X : Cx} {CX : CXT} {k : Nat} {f C : Addr} {fd : FuncData} {ps : List Str} {sp : Sp} {dvs : List V} {ds : List Value} {E : L2.St → XK} {m : Str} {pos apos : Pos} {e o : Expr} {es : List Expr} {ta : TE} {t : TA} {pl : Sem Bool}
end
end Mp
set_option Elab.async false
set_option linter.all false
set_option maxRecDepth 100000
set_option maxHeartbeats 4000000
namespace Mp
open PySem PySem.Spec PyProof.Rows L2
def obO : S → Option (Nat × Nat)
  | .mu n => some (n, 0)
  | .ob n k => some (n, k)
  | _ => none
theorem SRep.obj {K : Frag} {α : Mp_} {hp : List O} {H : Hp} {s : S} {v : V} {n k : Nat} (r : SRep K α hp H s v) (h : obO s = some (n, k)) : ∃ (p : Addr × List Addr) (a : Addr), α.own[n]? = some p ∧ (adr p)[k]? = some a ∧ v = .ref a := by
  cases s with
  | mu m => cases h; obtain ⟨p, h1, h2⟩ := r; exact ⟨p, p.1, h1, rfl, h2⟩
  | ob m j => cases h; obtain ⟨p, a, h1, h2, h3⟩ := r; exact ⟨p, a, h1, h2, h3⟩
  | d _ => cases h
  | exn _ _ _ _ => cases h
def regO : O → Option (List Gn)
  | .reg gs => some gs
  | .lst ds => some [.lst (ds.map .d)]
  | _ => none
def regAt (hp : List O) (n : Nat) : Option (List Gn) := match hp[n]? with
  | some o => regO o
  | none => none
theorem regAt_some {hp : List O} {n : Nat} {gs : List Gn} (h : regAt hp n = some gs) : ∃ o, hp[n]? = some o ∧ regO o = some gs ∧ o ≠ .gone := by
  unfold regAt at h
  cases g : hp[n]? with
  | none => rw [g] at h; cases h
  | some o => rw [g] at h; exact ⟨o, rfl, h, fun z => by subst z; cases h⟩
theorem RepNL.of_ds {K : Frag} {A : Av} {H : Hp} {as : List Addr} : ∀ {ds : List D} {vs : List V}, RepL K A H ds vs → RepNL K A H as (ds.map .d) vs
  | [], _, h => by cases h; exact .nil
  | d :: ds, _, ⟨v, r, e, h, t⟩ => by subst e; exact .cons h (RepNL.of_ds t)
theorem OR.regs {K : Frag} {A : Av} {H : Hp} {p : Addr × List Addr} {o : O} {gs : List Gn} (h : OR K A H p o) (e : regO o = some gs) : (adr p).length = gs.length ∧ ∀ (k : Nat) (g : Gn) (a : Addr), gs[k]? = some g → (adr p)[k]? = some a → GR K A H (adr p) a g := by
  cases o with
  | reg gs' => cases e; exact h
  | lst ds =>
    cases e
    obtain ⟨e2, vs, h1, r⟩ := h
    refine ⟨by simp [adr, e2], fun k g a h3 h4 => ?_⟩
    cases k with
    | zero => cases h3; cases h4; exact ⟨vs, h1, RepNL.of_ds r⟩
    | succ k => cases h3
  | dct _ => cases e
  | dtp _ => cases e
  | tbl _ => cases e
  | gone => cases e
theorem WOk.regs {K : Frag} {α : Mp_} {hp : List O} {H : Hp} (w : WOk K α hp H) {n : Nat} {gs : List Gn} {p : Addr × List Addr} (h : regAt hp n = some gs) (hp' : α.own[n]? = some p) : (adr p).length = gs.length ∧ ∀ (k : Nat) (g : Gn) (a : Addr), gs[k]? = some g → (adr p)[k]? = some a → GR K (Al α hp) H (adr p) a g := by
  obtain ⟨o, h1, h2, _⟩ := regAt_some h
  exact (w.obj n o p h1 hp').regs h2
theorem adr_ne {p : Addr × List Addr} (h : p.1 ∉ p.2 ∧ p.2.Nodup) {i j : Nat} {a b : Addr} (hi : (adr p)[i]? = some a) (hj : (adr p)[j]? = some b) (n : i ≠ j) : a ≠ b := by
  intro e
  subst e
  have nd : (adr p).Nodup := List.nodup_cons.mpr h
  obtain ⟨h1, h2⟩ := List.getElem?_eq_some_iff.mp hi
  obtain ⟨h3, h4⟩ := List.getElem?_eq_some_iff.mp hj
  exact n ((List.getElem_inj nd).mp (h2.trans h4.symm))
theorem WOk.putA {K : Frag} {α : Mp_} {hp : List O} {H : Hp} {n : Nat} {o o' : O} {p : Addr × List Addr} {a : Addr} {x : HO} (w : WOk K α hp H) (h : hp[n]? = some o) (hg : o ≠ .gone) (ha : α.own[n]? = some p) (hg' : o' ≠ .gone) (hm : a = p.1 ∨ a ∈ p.2)
    (ho : StepW α hp H α (hp.set n o') (upd H a x) → OR K (Al α (hp.set n o')) (upd H a x) p o') : WOk K α (hp.set n o') (upd H a x) ∧ Ext α hp H α (hp.set n o') (upd H a x) := by
  have hn : n < hp.length := (List.getElem?_eq_some_iff.mp h).1
  have mt : ∀ a, Mt α (hp.set n o') a → Mt α hp a := fun a ⟨m, q, u, h1, h2, h3, h4⟩ => by
    rcases set_get h2 with ⟨e, _⟩ | ⟨_, h2⟩
    · subst e
      exact ⟨n, q, o, h1, h, hg, h4⟩
    · exact ⟨m, q, u, h1, h2, h3, h4⟩
  have al : ∀ a, Al α (hp.set n o') a → Al α hp a := fun a z => z.imp (mt a) id
  have hp1 : Mt α hp a := ⟨n, p, o, ha, h, hg, hm⟩
  have st : StepW α hp H α (hp.set n o') (upd H a x) := ⟨fun b u e z => by
    have : b ≠ a := fun y => by subst y; exact z hp1
    rw [upd_ne this]; exact e, fun a z => .inl (al a z), fun a z => .inl (mt a z), al_sub, stay_upd⟩
  refine ⟨⟨by rw [List.length_set]; exact w.len, fun m u q h1 h2 => ?_, fun m u q h1 h2 hz => ?_, fun m k u u' q q' h1 h2 h3 h4 h5 h6 hne b hx hy => ?_, fun b hb => ?_⟩, ⟨Pre.refl _, st, fun _ _ h e => (at_none h e).elim⟩⟩
  · rcases set_get h1 with ⟨e, e'⟩ | ⟨e, h1⟩
    · subst e e'
      rw [ha] at h2
      cases h2
      exact ho st
    · refine (w.obj m u q h1 h2).mono st fun hz b hb => ?_
      rw [upd_ne fun y => ?_]
      subst y
      exact w.inj n m o u p q h ha hg h1 h2 hz e _ hm hb
  · rcases set_get h1 with ⟨e, e'⟩ | ⟨e, h1⟩
    · subst e
      exact w.one n o q h h2 hg
    · exact w.one m u q h1 h2 hz
  · have f : ∀ {m : Nat} {u : O}, (hp.set n o')[m]? = some u → u ≠ .gone → ∃ u', hp[m]? = some u' ∧ u' ≠ .gone := fun {m u} h1 hz => by
      rcases set_get h1 with ⟨e, e'⟩ | ⟨e, h1⟩
      · subst e; exact ⟨o, h, hg⟩
      · exact ⟨u, h1, hz⟩
    obtain ⟨v, g1, g2⟩ := f h1 h3
    obtain ⟨v', g3, g4⟩ := f h4 h6
    exact w.inj m k v v' q q' g1 h2 g2 g3 h5 g4 hne b hx hy
  · obtain ⟨⟨y, hy⟩, hm⟩ := w.ban b hb
    obtain ⟨z, hz⟩ := st.stay b y hy
    exact ⟨⟨z, hz⟩, fun z => hm (mt b z)⟩
theorem WOk.putG {K : Frag} {α : Mp_} {hp : List O} {H : Hp} {n k : Nat} {gs : List Gn} {g g' : Gn} {p : Addr × List Addr} {a : Addr} {x : HO} (w : WOk K α hp H) (h : regAt hp n = some gs) (hk : gs[k]? = some g) (hp' : α.own[n]? = some p) (ha : (adr p)[k]? = some a)
    (ho : StepW α hp H α (hp.set n (.reg (gs.set k g'))) (upd H a x) → GR K (Al α (hp.set n (.reg (gs.set k g')))) (upd H a x) (adr p) a g') : WOk K α (hp.set n (.reg (gs.set k g'))) (upd H a x) ∧ Ext α hp H α (hp.set n (.reg (gs.set k g'))) (upd H a x) := by
  obtain ⟨o, h1, h2, h3⟩ := regAt_some h
  obtain ⟨l, r⟩ := w.regs h hp'
  have one := w.one n o p h1 hp' h3
  refine w.putA h1 h3 hp' (fun z => by cases z) (List.mem_cons.mp (List.mem_iff_getElem?.mpr ⟨k, ha⟩)) fun st => ⟨by rw [List.length_set]; exact l, fun j u b hu hb => ?_⟩
  rcases set_get hu with ⟨e, e'⟩ | ⟨e, hu⟩
  · subst e e'
    rw [ha] at hb
    cases hb
    exact ho st
  · exact (r j u b hu hb).mono st (fun _ _ h => h) (upd_ne (adr_ne one hb ha (Ne.symm e)))
def shN (c : Nat) : Nd → Nd
  | .d x => .d x
  | .nd k => .nd (k + c)
def shG (c : Nat) : Gn → Gn
  | .lst xs => .lst (xs.map (shN c))
  | .ins C fs => .ins C (fs.map fun x => (x.1, shN c x.2))
  | .tup xs => .tup (xs.map (shN c))
  | .dct kvs => .dct (kvs.map fun x => (x.1, shN c x.2))
theorem RepN.sh {K : Frag} {A : Av} {H : Hp} {as bs : List Addr} {c : Nat} (l : ∀ (k : Nat) (a : Addr), as[k]? = some a → bs[k + c]? = some a) : ∀ {x : Nd} {v : V}, RepN K A H as x v → RepN K A H bs (shN c x) v
  | .d _, _, h => h
  | .nd k, _, ⟨a, h, e⟩ => ⟨a, l k a h, e⟩
theorem paired_map {τ σ ρ : Type} {P : τ → σ → Prop} {Q : ρ → σ → Prop} {f : τ → ρ} (h : ∀ x y, P x y → Q (f x) y) : ∀ {xs : List τ} {ys : List σ}, Paired P xs ys → Paired Q (xs.map f) ys
  | _, _, .nil => .nil
  | _, _, .cons p r => .cons (h _ _ p) (paired_map h r)
theorem GR.sh {K : Frag} {A : Av} {H : Hp} {as bs : List Addr} {c : Nat} (l : ∀ (k : Nat) (a : Addr), as[k]? = some a → bs[k + c]? = some a) {a : Addr} : ∀ {g : Gn}, GR K A H as a g → GR K A H bs a (shG c g)
  | .lst _, ⟨vs, h, r⟩ => ⟨vs, h, paired_map (fun _ _ q => q.sh l) r⟩
  | .ins _ _, ⟨dx, ws, h, r⟩ => ⟨dx, ws, h, paired_map (fun _ _ q => ⟨q.1, q.2.sh l⟩) r⟩
  | .tup _, ⟨vs, h, r⟩ => ⟨vs, h, paired_map (fun _ _ q => q.sh l) r⟩
  | .dct _, ⟨ws, h, r⟩ => ⟨ws, h, paired_map (fun _ _ q => ⟨q.1, q.2.sh l⟩) r⟩
def Mp_.take_ (α : Mp_) (n : Nat) (p q : Addr × List Addr) : Mp_ := { α with own := α.own.set n (p.1, p.2 ++ adr q) }
theorem WOk.absorb {K : Frag} {α : Mp_} {hp : List O} {H : Hp} {n m : Nat} {gs gs' : List Gn} {p q : Addr × List Addr} (w : WOk K α hp H) (hn : regAt hp n = some gs) (hm : regAt hp m = some gs') (hp' : α.own[n]? = some p) (hq : α.own[m]? = some q) (ne : n ≠ m) :
    WOk K (α.take_ n p q) ((hp.set n (.reg (gs ++ gs'.map (shG gs.length)))).set m .gone) H ∧ Ext α hp H (α.take_ n p q) ((hp.set n (.reg (gs ++ gs'.map (shG gs.length)))).set m .gone) H := by
  obtain ⟨o, h1, h2, h3⟩ := regAt_some hn
  obtain ⟨o', g1, g2, g3⟩ := regAt_some hm
  obtain ⟨l1, r1⟩ := w.regs hn hp'
  obtain ⟨l2, r2⟩ := w.regs hm hq
  have ln : n < hp.length := (List.getElem?_eq_some_iff.mp h1).1
  have lm : m < hp.length := (List.getElem?_eq_some_iff.mp g1).1
  have own_ : ∀ {j : Nat} {x : Addr × List Addr}, (α.take_ n p q).own[j]? = some x → (j = n ∧ x = (p.1, p.2 ++ adr q)) ∨ (j ≠ n ∧ α.own[j]? = some x) := fun {j x} h => by
    rcases set_get (show (α.own.set n _)[j]? = some x from h) with ⟨e, e'⟩ | ⟨e, h⟩
    · exact .inl ⟨e.symm, e'.symm⟩
    · exact .inr ⟨fun z => e z.symm, h⟩
  have hp_ : ∀ {j : Nat} {u : O}, ((hp.set n (.reg (gs ++ gs'.map (shG gs.length)))).set m .gone)[j]? = some u → u ≠ .gone → (j = n ∧ u = .reg (gs ++ gs'.map (shG gs.length))) ∨ (j ≠ n ∧ j ≠ m ∧ hp[j]? = some u) := fun {j u} h hg => by
    rcases set_get h with ⟨e, e'⟩ | ⟨e, h⟩
    · exact absurd e'.symm hg
    · rcases set_get h with ⟨e2, e'⟩ | ⟨e2, h⟩
      · exact .inl ⟨e2.symm, e'.symm⟩
      · exact .inr ⟨fun z => e2 z.symm, fun z => e z.symm, h⟩
  have mt : ∀ a, Mt (α.take_ n p q) ((hp.set n (.reg (gs ++ gs'.map (shG gs.length)))).set m .gone) a → Mt α hp a := by
    rintro a ⟨j, x, u, a1, a2, a3, a4⟩
    rcases hp_ a2 a3 with ⟨e, _⟩ | ⟨e1, e2, b1⟩
    · subst e
      rcases own_ a1 with ⟨_, e⟩ | ⟨e, _⟩
      · subst e
        rcases a4 with z | z
        · exact ⟨j, p, o, hp', h1, h3, .inl z⟩
        · rcases List.mem_append.mp z with z | z
          · exact ⟨j, p, o, hp', h1, h3, .inr z⟩
          · exact ⟨m, q, o', hq, g1, g3, List.mem_cons.mp z⟩
      · exact absurd rfl e
    · rcases own_ a1 with ⟨e, _⟩ | ⟨_, b2⟩
      · exact absurd e e1
      · exact ⟨j, x, u, b2, b1, a3, a4⟩
  have al : ∀ a, Al (α.take_ n p q) ((hp.set n (.reg (gs ++ gs'.map (shG gs.length)))).set m .gone) a → Al α hp a := fun a z => z.imp (mt a) id
  have st : StepW α hp H (α.take_ n p q) ((hp.set n (.reg (gs ++ gs'.map (shG gs.length)))).set m .gone) H := ⟨fun _ _ h _ => h, fun a z => .inl (al a z), fun a z => .inl (mt a z), al_sub, fun _ o h => ⟨o, h⟩⟩
  have pne : ∀ a, (a = p.1 ∨ a ∈ p.2) → ¬ (a = q.1 ∨ a ∈ q.2) := w.inj n m o o' p q h1 hp' h3 g1 hq g3 ne
  have ole : OwnLe α.own (α.take_ n p q).own := fun j x hx => by
    by_cases e : j = n
    · subst e
      rw [hp'] at hx
      cases hx
      exact ⟨_, List.getElem?_set_self (List.getElem?_eq_some_iff.mp hp').1, rfl, List.prefix_append _ _⟩
    · exact ⟨x, by show (α.own.set n _)[j]? = _; rw [List.getElem?_set_ne (Ne.symm e)]; exact hx, rfl, List.prefix_refl _⟩
  refine ⟨⟨?_, fun j u x a1 a2 => ?_, fun j u x a1 a2 hg => ?_, fun i j u u' x x' a1 a2 a3 a4 a5 a6 hne a ha hb => ?_, fun a ha => ?_⟩, ⟨⟨ole, rfl⟩, st, fun j x hl hx => ?_⟩⟩
  · show (α.own.set n _).length = _
    rw [List.length_set, List.length_set, List.length_set]
    exact w.len
  · by_cases hg : u = .gone
    · subst hg; exact trivial
    rcases hp_ a1 hg with ⟨e, e'⟩ | ⟨e1, e2, b1⟩
    · subst e e'
      rcases own_ a2 with ⟨_, e⟩ | ⟨e, _⟩
      · subst e
        have la : (adr p ++ adr q).length = gs.length + gs'.length := by rw [List.length_append, l1, l2]
        refine ⟨by show (adr p ++ adr q).length = _; rw [la, List.length_append, List.length_map], fun k g a b1 b2 => ?_⟩
        have b2 : (adr p ++ adr q)[k]? = some a := b2
        by_cases hk : k < gs.length
        · rw [List.getElem?_append_left hk] at b1
          rw [List.getElem?_append_left (by omega)] at b2
          exact (r1 k g a b1 b2).mono st (fun i b hb => by show (adr p ++ adr q)[i]? = _; rw [List.getElem?_append_left (List.getElem?_eq_some_iff.mp hb).1]; exact hb) rfl
        · rw [List.getElem?_append_right (by omega), List.getElem?_map] at b1
          rw [List.getElem?_append_right (by omega)] at b2
          cases z : gs'[k - gs.length]? with
          | none => rw [z] at b1; cases b1
          | some g0 =>
            rw [z] at b1
            cases b1
            refine ((r2 _ g0 a z (by rw [← l1]; exact b2)).mono st (fun _ _ h => h) rfl).sh (c := gs.length) fun i b hb => ?_
            show (adr p ++ adr q)[i + gs.length]? = _
            rw [List.getElem?_append_right (by omega), l1, Nat.add_sub_cancel]
            exact hb
      · exact absurd rfl e
    · rcases own_ a2 with ⟨e, _⟩ | ⟨_, b2⟩
      · exact absurd e e1
      · exact (w.obj j u x b1 b2).mono st fun _ _ _ => rfl
  · rcases hp_ a1 hg with ⟨e, e'⟩ | ⟨e1, e2, b1⟩
    · subst e e'
      rcases own_ a2 with ⟨_, e⟩ | ⟨e, _⟩
      · subst e
        have o1 := w.one j o p h1 hp' h3
        have o2 := w.one m o' q g1 hq g3
        refine ⟨fun z => ?_, ?_⟩
        · rcases List.mem_append.mp z with z | z
          · exact o1.1 z
          · exact pne p.1 (.inl rfl) (List.mem_cons.mp z)
        · refine List.nodup_append.mpr ⟨o1.2, List.nodup_cons.mpr o2, fun a ha b hb e => ?_⟩
          subst e
          exact pne a (.inr ha) (List.mem_cons.mp hb)
      · exact absurd rfl e
    · rcases own_ a2 with ⟨e, _⟩ | ⟨_, b2⟩
      · exact absurd e e1
      · exact w.one j u x b1 b2 hg
  · have key : ∀ {i : Nat} {u : O} {x : Addr × List Addr}, ((hp.set n (.reg (gs ++ gs'.map (shG gs.length)))).set m .gone)[i]? = some u → (α.take_ n p q).own[i]? = some x → u ≠ .gone → (a = x.1 ∨ a ∈ x.2) →
        ∃ (i' : Nat) (u' : O) (x' : Addr × List Addr), hp[i']? = some u' ∧ α.own[i']? = some x' ∧ u' ≠ .gone ∧ (a = x'.1 ∨ a ∈ x'.2) ∧ (i' = i ∨ (i' = m ∧ i = n)) ∧ i ≠ m := fun {i u x} b1 b2 b3 b4 => by
      rcases hp_ b1 b3 with ⟨e, e'⟩ | ⟨e1, e2, c1⟩
      · subst e
        rcases own_ b2 with ⟨_, e⟩ | ⟨e, _⟩
        · subst e
          rcases b4 with z | z
          · exact ⟨i, o, p, h1, hp', h3, .inl z, .inl rfl, ne⟩
          · rcases List.mem_append.mp z with z | z
            · exact ⟨i, o, p, h1, hp', h3, .inr z, .inl rfl, ne⟩
            · exact ⟨m, o', q, g1, hq, g3, List.mem_cons.mp z, .inr ⟨rfl, rfl⟩, ne⟩
        · exact absurd rfl e
      · rcases own_ b2 with ⟨e, _⟩ | ⟨_, c2⟩
        · exact absurd e e1
        · exact ⟨i, u, x, c1, c2, b3, b4, .inl rfl, e2⟩
    obtain ⟨i', v, y, d1, d2, d3, d4, d5, d6⟩ := key a1 a2 a3 ha
    obtain ⟨j', v', y', f1, f2, f3, f4, f5, f6⟩ := key a4 a5 a6 hb
    refine w.inj i' j' v v' y y' d1 d2 d3 f1 f2 f3 ?_ a d4 f4
    rcases d5 with d5 | ⟨d5, d7⟩ <;> rcases f5 with f5 | ⟨f5, f7⟩ <;> subst d5 f5 <;> first | exact hne | (intro z; subst z; first | exact d6 rfl | exact f6 rfl) | (intro _; exact hne (d7.trans f7.symm))
  · have ha : α.ban a := ha
    obtain ⟨hx, hy⟩ := w.ban a ha
    exact ⟨hx, fun z => hy (mt a z)⟩
  · rw [← List.length_set (i := n) (a := (p.1, p.2 ++ adr q))] at hl
    exact (at_none hl (show (α.own.set n _)[j]? = some x from hx)).elim
end Mp
set_option Elab.async false
set_option linter.all false
set_option maxRecDepth 100000
set_option maxHeartbeats 4000000
namespace Mp
open PySem PySem.Spec PyProof.Rows L2
def gnAt (hp : List O) (n k : Nat) : Option Gn := (regAt hp n).bind (·[k]?)
theorem gnAt_some {hp : List O} {n k : Nat} {g : Gn} (h : gnAt hp n k = some g) : ∃ gs, regAt hp n = some gs ∧ gs[k]? = some g := by
  unfold gnAt at h
  cases e : regAt hp n with
  | none => rw [e] at h; cases h
  | some gs => rw [e] at h; exact ⟨gs, rfl, h⟩
theorem WOk.gn {K : Frag} {α : Mp_} {hp : List O} {H : Hp} (w : WOk K α hp H) {n k : Nat} {g : Gn} {p : Addr × List Addr} {a : Addr} (h : gnAt hp n k = some g) (hp' : α.own[n]? = some p) (ha : (adr p)[k]? = some a) : GR K (Al α hp) H (adr p) a g := by
  obtain ⟨gs, h1, h2⟩ := gnAt_some h
  exact (w.regs h1 hp').2 k g a h2 ha
def ndS (n : Nat) : Nd → S
  | .d x => .d x
  | .nd k => .ob n k
theorem RepN.s {K : Frag} {α : Mp_} {hp : List O} {H : Hp} {n : Nat} {p : Addr × List Addr} (h : α.own[n]? = some p) : ∀ {x : Nd} {v : V}, RepN K (Al α hp) H (adr p) x v → SRep K α hp H (ndS n x) v
  | .d _, _, r => r
  | .nd _, _, ⟨a, e1, e2⟩ => ⟨p, a, h, e1, e2⟩
def absorb (hp : List O) (n : Nat) : S → Option (List O × Nd)
  | .d x => some (hp, .d x)
  | .mu m => if m = n then some (hp, .nd 0) else match regAt hp n, regAt hp m with
    | some gs, some gs' => some ((hp.set n (.reg (gs ++ gs'.map (shG gs.length)))).set m .gone, .nd gs.length)
    | _, _ => none
  | .ob m k => if m = n then some (hp, .nd k) else match regAt hp n, regAt hp m with
    | some gs, some gs' => if k < gs'.length then some ((hp.set n (.reg (gs ++ gs'.map (shG gs.length)))).set m .gone, .nd (k + gs.length)) else none
    | _, _ => none
  | .exn _ _ _ _ => none
theorem regAt_take {hp : List O} {n m : Nat} {gs gs' : List Gn} (hn : regAt hp n = some gs) (ne : n ≠ m) : regAt ((hp.set n (.reg (gs ++ gs'.map (shG gs.length)))).set m .gone) n = some (gs ++ gs'.map (shG gs.length)) := by
  obtain ⟨o, h1, _⟩ := regAt_some hn
  unfold regAt
  rw [List.getElem?_set_ne (Ne.symm ne), List.getElem?_set_self (List.getElem?_eq_some_iff.mp h1).1]
  rfl
theorem absorb_ok {K : Frag} {α : Mp_} {hp hp' : List O} {H : Hp} {n k : Nat} {v : S} {u : V} {x : Nd} {g : Gn} {p : Addr × List Addr} {a : Addr} (w : WOk K α hp H) (r : SRep K α hp H v u) (h : absorb hp n v = some (hp', x)) (hn : gnAt hp n k = some g) (hp1 : α.own[n]? = some p) (ha : (adr p)[k]? = some a) :
    ∃ (α' : Mp_) (p' : Addr × List Addr), WOk K α' hp' H ∧ Ext α hp H α' hp' H ∧ α'.own[n]? = some p' ∧ (adr p')[k]? = some a ∧ gnAt hp' n k = some g ∧ RepN K (Al α' hp') H (adr p') x u := by
  have two : ∀ {m j : Nat} {q : Addr × List Addr} {b : Addr} {gs gs' : List Gn}, regAt hp n = some gs → regAt hp m = some gs' → n ≠ m → α.own[m]? = some q → (adr q)[j]? = some b → u = .ref b → x = .nd (j + gs.length) → hp' = ((hp.set n (.reg (gs ++ gs'.map (shG gs.length)))).set m .gone) →
      ∃ (α' : Mp_) (p' : Addr × List Addr), WOk K α' hp' H ∧ Ext α hp H α' hp' H ∧ α'.own[n]? = some p' ∧ (adr p')[k]? = some a ∧ gnAt hp' n k = some g ∧ RepN K (Al α' hp') H (adr p') x u := fun {m j q b gs gs'} h1 h2 ne hq hb eu ex eh => by
    subst eu ex eh
    obtain ⟨w2, e2⟩ := w.absorb h1 h2 hp1 hq ne
    obtain ⟨l, _⟩ := w.regs h1 hp1
    obtain ⟨gs0, z1, z2⟩ := gnAt_some hn
    cases h1.symm.trans z1
    refine ⟨_, (p.1, p.2 ++ adr q), w2, e2, List.getElem?_set_self (List.getElem?_eq_some_iff.mp hp1).1, ?_, ?_, b, ?_, rfl⟩
    · show (adr p ++ adr q)[k]? = _
      rw [List.getElem?_append_left (List.getElem?_eq_some_iff.mp ha).1]
      exact ha
    · unfold gnAt
      rw [regAt_take h1 ne]
      show (gs ++ _)[k]? = _
      rw [List.getElem?_append_left (List.getElem?_eq_some_iff.mp z2).1]
      exact z2
    · show (adr p ++ adr q)[j + gs.length]? = _
      rw [List.getElem?_append_right (by omega), l, Nat.add_sub_cancel]
      exact hb
  cases v with
  | d y => cases h; exact ⟨α, p, w, Ext.refl, hp1, ha, hn, r⟩
  | exn _ _ _ _ => cases h
  | mu m =>
    obtain ⟨q, hq, eu⟩ := r
    simp only [absorb] at h
    by_cases c : m = n
    · subst c
      rw [if_pos rfl] at h
      cases h
      rw [hp1] at hq
      cases hq
      exact ⟨α, p, w, Ext.refl, hp1, ha, hn, p.1, rfl, eu⟩
    · rw [if_neg c] at h
      cases h1 : regAt hp n with
      | none => rw [h1] at h; cases h
      | some gs =>
        cases h2 : regAt hp m with
        | none => rw [h1, h2] at h; cases h
        | some gs' =>
          rw [h1, h2] at h
          cases h
          exact two h1 h2 (fun z => c z.symm) hq (j := 0) rfl eu (by rw [Nat.zero_add]) rfl
  | ob m j =>
    obtain ⟨q, b, hq, hb, eu⟩ := r
    simp only [absorb] at h
    by_cases c : m = n
    · subst c
      rw [if_pos rfl] at h
      cases h
      rw [hp1] at hq
      cases hq
      exact ⟨α, p, w, Ext.refl, hp1, ha, hn, b, hb, eu⟩
    · rw [if_neg c] at h
      cases h1 : regAt hp n with
      | none => rw [h1] at h; cases h
      | some gs =>
        cases h2 : regAt hp m with
        | none => rw [h1, h2] at h; cases h
        | some gs' =>
          rw [h1, h2] at h
          simp only at h
          split at h
          · cases h
            exact two h1 h2 (fun z => c z.symm) hq hb eu rfl rfl
          · cases h
def putN (hp : List O) (n k : Nat) (g : Gn) : List O := match regAt hp n with
  | some gs => hp.set n (.reg (gs.set k g))
  | none => hp
theorem WOk.node_ {K : Frag} {α : Mp_} {hp : List O} {H : Hp} {n k : Nat} {g g' : Gn} {p : Addr × List Addr} {a : Addr} {x : HO} (w : WOk K α hp H) (h : gnAt hp n k = some g) (hp' : α.own[n]? = some p) (ha : (adr p)[k]? = some a)
    (ho : ∀ {A' M' : Av}, Step (Al α hp) (Mt α hp) H A' M' (upd H a x) → GR K A' (upd H a x) (adr p) a g') : WOk K α (putN hp n k g') (upd H a x) ∧ Ext α hp H α (putN hp n k g') (upd H a x) := by
  obtain ⟨gs, h1, h2⟩ := gnAt_some h
  unfold putN
  rw [h1]
  exact w.putG h1 h2 hp' ha fun st => ho st
theorem WOk.pushReg {K : Frag} {α : Mp_} {hp : List O} {H : Hp} {p : Addr} {g : Gn} {x : HO} (w : WOk K α hp H) (hn : H p = none) (hg : ∀ {A' M' : Av}, Step (Al α hp) (Mt α hp) H A' M' (upd H p x) → GR K A' (upd H p x) [p] p g) :
    WOk K (α.push (p, [])) (hp ++ [.reg [g]]) (upd H p x) ∧ Ext α hp H (α.push (p, [])) (hp ++ [.reg [g]]) (upd H p x) := by
  have mt : ∀ a, Mt (α.push (p, [])) (hp ++ [.reg [g]]) a → Mt α hp a ∨ a = p := fun a h => by
    rcases (mt_push w.len).mp h with h | ⟨_, h⟩
    · exact .inl h
    · rcases h with h | h
      · exact .inr h
      · cases h
  have na : ¬ Al α hp p := w.non p hn
  have st : StepW α hp H (α.push (p, [])) (hp ++ [.reg [g]]) (upd H p x) := ⟨(Step.fresh (A := Al α hp) (M := Mt α hp) al_sub hn).keep, fun a h => by
    rcases h with h | h
    · exact (mt a h).imp .inl fun e => by rw [e]; exact hn
    · exact .inl (.inr h), fun a h => (mt a h).imp id fun e => by rw [e]; exact hn, al_sub, (Step.fresh (A := Al α hp) (M := Mt α hp) al_sub hn).stay⟩
  refine ⟨w.pushO st (fun a h => upd_ne fun e => na (e ▸ h)) (fun a h => ?_) ⟨by simp, by simp⟩ ⟨rfl, fun k g' a h1 h2 => ?_⟩, Ext.push st hn⟩
  · rcases h with h | h
    · rw [h]; exact na
    · cases h
  · cases k with
    | zero => cases h1; cases h2; exact hg st
    | succ k => cases h1
theorem paired_len {τ σ : Type} {P : τ → σ → Prop} : ∀ {xs : List τ} {ys : List σ}, Paired P xs ys → xs.length = ys.length
  | _, _, .nil => rfl
  | _, _, .cons _ r => congrArg Nat.succ (paired_len r)
theorem paired_get {τ σ : Type} {P : τ → σ → Prop} : ∀ {xs : List τ} {ys : List σ} {i : Nat} {x : τ}, Paired P xs ys → xs[i]? = some x → ∃ y, ys[i]? = some y ∧ P x y
  | _, _, 0, _, .cons p r, h => by cases h; exact ⟨_, rfl, p⟩
  | _, _, i + 1, _, .cons p r, h => paired_get (i := i) r h
  | _, _, _, _, .nil, h => by simp at h
end Mp
set_option Elab.async false
set_option linter.all false
set_option maxRecDepth 100000
set_option maxHeartbeats 4000000
namespace Mp
open PySem PySem.Spec PyProof.Rows L2
section
variable {X : Cx} {W : WX} {o a b e : Expr} {es : List Expr} {pos apos : Pos} {ta tb te to : TE} {tA : TA} {Ma Mb Me Mo : ME} {MA' : MA} {m : Str} {id : String}
end
section
variable {hp : List O} {env : List (Option S)} {n : Nat} {R : S → List O → Prop} {Xp : MX} {Ma Mb Mo : ME} {La : MA}
def rgO : Option O → Option (List Gn)
  | some o => regO o
  | none => none
@[simp] theorem rgO_reg {gs : List Gn} : rgO (some (.reg gs)) = some gs := rfl
@[simp] theorem rgO_lst {ds : List D} : rgO (some (.lst ds)) = some [.lst (ds.map .d)] := rfl
theorem regAt_O {m : Nat} : regAt hp m = rgO hp[m]? := by
  unfold regAt rgO
  cases hp[m]? <;> rfl
def gnO (r : Option (List Gn)) (k : Nat) : Option Gn := r.bind (·[k]?)
@[simp] theorem gnO_some {gs : List Gn} {k : Nat} : gnO (some gs) k = gs[k]? := rfl
theorem gnAt_O {m k : Nat} : gnAt hp m k = gnO (rgO hp[m]?) k := by
  unfold gnAt gnO
  rw [regAt_O]
@[simp] theorem obO_mu {m : Nat} : obO (.mu m) = some (m, 0) := rfl
@[simp] theorem obO_ob {m k : Nat} : obO (.ob m k) = some (m, k) := rfl
@[simp] theorem ndS_d {m : Nat} {x : D} : ndS m (.d x) = .d x := rfl
@[simp] theorem ndS_nd {m k : Nat} : ndS m (.nd k) = .ob m k := rfl
@[simp] theorem absorb_d {m : Nat} {x : D} : absorb hp m (.d x) = some (hp, .d x) := rfl
def putH (r : Option (List Gn)) (hp : List O) (m k : Nat) (g : Gn) : List O := match r with
  | some gs => hp.set m (.reg (gs.set k g))
  | none => hp
@[simp] theorem putH_some {gs : List Gn} {m k : Nat} {g : Gn} : putH (some gs) hp m k g = hp.set m (.reg (gs.set k g)) := rfl
theorem putN_H {m k : Nat} {g : Gn} : putN hp m k g = putH (rgO hp[m]?) hp m k g := by
  unfold putN putH
  rw [regAt_O]
  all_goals (cases rgO hp[m]? <;> rfl)
@[simp] theorem kit_ll : kitB "list" "list" = some true := by decide +kernel
theorem dsOf_map : ∀ ds : List D, dsOf (ds.map .d) = some ds
  | [] => rfl
  | d :: ds => by show (dsOf (ds.map .d)).map _ = _; rw [dsOf_map ds]; rfl
@[simp] theorem dsOf_map' {ds : List D} : dsOf (ds.map .d) = some ds := dsOf_map ds
end
end Mp
set_option Elab.async false
set_option linter.all false
set_option maxRecDepth 100000
set_option maxHeartbeats 4000000
namespace Mp
open PySem PySem.Spec PyProof.Rows L2
def insO (C : Str) : Option Gn → Option (List (Str × Nd))
  | some (.ins D fs) => if D = C then some fs else none
  | _ => none
theorem insO_some {C : Str} {g : Option Gn} {fs : List (Str × Nd)} (h : insO C g = some fs) : g = some (.ins C fs) := by
  unfold insO at h
  split at h
  · split at h
    · rename_i e; cases h; rw [e]
    · cases h
  · cases h
def putNd (f : Str) (x : Nd) : List (Str × Nd) → List (Str × Nd)
  | [] => [(f, x)]
  | (g, y) :: r => if g = f then (g, x) :: r else (g, y) :: putNd f x r
theorem paired_put {K : Frag} {A : Av} {H : Hp} {as : List Addr} {f : Str} {x : Nd} {v : V} (h : RepN K A H as x v) : ∀ {fs : List (Str × Nd)} {ws : List (Str × V)}, RepNF K A H as fs ws → RepNF K A H as (putNd f x fs) (putF f v ws)
  | _, _, .nil => .cons ⟨rfl, h⟩ .nil
  | (g, y) :: _, (g', w) :: _, .cons p r => by
    obtain ⟨e, q⟩ := p
    have e : g = g' := e
    subst e
    unfold putF putNd
    by_cases c : g = f
    · rw [if_pos c, if_pos c]; exact .cons ⟨rfl, h⟩ r
    · rw [if_neg c, if_neg c]; exact .cons ⟨rfl, q⟩ (paired_put h r)
def mSetF (C f : Str) (Mo Mv : ME) : MS := fun s k => Mv s (fun y hp1 => Mo { s with hp := hp1 } (fun x hp2 => on (obO x) fun q => on (insO C (gnAt hp2 q.1 q.2)) fun fs => fs.length < 1000 ∧ on (absorb hp2 q.1 y) fun r => k.nx { s with hp := putN r.1 q.1 q.2 (.ins C (putNd f r.2 fs)) }) k.ex) k.ex
theorem sim_setF {K : Frag} {W : WX} {ta tv : TE} {Mo Mv : ME} {C f : Str} (hC : Cls K (He.ga K C)) (hf : NoAttr K (He.ga K C) f) (ho : SimE K W ta Mo) (hv : SimE K W tv Mv) : SimS K W (sFld K ta tv f) (mSetF C f Mo Mv) := by
  intro ρ α s H σ h k m D p
  refine hv α s H σ h.ok h.env _ _ m _ (fun y hp1 α1 H1 v m1 e1 w1 r1 => ?_) (p.postX h.pre)
  have h1 := h.ext e1 w1
  have p1 := p.at e1.step e1.pre.ban
  refine ho α1 { s with hp := hp1 } H1 σ w1 h1.env _ _ m1 _ (fun x hp2 α2 H2 u m2 e2 w2 r2 => ?_) (p1.postX h1.pre)
  have h2 := h1.ext e2 w2
  obtain ⟨⟨n, j⟩, g1, m2⟩ := on.ex m2
  obtain ⟨fs, g2, l, m2⟩ := on.ex m2
  obtain ⟨⟨hp3, z⟩, g3, m2⟩ := on.ex m2
  obtain ⟨q, a, a1, a2, rfl⟩ := r2.obj g1
  obtain ⟨α3, q3, w3, e3, b1, b2, b3, b4⟩ := absorb_ok w2 (r1.mono e2) g3 (insO_some g2) a1 a2
  obtain ⟨dx, ws, c1, c2⟩ := w3.gn b3 b1 b2
  obtain ⟨w4, e4⟩ := w3.node_ (x := .ins (He.ga K C) dx (putF f v ws)) (g' := .ins C (putNd f z fs)) b3 b1 b2 fun st => ⟨dx, _, upd_same, L2.Paired.mapP (paired_put b4 c2) fun _ _ t => ⟨t.1, t.2.mono st fun _ _ h => h⟩⟩
  refine ⟨a, _, dx, ws, rfl, c1, hC, hf, by rw [← paired_len c2]; exact l, ?_⟩
  exact p1.nx _ α3 _ σ m2 ((h2.ext e3 w3).ext e4 w4) ((e2.trans e3).trans e4).step ((e2.trans e3).trans e4).pre.ban
end Mp
set_option Elab.async false
set_option linter.all false
set_option maxRecDepth 100000
set_option maxHeartbeats 4000000
namespace Mp
open PySem PySem.Spec PyProof.Rows L2
section
variable {X : Cx} {W : WX} {o v e : Expr} {es : List Expr} {pos apos : Pos} {to tv te : TE} {tA : TA} {Mo Mv Me : ME} {MA' : MA}
theorem ds_setF (K : Frag) {C f : Str} {p' : Pos} (hC : Cls K (He.ga K C)) (hf : NoAttr K (He.ga K C) f) (ho : DE X W o to Mo) (hv : DE X W v tv Mv) (hs : swapsWith v (some (.Attribute o f p')) pos.line X.env = pure false) (hK : X.K = K := by rfl) :
    DS X W (.Assign [.Attribute o f p'] v pos) (sFld K to tv f) (mSetF C f Mo Mv) := by subst hK; exact ⟨ps_fld ho.p hv.p hs, sim_setF hC hf ho.s hv.s⟩
def propB (C f : Str) (p : Frag → Addr) (g : Frag → Addr) : Frag → Bool := fun K =>
  He.eqO (PySem.W.findIn K (.ref (He.ga K C)) f) (some (some (.ref (p K)))) && (decide (PySem.W.specialIn K (.ref (p K)) "__get__" = some (some (.builtin "property.__get__"))) && (decide (PySem.W.takesIn K (.ref (p K)) = some true) && (match PySem.W.recIn K (p K) "property" with
    | some (.ref g' :: _) => decide (g' = g K)
    | _ => false)))
theorem propB_ok {K : Frag} {C f : Str} {p g : Frag → Addr} (h : propB C f p g K = true) : PropOf K (He.ga K C) f (p K) (g K) := by
  unfold propB at h
  obtain ⟨h1, h⟩ := He.ba h
  obtain ⟨h2, h⟩ := He.ba h
  obtain ⟨h3, h4⟩ := He.ba h
  refine ⟨He.eqO_ok h1, of_decide_eq_true h2, of_decide_eq_true h3, ?_⟩
  split at h4
  · rename_i g' rest e
    have := of_decide_eq_true h4
    subst this
    exact ⟨rest, e⟩
  · cases h4
def pAd (C f : Str) (K : Frag) : Addr := He.ma K (He.ga K C) f
def gAd (C f : Str) (K : Frag) : Addr := match PySem.W.recIn K (pAd C f K) "property" with
  | some (.ref g :: _) => g
  | _ => 0
end
section
variable {hp : List O} {env : List (Option S)} {n : Nat} {R : S → List O → Prop} {Xp : MX} {Mo Mv : ME} {La : MA} {nx bk ct : PS → Prop} {rt : S → List O → Prop} {ex : MX}
@[simp] theorem insO_ins {C : Str} {fs : List (Str × Nd)} : insO C (some (.ins C fs)) = some fs := if_pos rfl
@[simp ↓] theorem x_setF {C f : Str} : mSetF C f Mo Mv ⟨hp, env, n⟩ ⟨nx, bk, ct, rt, ex⟩ = Mv ⟨hp, env, n⟩ (fun y hp1 => Mo ⟨hp1, env, n⟩ (fun x hp2 => onH (obO x) (fun q => onH (insO C (gnO (rgO hp2[q.1]?) q.2)) (fun fs => fs.length < 1000 ∧ onH (absorb hp2 q.1 y) (fun r => nx ⟨putH (rgO r.1[q.1]?) r.1 q.1 q.2 (.ins C (putNd f r.2 fs)), env, n⟩) .mk) .mk) .mk) ex) ex := by
  unfold mSetF
  simp only [gnAt_O, putN_H]
  rfl
end
end Mp
set_option Elab.async false
set_option linter.all false
set_option maxRecDepth 100000
set_option maxHeartbeats 4000000
namespace Mp
open PySem PySem.Spec PyProof.Rows L2
structure PrD where
  cls : Str
  f : Str
  qual : Str
  st : Stmt
def fnA (K : Frag) (a : Addr) : He.FnW := match K.lookup a with
  | some ⟨_, _, .func fd, _⟩ => some (fd.name, fd.qualname, fd.params, fd.body, fd.scope, fd.globals, fd.closure, fd.builtins)
  | _ => none
def PrD.val (d : PrD) : He.FnW := some (d.f, d.qual, defArgs d.st, .stmts (defBody d.st), defScope d.st, mainGlobals, [], builtinsNs)
def PrD.obs (K : Frag) (d : PrD) : He.FnW := fnA K (gAd d.cls d.f K)
def PrD.ok (K : Frag) (d : PrD) : Bool := propB d.cls d.f (pAd d.cls d.f) (gAd d.cls d.f) K && (PySem.W.keepIn K (.ref (gAd d.cls d.f K)) && (match K.lookup (gAd d.cls d.f K) with
  | some ⟨_, _, .func fd, _⟩ => PySem.W.codeIn K fd.code d.qual && (He.dflB K fd.defaults [] && He.kwdB K fd.kwdefaults [])
  | _ => false))
theorem PrD.good {K : Frag} {d : PrD} (e : PrD.obs K d = d.val) (c : d.ok K = true) : PropOf K (He.ga K d.cls) d.f (pAd d.cls d.f K) (gAd d.cls d.f K) ∧ ∃ fd, FunD K d.f d.qual (defArgs d.st) (defBody d.st) (defScope d.st) [] [] (gAd d.cls d.f K) fd := by
  obtain ⟨c0, c1⟩ := He.ba c
  obtain ⟨kp, c2⟩ := He.ba c1
  refine ⟨propB_ok c0, ?_⟩
  unfold PrD.obs fnA at e
  cases q : K.lookup (gAd d.cls d.f K) with
  | none =>
    rw [q] at c2
    cases c2
  | some o =>
    obtain ⟨oc, od, dt, osl⟩ := o
    rw [q] at c2 e
    cases dt with
    | func fd =>
      obtain ⟨n1, n2, n3, n4, n5, n6, n7, n8, n9, n10, n11, n12, n13, n14, n15⟩ := fd
      have e2 : (some (n1, n2, n3, n4, n5, n6, n7, n15) : He.FnW) = some (d.f, d.qual, defArgs d.st, .stmts (defBody d.st), defScope d.st, mainGlobals, [], builtinsNs) := e
      simp only [Option.some.injEq, Prod.mk.injEq] at e2
      obtain ⟨h1, h2, h3, h4, h5, h6, h7, h8⟩ := e2
      subst h1 h2 h3 h4 h5 h6 h7 h8
      have c3 : (PySem.W.codeIn K n13 d.qual && (He.dflB K n8 [] && He.kwdB K n9 [])) = true := c2
      obtain ⟨k1, k2⟩ := He.ba c3
      obtain ⟨k3, k4⟩ := He.ba k2
      exact ⟨_, ⟨oc, od, n8, n9, n10, n11, n12, n13, n14, osl, rfl, q, k1, He.dflB_ok k3, He.kwdB_ok k4⟩, kp⟩
    | _ => cases c2
abbrev AlY : Type := (AlX × Bool) × List He.FnW
def obsY (P : Program) (fa : List He.Fa) (fn : List He.DefD) (xs : List XcD) (bs : List (Frag → Bool)) (ps : List PrD) (K : Frag) : AlY := ((obsX P fa fn xs bs K, ps.all fun d => d.ok K), ps.map fun d => d.obs K)
def valY (fn : List He.DefD) (xs : List XcD) (ps : List PrD) : AlY := ((valX fn xs, true), ps.map PrD.val)
def SaysY (P : Program) (fa : List He.Fa) (fn : List He.DefD) (xs : List XcD) (bs : List (Frag → Bool)) (ps : List PrD) (K : Frag) : Prop := obsY P fa fn xs bs ps K = valY fn xs ps
section
variable {P : Program} {fa : List He.Fa} {fn : List He.DefD} {xs : List XcD} {bs : List (Frag → Bool)} {ps : List PrD} {K : Frag}
theorem SaysY.x (c : SaysY P fa fn xs bs ps K) : SaysX P fa fn xs bs K := congrArg (fun z : AlY => z.1.1) c
end
end Mp
set_option Elab.async false
set_option linter.all false
set_option maxRecDepth 100000
set_option maxHeartbeats 4000000
namespace Mp
open PySem PySem.Spec PyProof.Rows L2
section
variable {X : Cx} {W : WX} {e : Expr} {es : List Expr} {kws : List Keyword} {pos : Pos} {t tk : TA} {Ma Mkw : MA}
end
section
variable {hp : List O} {env : List (Option S)} {n : Nat} {R : S → List O → Prop} {Xp : MX} {Mo : ME} {La Lk : MA} {nx : PS → Prop}
end
end Mp
set_option Elab.async false
set_option linter.all false
set_option maxRecDepth 100000
set_option maxHeartbeats 4000000
namespace Mp
open PySem PySem.Spec PyProof.Rows L2
section
variable {X : Cx} {pins : List (Addr × Obj)} {σ : L2.St} {H : Hp} {s : Shared}
end
def inE (x : D) (ds : List D) : Bool := ds.any fun y => eqD y x
end Mp
set_option Elab.async false
set_option linter.all false
set_option maxRecDepth 100000
set_option maxHeartbeats 4000000
namespace Mp
open PySem PySem.Spec PyProof.Rows L2
end Mp
set_option Elab.async false
set_option linter.all false
set_option maxRecDepth 100000
set_option maxHeartbeats 4000000
namespace Mp
open PySem PySem.Spec PyProof.Rows L2
def frz (hp : List O) : S → Option (D × List O)
  | .d d => some (d, hp)
  | .mu m => match hp[m]? with
    | some (.lst ds) => some (.lst ds, hp.set m .gone)
    | _ => none
  | _ => none
section
variable {X : Cx} {W : WX} {es : List Expr} {tA : TA} {MA' : MA} {pos : Pos}
end
section
variable {hp : List O} {env : List (Option S)} {n : Nat} {R : S → List O → Prop} {Xp : MX} {La : MA}
end
end Mp
set_option Elab.async false
set_option linter.all false
set_option maxRecDepth 100000
set_option maxHeartbeats 4000000
namespace Mp
open PySem PySem.Spec PyProof.Rows L2
end Mp
set_option Elab.async false
set_option linter.all false
set_option maxRecDepth 100000
set_option maxHeartbeats 4000000
namespace Mp
open PySem PySem.Spec PyProof.Rows L2
end Mp
set_option Elab.async false
set_option linter.all false
set_option maxRecDepth 100000
set_option maxHeartbeats 4000000
namespace Mp
open PySem PySem.Spec PyProof.Rows L2
section
variable {K : Frag} {α : Mp_} {hp : List O} {H : Hp} {A : Av}
theorem toA (hA : ∀ a, A a → α.ban a) : Step (Al α hp) noA H A noA H := ⟨fun _ _ h _ => h, fun a z => .inl (.inr (hA a z)), fun _ z => .inl z, fun _ z => z.elim, fun _ o h => ⟨o, h⟩⟩
end
end Mp
set_option Elab.async false
set_option linter.all false
set_option maxRecDepth 100000
set_option maxHeartbeats 4000000
namespace Mp
open PySem PySem.Spec PyProof.Rows L2
section
variable {X : Cx} {W : WX} {a b e o : Expr} {es : List Expr} {ta tb to : TE} {tA : TA} {Ma Mb Mo : ME} {MA' : MA} {pos : Pos}
end
section
variable {X : Cx} {o a : Expr} {to ta : TE} {Mo Ma : ME} {pos : Pos}
end
section
variable {hp : List O} {env : List (Option S)} {n : Nat} {R : S → List O → Prop} {Xp : MX} {La : MA} {Ma Mb : ME} {nx : PS → Prop}
end
end Mp
set_option Elab.async false
set_option linter.all false
set_option maxRecDepth 100000
set_option maxHeartbeats 4000000
namespace Mp
open PySem PySem.Spec PyProof.Rows L2
end Mp
set_option Elab.async false
set_option linter.all false
set_option maxRecDepth 100000
set_option maxHeartbeats 4000000
namespace Mp
open PySem PySem.Spec PyProof.Rows L2
def fStrI : FN := fun ds P => one ds fun d => match d with
  | .int i => i.natAbs.log2 < 1920 ∧ P (.str (Str.ofString (toString i)))
  | _ => False
def rStrI : List V → Hp → VK → Prop := fun xs H Q => ∃ i, xs = [V.int i] ∧ i.natAbs.log2 < 1920 ∧ Q (V.str (Str.ofString (toString i))) H
theorem call_strI {X : Cx} : CallR X (.type "str") rStrI := call_str_int
theorem sim_strI {K : Frag} : SimN K rStrI fStrI := by
  intro A H ds vs hA r P p Q q
  obtain ⟨d, v, rfl, r, p⟩ := p.ex r
  cases d with
  | int i => cases r; exact ⟨i, rfl, p.1, q _ _ _ p.2 rfl (.inl rfl)⟩
  | _ => exact p.elim
@[simp] theorem xfStrI {i : Int} {P : D → Prop} : fStrI [.int i] P = (i.natAbs.log2 < 1920 ∧ P (.str (Str.ofString (toString i)))) := rfl
section
variable {hp : List O} {env : List (Option S)} {n : Nat} {Ma : ME} {Xp : MX} {Rw : Option Wk → List D → List O → Prop}
end
end Mp
set_option Elab.async false
set_option linter.all false
set_option maxRecDepth 100000
set_option maxHeartbeats 4000000
namespace Mp
open PySem PySem.Spec PyProof.Rows L2
section
variable {X : Cx} {W : WX} {o e : Expr} {to te : TE} {Mo Ma : ME} {pos apos : Pos}
end
section
variable {hp : List O} {env : List (Option S)} {n : Nat} {R : S → List O → Prop} {Xp : MX} {Mo Ma : ME}
end
end Mp
set_option Elab.async false
set_option linter.all false
set_option maxRecDepth 100000
set_option maxHeartbeats 4000000
namespace Mp
open PySem PySem.Spec PyProof.Rows L2
def setN (l : List (Key × Nd)) (k : Key) (d : Nd) : List (Key × Nd) :=
  if (l.any fun kv => decide (kv.1 = k)) = true then l.map (fun kv => if kv.1 = k then (kv.1, d) else kv) else l ++ [(k, d)]
abbrev PK (P : Nd → V → Prop) : List (Key × Nd) → List (Key × V) → Prop := Paired fun x w => x.1 = w.1 ∧ P x.2 w.2
end Mp
set_option Elab.async false
set_option linter.all false
set_option maxRecDepth 100000
set_option maxHeartbeats 4000000
namespace Mp
open PySem PySem.Spec PyProof.Rows L2
end Mp
set_option Elab.async false
set_option linter.all false
set_option maxRecDepth 100000
set_option maxHeartbeats 4000000
namespace Mp
open PySem PySem.Spec PyProof.Rows L2
section
variable {X : Cx} {W : WX} {a b e o : Expr} {ta tb te to : TE} {Ma Mb Me Mo : ME} {pos : Pos}
end
section
variable {hp : List O} {env : List (Option S)} {n : Nat} {R : S → List O → Prop} {Xp : MX} {Ma Mb Mc : ME} {nx bk ct : PS → Prop} {rt : S → List O → Prop} {ex : MX}
end
end Mp
set_option Elab.async false
set_option linter.all false
set_option maxRecDepth 100000
set_option maxHeartbeats 4000000
namespace Mp
open PySem PySem.Spec PyProof.Rows L2
section
variable {X : Cx} {W : WX} {e : Expr} {te : TE} {Me : ME} {p p2 pos pos2 : Pos}
end
section
variable {hp : List O} {env : List (Option S)} {n : Nat} {R : S → List O → Prop} {Xp : MX} {Ma : ME}
end
end Mp
set_option Elab.async false
set_option linter.all false
set_option maxRecDepth 100000
set_option maxHeartbeats 4000000
namespace PySem
set_option maxHeartbeats 1000000 in
theorem meets_enumerate_new1B {v : Value} {o : Obj} {H : Heap → Prop} (B : Begins v o H) :
    Meets (Builtin.«enumerate.__new__» ⟨[.type "enumerate", v], []⟩) (fun _ R s => H s.heap ∧
      R (.ok (.ret (.ref (s.heap.push o).objs.size))) { s with heap := (s.heap.push o).push { cls := .type "enumerate", data := .fields #[.none, .bool false, .ref s.heap.objs.size, rawInt 0, .none, .none] } }) :=
  .of_wp fun prog w A R s h => by
    obtain ⟨hp, g, d, tk, os⟩ := s; obtain ⟨h1, h⟩ := h
    have hsub := sub_enumerate
    have q1 : ∀ {A' : Around} {E : Value → Shared → Prop} {Q : Value → Shared → Prop}, Q (.ref hp.objs.size) ⟨hp.push o, g, d, tk, os⟩ → wpAny (model prog w) A' (pyIter v) Q E ⟨hp, g, d, tk, os⟩ :=
      fun q => B.iter prog w _ _ ⟨hp, g, d, tk, os⟩ _ h1 q
    wp_walk using q1
    refine wpAny_stack_any fun st => wpAny_pure ?_
    split
    · rename_i c _ _ _ _ _
      cases (c == Value.type "enumerate")
      · wp_walk using q1
        exact ⟨_, rfl, h⟩
      · wp_walk using q1
        exact ⟨_, rfl, h⟩
    · wp_walk using q1
      exact ⟨_, rfl, h⟩
section
variable {prog : Program} {w : World} {A : Around} {E : Value → Shared → Prop} {s : Shared}
theorem enum1_begins {v : Value} {o : Obj} {H : Heap → Prop} {Q : Value → Shared → Prop} (B : Begins v o H) (h1 : H s.heap)
    (h : ∀ h', IsEnum h' (s.heap.objs.size + 1) s.heap.objs.size 0 .none → h'.get? s.heap.objs.size = some o → h'.objs.size = s.heap.objs.size + 2 →
      (∀ b o, s.heap.get? b = some o → h'.get? b = some o) → Q (.ref (s.heap.objs.size + 1)) { s with heap := h' }) :
    wpAny (model prog w) A (call (.type "enumerate") [v]) Q E s := by
  refine callType_new F.called_enumerate (by decide) (F.typeCall_enumerate_1 _) (F.newCall_enumerate_1 _) (fun obj => F.args_object_init_2 obj _) F.entry_enumerate_new
    (meets_enumerate_new1B B) ⟨h1, ?_⟩
  have hz : (s.heap.push o).objs.size = s.heap.objs.size + 1 := Heap.size_push ..
  show _ ∧ _
  rw [hz]
  have he : IsEnum ((s.heap.push o).push { cls := .type "enumerate", data := .fields #[.none, .bool false, .ref s.heap.objs.size, rawInt 0, .none, .none] }) (s.heap.objs.size + 1) s.heap.objs.size 0 .none := by
    have := Heap.get?_push_size (s.heap.push o) (o := { cls := .type "enumerate", data := .fields #[.none, .bool false, .ref s.heap.objs.size, rawInt 0, .none, .none] }) rfl
    rw [hz] at this; exact this
  refine ⟨⟨_, he, rfl⟩, h _ he (Heap.get?_push_of_some _ (Heap.get?_push_size _ B.free)) (by rw [Heap.size_push, hz]) fun b o x => Heap.get?_push_of_some _ (Heap.get?_push_of_some _ x)⟩
end
end PySem
namespace Mp
open PySem PySem.Spec PyProof.Rows L2
def IteT (K : Frag) (a : Addr) : It :=
  ⟨fun i H => ∃ (xs : List V) (x : V), SqT K H a xs ∧ xs[i]? = some x, fun i H v H' => ∃ T x, v = .ref T ∧ H T = none ∧ H' = upd H T (.tup [.int (i : Nat), x]) ∧ ∀ xs, SqT K H a xs → xs[i]? = some x, fun i H => ∃ xs : List V, SqT K H a xs ∧ xs.length = i⟩
theorem turn_enumT {P : Program} {w : World} {K : Frag} {elts : List Expr} {kk : Nat} {tpos : Pos} (a e it : Addr) :
    Turn P w K (.Tuple elts kk tpos) (IteT K a) [e, it] e (fun i h => (∃ old, IsEnum h e it ((i : Nat) : Int) old) ∧ h.IsTupleIter it a i ∧ e ≠ it) where
  mem := by simp
  obj := fun i h st b hb => by
    obtain ⟨⟨old, he⟩, ⟨o, ho, hc, hd⟩, _⟩ := st
    have e' : b = e ∨ b = it := by simpa using hb
    rcases e' with z | z
    · rw [z]; exact ⟨_, he, fun v q => nomatch q⟩
    · rw [z]; exact ⟨o, ho, fun v q => by rw [hd] at q; cases q⟩
  keep := fun i h h' st k => let ⟨⟨old, he⟩, hi, hne⟩ := st; ⟨⟨old, k e (by simp) _ he⟩, hi.at fun o q => k it (by simp) o q, hne⟩
  item := by
    intro X hP hw hK hc i pins s σ H E I hf st hg
    subst hP hw hK
    obtain ⟨⟨old, he⟩, hit, hne⟩ := st
    obtain ⟨xs, x, hq, hx⟩ := hg
    obtain ⟨its, rv, p, hz⟩ := I.tuple hq
    have p' : s.heap.IsTuple a its.toArray := p
    obtain ⟨u, hu, ru⟩ := rv.get hx
    have hel : e < s.heap.objs.size := Heap.lt_size he
    have hil : it < s.heap.objs.size := by obtain ⟨_, q, _⟩ := hit; exact Heap.lt_size q
    have hai : a ≠ it := fun z => by
      obtain ⟨o1, q1, c1, _⟩ := p'
      obtain ⟨o2, q2, c2, _⟩ := hit
      rw [z, q2] at q1
      cases q1
      rw [c2] at c1
      exact absurd c1 (by decide)
    have hae : a ≠ e := fun z => by
      obtain ⟨o1, q1, c1, _⟩ := p'
      rw [z] at q1
      have q2 := he
      unfold IsEnum at q2
      rw [q1] at q2
      cases q2
      exact absurd (show Value.type "enumerate" = Value.type "tuple" from c1) (by decide)
    have hi : i < its.toArray.size := by
      have := (List.getElem?_eq_some_iff.mp hu).1
      simpa using this
    refine wpAny_pyNext_enum_itemD (Draws.tuple (A := X.A.in1) (show X.A.in1.handled = none from I.ok.hd hc) it a hai its.toArray) he ⟨hit, p'⟩ hi hne (by simp; exact ⟨hne, hae.symm⟩) fun y h' tk hP ho hst hT hsz hk => ?_
    obtain ⟨hit', _⟩ := hst
    obtain rfl : y = u := by
      have e1 : its.toArray[i]? = some u := by simpa using hu
      rw [e1] at hP
      exact (Option.some.inj hP).symm
    refine ⟨_, rfl, wpAny_letOwnedTupleGo_enum (s := { s with heap := h', toks := tk + 1 }) ho fun h'' he' sb => ?_⟩
    have hT2 : h''.get? s.heap.objs.size = some { cls := .type "tuple", data := .seq #[.int i tk, y] } := (sb.2 _ (Nat.ne_of_gt hel)).trans hT
    have new : ObjOk X.prog X.w (upd H s.heap.objs.size (.tup [.int (i : Nat), x])) h'' s.heap.objs.size (.tup [.int (i : Nat), x]) :=
      ⟨by show 2 ≤ sizeLine; decide, [.int i tk, y], .cons ⟨_, rfl⟩ (.cons ru .nil), ⟨_, hT2, rfl, _, rfl⟩⟩
    have I1 : Inv X pins σ (upd H s.heap.objs.size (.tup [.int (i : Nat), x])) { s with heap := h'', toks := tk + 1 } :=
      I.turnedNew (ch := [e, it]) (fun b ob hb q => (sb.2 b (fun z => hb (by simp [z]))).trans (hk b ob (fun z => hb (by simp [z])) (fun z => hb (by simp [z])) q)) hf (Nat.le_refl _) new
    refine ⟨.ref s.heap.objs.size, _, I1, rfl, ⟨_, x, rfl, I.hok.fresh (Nat.le_refl _), rfl, fun ys hy => by rw [I.tuple_inj hy hq]; exact hx⟩, ⟨⟨y, ?_⟩, hit'.at fun o q => (sb.2 it (Ne.symm hne)).trans q, hne⟩, fun b hb => ?_⟩
    · have e1 : ((i + 1 : Nat) : Int) = (i : Int) + 1 := by omega
      rw [e1]; exact he'
    · have hb' : b < s.heap.objs.size := by
        have e' : b = e ∨ b = it := by simpa using hb
        rcases e' with z | z
        · rw [z]; exact hel
        · rw [z]; exact hil
      rw [upd_ne (Nat.ne_of_lt hb')]
      exact (hf b hb).1
  done := by
    intro X hP hw hK hc i pins s σ H E I hf st hg
    subst hP hw hK
    obtain ⟨⟨old, he⟩, hit, hne⟩ := st
    obtain ⟨xs, hq, hx⟩ := hg
    obtain ⟨its, rv, p, hz⟩ := I.tuple hq
    have p' : s.heap.IsTuple a its.toArray := p
    obtain ⟨f0, f1, f2, f3, f4, f5⟩ := hf it (by simp)
    have hl := rv.length
    have hai : a ≠ it := fun z => by
      obtain ⟨o1, q1, c1, _⟩ := p'
      obtain ⟨o2, q2, c2, _⟩ := hit
      rw [z, q2] at q1
      cases q1
      rw [c2] at c1
      exact absurd c1 (by decide)
    have hi : i = its.toArray.size := by simp; omega
    subst hi
    exact wpAny_pyNext_enum_endD (Draws.tuple (A := X.A.in1) (show X.A.in1.handled = none from I.ok.hd hc) it a hai its.toArray) he ⟨hit, p'⟩ fun h' eb => ⟨rfl, I.turned (t' := s.toks) (fun b o hb q => eb b o hb q) f0 f1 f3 f4 f5⟩
  self := fun A i s Q E st h => let ⟨⟨_, he⟩, _⟩ := st; wpAny_pyIter_enum he h
def iEnumA (K : Frag) (ta : TA) : TI := fun σ H R => ta σ H fun vs H1 => ∃ a xs, vs = [.ref a] ∧ ((SqL K H1 a xs ∧ R (Ite K a) H1) ∨ (SqT K H1 a xs ∧ R (IteT K a) H1))
theorem pi_enumA {X : Cx} {e : Expr} {ta : TA} {p pos tpos : Pos} {elts : List Expr} {kk : Nat} (hg : Gl X "enumerate") (hm : X.mg "enumerate" = none) (ha : PA X [e] ta) (hs : starEach [e] X.env = [(false, eval e X.env)] := by rfl) :
    PI X (.Tuple elts kk tpos) (.Call (.Name "enumerate" p) [e] [] pos) (iEnumA X.K ta) := by
  refine ⟨fun pins s σ H R I h => ?_⟩
  refine Call_ (ld_blt I hg hm boot_enumerate (PyProof.Rows.callWith_type1 (thn (ha.run pos pins s σ H _ I h) fun us s1 ⟨vs, H1, I1, r1, q1⟩ => ?_) hs rfl))
  obtain ⟨a, xs, ex, hq⟩ := q1
  subst ex
  cases r1 with
  | cons r rr =>
    cases rr
    cases r
    rcases hq with ⟨hq, q⟩ | ⟨hq, q⟩
    · obtain ⟨its, rv, p', hz⟩ := I1.list hq
      refine call_enumerate_list p'.isList fun h' he hit hsz hk => wpAny_pyIter_enum he ?_
      have I2 : Inv X pins σ H1 { s1 with heap := h' } := I1.kept (t' := s1.toks) hk
      refine ⟨s1.heap.objs.size + 1, [s1.heap.objs.size + 1, s1.heap.objs.size], _, _, H1, rfl, I2, turn_enum a (s1.heap.objs.size + 1) s1.heap.objs.size, ⟨⟨.none, he⟩, hit, Nat.succ_ne_self _⟩, fun b hb => ?_, q⟩
      have e' : b = s1.heap.objs.size + 1 ∨ b = s1.heap.objs.size := by simpa using hb
      have hle : s1.heap.objs.size ≤ b := by
        rcases e' with z | z
        · rw [z]; exact Nat.le_add_right _ _
        · rw [z]; exact Nat.le_refl _
      exact I1.fpOk hle (I1.hok.fresh hle)
    · obtain ⟨its, rv, p', hz⟩ := I1.tuple hq
      refine enum1_begins (begins_tuple a its.toArray) p' fun h' he hit hsz hk => wpAny_pyIter_enum he ?_
      have I2 : Inv X pins σ H1 { s1 with heap := h' } := I1.kept (t' := s1.toks) hk
      refine ⟨s1.heap.objs.size + 1, [s1.heap.objs.size + 1, s1.heap.objs.size], _, _, H1, rfl, I2, turn_enumT a (s1.heap.objs.size + 1) s1.heap.objs.size, ⟨⟨.none, he⟩, ⟨_, hit, rfl, rfl⟩, Nat.succ_ne_self _⟩, fun b hb => ?_, q⟩
      have e' : b = s1.heap.objs.size + 1 ∨ b = s1.heap.objs.size := by simpa using hb
      have hle : s1.heap.objs.size ≤ b := by
        rcases e' with z | z
        · rw [z]; exact Nat.le_add_right _ _
        · rw [z]; exact Nat.le_refl _
      exact I1.fpOk hle (I1.hok.fresh hle)
def numb : Nat → List D → List D
  | _, [] => []
  | k, d :: r => .tup [.int (k : Nat), d] :: numb (k + 1) r
theorem numb_length : ∀ (ds : List D) (k : Nat), (numb k ds).length = ds.length
  | [], _ => rfl
  | d :: r, k => congrArg Nat.succ (numb_length r (k + 1))
theorem numb_get : ∀ (ds : List D) (k i : Nat) (d : D), (numb k ds)[i]? = some d → ∃ x, ds[i]? = some x ∧ d = .tup [.int ((k + i : Nat) : Int), x]
  | [], _, _, _, h => by simp [numb] at h
  | y :: r, k, 0, d, h => by simp [numb] at h; exact ⟨y, rfl, by rw [← h]; simp⟩
  | y :: r, k, i + 1, d, h => by
    obtain ⟨x, h1, h2⟩ := numb_get r (k + 1) i d (by simpa [numb] using h)
    exact ⟨x, by simpa using h1, by rw [h2]; congr 3; congr 1; omega⟩
theorem walks_en {K : Frag} {α : Mp_} {hp : List O} {H : Hp} {a : Addr} {ds : List D} (h : ∀ α' hp' H', StepA α hp H α' hp' H' → WOk K α' hp' H' → ∃ vs, SqL K H' a vs ∧ RepL K (Al α' hp') H' ds vs) : Walks K (Ite K a) α hp H none (numb 0 ds) := by
  intro α' hp' H' st sa w stl
  obtain ⟨vs, hv, r⟩ := h α' hp' H' st w
  refine ⟨fun i d hd => ?_, vs, hv, by rw [numb_length, r.length]; exact Nat.le_refl _⟩
  obtain ⟨x, hx, e⟩ := numb_get ds 0 i d hd
  subst e
  obtain ⟨u, h1, h2⟩ := r.get hx
  refine ⟨⟨vs, u, hv, h1⟩, fun y H'' ⟨T, x', e, hT, eH, q⟩ => ?_⟩
  subst e eH
  have h3 := q vs hv
  rw [h1] at h3
  cases h3
  have st2 : Step (Al α' hp') (Mt α' hp') H' (Al α' hp') (Mt α' hp') (upd H' T (.tup [.int (i : Nat), u])) := Step.fresh al_sub hT
  refine ⟨.inr ⟨T, _, hT, rfl⟩, T, _, rfl, .inl ⟨upd_same, fun z => ?_⟩, .cons (by simp [Rep]) (.cons (Rep.mono st2 _ _ h2) .nil)⟩
  obtain ⟨o, ho⟩ := w.there z
  rw [hT] at ho
  cases ho
theorem walks_et {K : Frag} {α : Mp_} {hp : List O} {H : Hp} {a : Addr} {ds : List D} (h : ∀ α' hp' H', StepA α hp H α' hp' H' → WOk K α' hp' H' → ∃ vs, SqT K H' a vs ∧ RepL K (Al α' hp') H' ds vs) : Walks K (IteT K a) α hp H none (numb 0 ds) := by
  intro α' hp' H' st sa w stl
  obtain ⟨vs, hv, r⟩ := h α' hp' H' st w
  refine ⟨fun i d hd => ?_, vs, hv, by rw [numb_length, r.length]⟩
  obtain ⟨x, hx, e⟩ := numb_get ds 0 i d hd
  subst e
  obtain ⟨u, h1, h2⟩ := r.get hx
  refine ⟨⟨vs, u, hv, h1⟩, fun y H'' ⟨T, x', e, hT, eH, q⟩ => ?_⟩
  subst e eH
  have h3 := q vs hv
  rw [h1] at h3
  cases h3
  have st2 : Step (Al α' hp') (Mt α' hp') H' (Al α' hp') (Mt α' hp') (upd H' T (.tup [.int (i : Nat), u])) := Step.fresh al_sub hT
  refine ⟨.inr ⟨T, _, hT, rfl⟩, T, _, rfl, .inl ⟨upd_same, fun z => ?_⟩, .cons (by simp [Rep]) (.cons (Rep.mono st2 _ _ h2) .nil)⟩
  obtain ⟨o, ho⟩ := w.there z
  rw [hT] at ho
  cases ho
def miEnum (Ma : MA) : MI := fun s R Xp => Ma s (fun vs hp' => on (allD vs) fun ds => one ds fun d => on (items d) fun xs => R none (numb 0 xs) hp') Xp
theorem simi_enum {K : Frag} {W : WX} {t : TA} {Ma : MA} (ha : SimA K W t Ma) : SimI K W (iEnumA K t) (miEnum Ma) := by
  intro α s H σ w e R Xp m Q q qx
  refine ha α s H σ w e _ _ m _ (fun v hp1 α1 H1 u m1 e1 w1 r1 => ?_) qx
  obtain ⟨ds, hd, m1⟩ := on.ex m1
  have r2 := r1.allD hd
  obtain ⟨d, rfl⟩ : ∃ d, ds = [d] := by
    match ds, m1 with
    | [d], _ => exact ⟨d, rfl⟩
  obtain ⟨v, t2, rfl, r1, h0⟩ := r2
  cases h0
  obtain ⟨xs, hx, m1⟩ := on.ex (show on (items d) _ from m1)
  cases d with
  | tup xs =>
    cases hx
    obtain ⟨a, vs, eu, h1, r⟩ := tup_sq (show Rep K (Al α1 hp1) H1 (.tup _) v from r1)
    refine ⟨a, vs, by rw [eu], .inr ⟨h1, q none _ hp1 α1 H1 _ m1 e1 w1 ?_ trivial trivial⟩⟩
    refine walks_et fun α' hp' H' st w' => ?_
    obtain ⟨a', vs', eu', h1', r'⟩ := tup_sq (Rep.mono st _ _ (show Rep K (Al α1 hp1) H1 (.tup _) v from r1))
    cases eu.symm.trans eu'
    exact ⟨vs', h1', r'⟩
  | lst xs =>
    cases hx
    obtain ⟨a, vs, eu, h1, r⟩ := (show Rep K (Al α1 hp1) H1 (.lst _) v from r1)
    refine ⟨a, vs, by rw [eu], .inl ⟨.inl (.inl h1.1), q none _ hp1 α1 H1 _ m1 e1 w1 ?_ trivial trivial⟩⟩
    refine walks_en fun α' hp' H' st w' => ?_
    obtain ⟨a', vs', eu', h1', r'⟩ := Rep.mono st _ _ (show Rep K (Al α1 hp1) H1 (.lst _) v from r1)
    cases eu.symm.trans eu'
    exact ⟨vs', .inl (.inl h1'.1), r'⟩
  | fl xs =>
    cases hx
    obtain ⟨a, vs, eu, h1, r⟩ := fl_sq (show Rep K (Al α1 hp1) H1 (.fl _) v from r1)
    refine ⟨a, vs, by rw [eu], .inl ⟨h1, q none _ hp1 α1 H1 _ m1 e1 w1 ?_ trivial trivial⟩⟩
    refine walks_en fun α' hp' H' st w' => ?_
    obtain ⟨a', vs', eu', h1', r'⟩ := fl_sq (Rep.mono st _ _ (show Rep K (Al α1 hp1) H1 (.fl _) v from r1))
    cases eu.symm.trans eu'
    exact ⟨vs', h1', r'⟩
  | _ => cases hx
theorem di_enum {X : Cx} {W : WX} (K : Frag) {e : Expr} {elts : List Expr} {kk : Nat} {tpos : Pos} {tA : TA} {MA' : MA} {p pos : Pos} (hg : Gl X "enumerate") (hm : X.mg "enumerate" = none) (ha : DA X W [e] tA MA') (hs : starEach [e] X.env = [(false, eval e X.env)] := by rfl) (hK : X.K = K := by rfl) :
    DI X W (.Tuple elts kk tpos) (.Call (.Name "enumerate" p) [e] [] pos) (iEnumA K tA) (miEnum MA') := by
  subst hK
  exact ⟨pi_enumA hg hm ha.p hs, simi_enum ha.s⟩
@[simp ↓] theorem x_iEnum {hp : List O} {env : List (Option S)} {n : Nat} {La : MA} {Xp : MX} {Rw : Option Wk → List D → List O → Prop} : miEnum La ⟨hp, env, n⟩ Rw Xp = La ⟨hp, env, n⟩ (fun vs hp' => onH (allD vs) (fun ds => one ds fun d => onH (items d) (fun xs => Rw none (numb 0 xs) hp') .mk) .mk) Xp := nr rfl
@[simp] theorem numb_nil {k : Nat} : numb k [] = [] := rfl
@[simp] theorem numb_cons {k : Nat} {d : D} {r : List D} : numb k (d :: r) = .tup [.int (k : Nat), d] :: numb (k + 1) r := rfl
end Mp
set_option Elab.async false
set_option linter.all false
set_option maxRecDepth 100000
set_option maxHeartbeats 4000000
namespace Mp
open PySem PySem.Spec PyProof.Rows L2
end Mp
set_option Elab.async false
set_option linter.all false
set_option maxRecDepth 100000
set_option maxHeartbeats 4000000
namespace Mp
open PySem PySem.Spec PyProof.Rows L2
mutual
def dB (K : Frag) : D → Value → Bool
  | .non, u => (match u with | .none => true | _ => false)
  | .bl b, u => (match u with | .bool c => decide (b = c) | _ => false)
  | .int i, u => (match u with | .int j _ => decide (i = j) | _ => false)
  | .str x, u => (match u with | .str y _ => decide (x = y) | _ => false)
  | .ty n, u => (match u with | .type m => decide (n = m) | _ => false)
  | .tup ds, u => (match u with
    | .ref a => (match K.lookup a with
      | some ⟨.type c, _, .seq its _, _⟩ => decide (c = "tuple") && (decide (its.size ≤ sizeLine) && dLB K ds its.toList)
      | _ => false)
    | _ => false)
  | .lst _, _ => false
  | .fl _, _ => false
  | .obj _ _ _, _ => false
def dLB (K : Frag) : List D → List Value → Bool
  | [], us => us.isEmpty
  | d :: r, us => (match us with
    | [] => false
    | u :: t => dB K d u && dLB K r t)
end
mutual
theorem dB_ok {K : Frag} : ∀ (d : D) (u : Value), dB K d u = true → ∃ v, RelV v u ∧ ∀ A H, Rep K A H d v
  | .non, u, h => by
    cases u <;> first | exact ⟨.non, rfl, fun _ _ => rfl⟩ | cases h
  | .bl b, u, h => by
    cases u <;> first | (cases (of_decide_eq_true h); exact ⟨.bl b, rfl, fun _ _ => rfl⟩) | cases h
  | .int i, u, h => by
    cases u <;> first | (cases (of_decide_eq_true h); exact ⟨.int i, ⟨_, rfl⟩, fun _ _ => rfl⟩) | cases h
  | .str x, u, h => by
    cases u <;> first | (cases (of_decide_eq_true h); exact ⟨.str x, ⟨_, rfl⟩, fun _ _ => rfl⟩) | cases h
  | .ty n, u, h => by
    cases u <;> first | (cases (of_decide_eq_true h); exact ⟨.ty n, rfl, fun _ _ => rfl⟩) | cases h
  | .tup ds, u, h => by
    cases u with
    | ref a =>
      have h1 : (match K.lookup a with
        | some ⟨.type c, _, .seq its _, _⟩ => decide (c = "tuple") && (decide (its.size ≤ sizeLine) && dLB K ds its.toList)
        | _ => false) = true := h
      split at h1
      · rename_i c dd its n sl q
        obtain ⟨z1, z2⟩ := He.ba h1
        obtain ⟨z2, z3⟩ := He.ba z2
        obtain ⟨vs, rv, rp⟩ := dLB_ok ds _ z3
        exact ⟨.ref a, rfl, fun A H => ⟨a, vs, rfl, .inr (.inr ⟨_, its, n, q, by rw [of_decide_eq_true z1], rfl, of_decide_eq_true z2, rv⟩), rp A H⟩⟩
      · cases h1
    | _ => cases h
  | .lst _, _, h => by cases h
  | .fl _, _, h => by cases h
  | .obj _ _ _, _, h => by cases h
theorem dLB_ok {K : Frag} : ∀ (ds : List D) (us : List Value), dLB K ds us = true → ∃ vs, Vals vs us ∧ ∀ A H, RepL K A H ds vs
  | [], us, h => by
    cases us with
    | nil => exact ⟨[], .nil, fun _ _ => rfl⟩
    | cons _ _ => cases h
  | d :: r, us, h => by
    cases us with
    | nil => cases h
    | cons u t =>
      obtain ⟨h1, h2⟩ := He.ba h
      obtain ⟨v, a1, a2⟩ := dB_ok d u h1
      obtain ⟨vs, b1, b2⟩ := dLB_ok r t h2
      exact ⟨v :: vs, .cons a1 b1, fun A H => .cons (a2 A H) (b2 A H)⟩
end
structure GDat (K : Frag) (mg : Str → Option Value) (x : Str) (d : D) (v : V) : Prop where
  ex : ∃ u, mg x = some u ∧ RelV v u
  rep : ∀ A H, Rep K A H d v
def gdB (x : Str) (d : D) (K : Frag) : Bool := match PySem.W.nsIn K mainGlobals x with
  | some (some u) => dB K d u
  | _ => false
theorem gdB_ok {K : Frag} {h : Heap} {mg : Str → Option Value} (X : K.In h) (G : h.Ns mainGlobals mg) {x : Str} {d : D} (c : gdB x d K = true) : ∃ v, GDat K mg x d v := by
  unfold gdB at c
  split at c
  · rename_i u q
    obtain ⟨v, h1, h2⟩ := dB_ok d u c
    exact ⟨v, ⟨u, PySem.W.mg_of X G q, h1⟩, h2⟩
  · cases c
structure GDct (w : World) (K : Frag) (mg : Str → Option Value) (x : Str) (kvs : List (Str × D)) (p : Addr) : Prop where
  ex : mg x = some (.ref p) ∧ ∀ z d, kvs.lookup z = some d → ∃ v, KDct K w p z v ∧ ∀ A H, Rep K A H d v
def gtA (x : Str) (K : Frag) : Addr := match PySem.W.nsIn K mainGlobals x with
  | some (some (.ref a)) => a
  | _ => 0
section
variable {X : Cx} {W : WX} {b : Expr} {pos p1 : Pos} {tb : TE} {Mb : ME}
theorem de_gdat {x : Str} {d : D} {v : V} (K : Frag) (hg : Gl X x) (hm : GDat K X.mg x d v) (hK : X.K = K := by rfl) (hd : (x == ("__debug__" : Str)) = false := by decide) : DE X W (.Name x pos) (tC v) (mC d) := by
  obtain ⟨u, h, r⟩ := hm.ex
  exact ⟨pe_glob hg h r hd, sim_c fun A H => hK ▸ hm.rep A H⟩
end
end Mp
set_option Elab.async false
set_option linter.all false
set_option maxRecDepth 100000
set_option maxHeartbeats 4000000
namespace Mp
open PySem PySem.Spec PyProof.Rows L2
section
variable {K : Frag} {W : WX} {t u : TE} {Ma Mb : ME}
end
section
variable {X : Cx} {W : WX} {a b : Expr} {es : List Expr} {pos : Pos} {ta tb : TE} {Ma Mb : ME}
end
section
variable {hp : List O} {env : List (Option S)} {n : Nat} {R : S → List O → Prop} {Rb : Bool → List O → Prop} {Xp : MX} {Ma Mb : ME}
end
end Mp
set_option Elab.async false
set_option linter.all false
set_option maxRecDepth 100000
set_option maxHeartbeats 4000000
namespace Mp
open PySem PySem.Spec PyProof.Rows L2
section
variable {X : Cx} {W : WX} {e : Expr} {te : TE} {Me : ME} {p p2 pos pos2 : Pos}
end
section
variable {hp : List O} {env : List (Option S)} {n : Nat} {R : S → List O → Prop} {Xp : MX} {Ma : ME}
end
end Mp
set_option Elab.async false
set_option linter.all false
set_option maxRecDepth 100000
set_option maxHeartbeats 4000000
namespace Mp
open PySem PySem.Spec PyProof.Rows L2
section
variable {v : Option Wk} {ds : List D} {G : MG} {Mt : MT} {Me : ME} {env : List (Option S)} {hp : List O} {R : List D → List O → Prop} {t : Tg (G, Mt, Me, R)}
end
end Mp
set_option Elab.async false
set_option linter.all false
set_option maxRecDepth 100000
set_option maxHeartbeats 4000000
namespace Mp
open PySem PySem.Spec PyProof.Rows L2
end Mp
set_option Elab.async false
set_option linter.all false
set_option maxRecDepth 100000
set_option maxHeartbeats 4000000
namespace Mp
open PySem PySem.Spec PyProof.Rows L2
section
variable {hp : List O} {env : List (Option S)} {n : Nat} {nx bk ct : PS → Prop} {rt : S → List O → Prop} {ex : MX} {Rb : Bool → List O → Prop} {Xp : MX}
end
section
variable {G : MG} {Me : ME} {env : List (Option S)} {hp : List O} {R : List D → List O → Prop}
theorem compH_rngI {lo : Int} {m : Nat} {t : Tg (G, mYes, Me, R)} (Iv : Nat → List D → List O → Prop) (hb : m ≤ sizeLine) (h0 : Iv 0 [] hp)
    (hs : ∀ (i : Nat) (acc : List D) (hp : List O) (N : D → List O → Prop), i < m → Iv i acc hp → (∀ y hp', Iv (i + 1) (acc ++ [y]) hp' → N y hp') → G (.d (.int (lo + i))) ⟨hp, env, hp.length⟩ fun s1 => Me s1 (fun y hp3 => onH (isD y) (fun dy => N dy hp3) .mk) noX)
    (hn : ∀ acc hp, Iv m acc hp → R acc hp) : compH none (rng lo 1 m) G mYes Me env hp R t := by
  refine compH_of (fun acc r hp' => ∃ k, k ≤ m ∧ r = (rng lo 1 m).drop k ∧ Iv k acc hp') (by rw [rng_len]; exact hb) ⟨0, by omega, rfl, h0⟩ ?_ ?_
  · rintro acc d r hp N ⟨k, hk, er, h⟩ hN
    have hlt : k < m := by
      by_cases z : k < m
      · exact z
      · rw [List.drop_eq_nil_of_le (by rw [rng_len]; omega)] at er
        cases er
    have e2 : (rng lo 1 m)[k]'(by rw [rng_len]; exact hlt) = D.int (lo + (k : Int)) := by simp [rng]
    rw [List.drop_eq_getElem_cons (by rw [rng_len]; exact hlt), e2] at er
    cases er
    exact hs k acc hp N hlt h fun y hp' h' => hN y hp' trivial ⟨k + 1, hlt, rfl, h'⟩
  · rintro acc hp ⟨k, hk, er, h⟩
    have hl := congrArg List.length er
    rw [List.length_drop, rng_len] at hl
    have : k = m := by simp at hl; omega
    subst this
    exact hn acc hp h
end
end Mp
set_option Elab.async false
set_option linter.all false
set_option maxRecDepth 100000
set_option maxHeartbeats 4000000
namespace Mp
open PySem PySem.Spec PyProof.Rows L2
end Mp
set_option Elab.async false
set_option linter.all false
set_option maxRecDepth 100000
set_option maxHeartbeats 4000000
namespace Mp
open PySem PySem.Spec PyProof.Rows L2
def asStr : S → Option Str
  | .d (.str a) => some a
  | _ => none
abbrev FS1 := Str → D → (D → Prop) → Prop
def mS1 (f : FS1) (Mo Ma : ME) : ME := fun s R Xp => Mo s (fun o hp1 => on (asStr o) fun a => Ma { s with hp := hp1 } (fun y hp2 => on (val hp2 y) fun d => f a d fun d' => R (.d d') hp2) Xp) Xp
def SimS1 (K : Frag) (r : V → List V → Hp → VK → Prop) (f : FS1) : Prop := ∀ (A : Av) (H : Hp) (a : Str) (d : D) (v : V), (∀ a, H a = none → ¬ A a) → RepT K A H d v → ∀ P, f a d P → ∀ Q : VK, (∀ d v H', P d → Rep K A H' d v → (H' = H ∨ ∃ p o, H p = none ∧ H' = upd H p o) → Q v H') → r (.str a) [v] H Q
theorem asStr_rep {K : Frag} {α : Mp_} {hp : List O} {H : Hp} {o : S} {u : V} {a : Str} (e : asStr o = some a) (r : SRep K α hp H o u) : u = .str a := by
  cases o with
  | d x =>
    cases x with
    | str b => cases e; exact r
    | _ => cases e
  | _ => cases e
theorem sim_S1 {K : Frag} {W : WX} {r : V → List V → Hp → VK → Prop} {f : FS1} {to te : TE} {Mo Ma : ME} (hr : SimS1 K r f) (ho : SimE K W to Mo) (ha : SimE K W te Ma) : SimE K W (tM1 r to te) (mS1 f Mo Ma) := by
  intro α s H σ w e R Xp m Q q qx
  refine ho α s H σ w e _ _ m _ (fun o hp1 α1 H1 u m1 e1 w1 r1 => ?_) qx
  obtain ⟨a, g1, m1⟩ := on.ex m1
  have eu := asStr_rep g1 r1
  subst eu
  refine ⟨⟨a, rfl⟩, ha α1 { s with hp := hp1 } H1 σ w1 (e.mono e1) _ _ m1 _ (fun y hp2 α2 H2 uy m2 e2 w2 r2 => ?_) (qx.at e1)⟩
  obtain ⟨d, g2, m2⟩ := on.ex m2
  refine hr _ H2 a d uy w2.non (r2.val w2 g2) _ m2 Q fun d v H' p rp st => ?_
  rcases st with rfl | ⟨p0, o, hn, rfl⟩
  · exact q _ _ α2 _ v p (e1.trans e2) w2 rp
  · exact q _ _ α2 _ v p ((e1.trans e2).trans (Ext.fresh hn)) (w2.fresh hn) rp
def strsD : List D → Option (List Str)
  | [] => some []
  | .str a :: r => (strsD r).map (a :: ·)
  | _ :: _ => none
theorem strsD_rep {K : Frag} {A : Av} {H : Hp} : ∀ {ds : List D} {ys : List Str} {vs : List V}, strsD ds = some ys → RepL K A H ds vs → vs = ys.map V.str
  | [], ys, vs, e, h => by cases e; cases h; rfl
  | d :: ds, ys, vs, e, ⟨v, r, e2, h, t⟩ => by
    cases d with
    | str a =>
      simp only [strsD, Option.map_eq_some_iff] at e
      obtain ⟨zs, e3, rfl⟩ := e
      have hv : v = .str a := h
      rw [e2, hv, strsD_rep e3 t]
      rfl
    | _ => cases e
@[simp] theorem strsD_map : ∀ {ys : List Str}, strsD (ys.map D.str) = some ys
  | [] => rfl
  | y :: ys => by simp [strsD, strsD_map (ys := ys)]
theorem strs_rep {K : Frag} {A : Av} {H : Hp} : ∀ {ys : List Str}, RepL K A H (ys.map D.str) (ys.map V.str)
  | [] => rfl
  | y :: ys => ⟨_, _, rfl, rfl, strs_rep⟩
def fJoin : FS1 := fun a d P => on (items d) fun ds => on (strsD ds) fun ys => (ys.map fun x => x.length).sum + ys.length * a.length ≤ 16777216 ∧ P (.str (PySem.Txt.join a ys))
def rJoinT (K : Frag) : V → List V → Hp → VK → Prop := fun x xs H Q => ∃ a p ys, x = V.str a ∧ xs = [V.ref p] ∧ (SqL K H p (ys.map V.str) ∨ SqT K H p (ys.map V.str)) ∧ (ys.map fun x => x.length).sum + ys.length * a.length ≤ 16777216 ∧ Q (V.str (PySem.Txt.join a ys)) H
theorem sim_join {K : Frag} : SimS1 K (rJoinT K) fJoin := by
  intro A H a d v hA r P p Q q
  obtain ⟨ds, e1, p⟩ := on.ex p
  obtain ⟨ys, e2, p⟩ := on.ex p
  obtain ⟨p1, p2⟩ := p
  obtain ⟨b, vs, rfl, h, r2⟩ := r.items e1
  rw [strsD_rep e2 r2] at h
  exact ⟨a, b, ys, rfl, rfl, h, p1, q _ _ _ p2 rfl (.inl rfl)⟩
def fSplit : FS1 := fun a d P => match d with
  | .str b => (b.length == 0) = false ∧ a.length + 2 ≤ sizeLine ∧ P (.lst ((PySem.Txt.split a b).map D.str))
  | _ => False
def rSplitT : V → List V → Hp → VK → Prop := fun x xs H Q => ∃ a b, x = V.str a ∧ xs = [V.str b] ∧ (b.length == 0) = false ∧ a.length + 2 ≤ sizeLine ∧ rNewStrs (PySem.Txt.split a b) H Q
theorem sim_split {K : Frag} : SimS1 K rSplitT fSplit := by
  intro A H a d v hA r P p Q q
  cases d with
  | str b =>
    have hv : v = .str b := r
    subst hv
    exact ⟨a, b, rfl, rfl, p.1, p.2.1, fun l hl => q _ _ _ p.2.2 (new_lst hA hl strs_rep) (.inr ⟨l, _, hl, rfl⟩)⟩
  | _ => exact p.elim
section
variable {X : Cx} {W : WX} {o e : Expr} {to te : TE} {Mo Ma : ME} {pos apos : Pos}
theorem de_join (K : Frag) (ho : DE X W o to Mo) (ha : DE X W e te Ma) (hs : starEach [e] X.env = [(false, eval e X.env)] := by rfl) (hb : attributeBase o "join" X.env (eval o X.env) = eval o X.env := by rfl) (hl : (apos.endLine == pos.line) = true := by rfl) (hK : X.K = K := by rfl) :
    DE X W (.Call (.Attribute o "join" apos) [e] [] pos) (tM1 (rJoinT K) to te) (mS1 fJoin Mo Ma) := by
  subst hK
  exact ⟨pe_join ho.p ha.p hs hb hl, sim_S1 sim_join ho.s ha.s⟩
theorem de_split (K : Frag) (ho : DE X W o to Mo) (ha : DE X W e te Ma) (hs : starEach [e] X.env = [(false, eval e X.env)] := by rfl) (hb : attributeBase o "split" X.env (eval o X.env) = eval o X.env := by rfl) (hl : (apos.endLine == pos.line) = true := by rfl) (hK : X.K = K := by rfl) :
    DE X W (.Call (.Attribute o "split" apos) [e] [] pos) (tM1 rSplitT to te) (mS1 fSplit Mo Ma) := by
  subst hK
  exact ⟨pe_split ho.p ha.p hs hb hl, sim_S1 sim_split ho.s ha.s⟩
end
section
variable {hp : List O} {env : List (Option S)} {n : Nat} {R : S → List O → Prop} {Xp : MX} {Mo Ma : ME} {f : FS1}
@[simp] theorem asStr_d {a : Str} : asStr (.d (.str a)) = some a := rfl
@[simp ↓] theorem x_S1 : mS1 f Mo Ma ⟨hp, env, n⟩ R Xp = Mo ⟨hp, env, n⟩ (fun o hp1 => onH (asStr o) (fun a => Ma ⟨hp1, env, n⟩ (fun y hp2 => onH (val hp2 y) (fun d => f a d fun d' => R (.d d') hp2) .mk) Xp) .mk) Xp := nr rfl
@[simp] theorem xfJoinL {a : Str} {ds : List D} {P : D → Prop} : fJoin a (.lst ds) P = onH (strsD ds) (fun ys => (ys.map fun x => x.length).sum + ys.length * a.length ≤ 16777216 ∧ P (.str (PySem.Txt.join a ys))) .mk := rfl
@[simp] theorem xfJoinT {a : Str} {ds : List D} {P : D → Prop} : fJoin a (.tup ds) P = onH (strsD ds) (fun ys => (ys.map fun x => x.length).sum + ys.length * a.length ≤ 16777216 ∧ P (.str (PySem.Txt.join a ys))) .mk := rfl
@[simp] theorem xfSplit {a b : Str} {P : D → Prop} : fSplit a (.str b) P = ((b.length == 0) = false ∧ a.length + 2 ≤ sizeLine ∧ P (.lst ((PySem.Txt.split a b).map D.str))) := rfl
end
end Mp
set_option Elab.async false
set_option linter.all false
set_option maxRecDepth 100000
set_option maxHeartbeats 4000000
namespace Mp
open PySem PySem.Spec PyProof.Rows L2
def fT (g : Str → Str → D) : FS1 := fun a d P => match d with
  | .str b => P (g a b)
  | _ => False
def rT (g : Str → Str → V) : V → List V → Hp → VK → Prop := fun x xs H Q => ∃ a b, x = V.str a ∧ xs = [V.str b] ∧ Q (g a b) H
theorem sim_fT {K : Frag} {g : Str → Str → D} {g' : Str → Str → V} (hg : ∀ (A : Av) (H : Hp) (a b : Str), Rep K A H (g a b) (g' a b)) : SimS1 K (rT g') (fT g) := by
  intro A H a d v hA r P p Q q
  cases d with
  | str b =>
    have hv : v = .str b := r
    subst hv
    exact ⟨a, b, rfl, rfl, q _ _ _ p (hg _ _ _ _) (.inl rfl)⟩
  | _ => exact p.elim
def fRfind : FS1 := fT fun a b => .int (PySem.Txt.rfind a b)
def fCount : FS1 := fT fun a b => .int (PySem.Txt.count a b)
section
variable {X : Cx} {W : WX} {o e : Expr} {to te : TE} {Mo Ma : ME} {pos apos : Pos}
theorem de_rfind (K : Frag) (ho : DE X W o to Mo) (ha : DE X W e te Ma) (hs : starEach [e] X.env = [(false, eval e X.env)] := by rfl) (hb : attributeBase o "rfind" X.env (eval o X.env) = eval o X.env := by rfl) (hl : (apos.endLine == pos.line) = true := by rfl) (hK : X.K = K := by rfl) :
    DE X W (.Call (.Attribute o "rfind" apos) [e] [] pos) (tM1 (rT fun a b => .int (PySem.Txt.rfind a b)) to te) (mS1 fRfind Mo Ma) := by
  subst hK
  exact ⟨pe_m1 F.slot_str_rfind F.type_str_rfind mt_rfind ho.p ha.p hs hb hl, sim_S1 (sim_fT fun _ _ _ _ => rfl) ho.s ha.s⟩
theorem de_count (K : Frag) (ho : DE X W o to Mo) (ha : DE X W e te Ma) (hs : starEach [e] X.env = [(false, eval e X.env)] := by rfl) (hb : attributeBase o "count" X.env (eval o X.env) = eval o X.env := by rfl) (hl : (apos.endLine == pos.line) = true := by rfl) (hK : X.K = K := by rfl) :
    DE X W (.Call (.Attribute o "count" apos) [e] [] pos) (tM1 (rT fun a b => .int (PySem.Txt.count a b)) to te) (mS1 fCount Mo Ma) := by
  subst hK
  exact ⟨pe_m1 F.slot_str_count F.type_str_count mt_count ho.p ha.p hs hb hl, sim_S1 (sim_fT fun _ _ _ _ => rfl) ho.s ha.s⟩
end
section
variable {a b : Str} {P : D → Prop}
@[simp] theorem xfRfind : fRfind a (.str b) P = P (.int (PySem.Txt.rfind a b)) := rfl
@[simp] theorem xfCount : fCount a (.str b) P = P (.int (PySem.Txt.count a b)) := rfl
end
end Mp
set_option Elab.async false
set_option linter.all false
set_option maxRecDepth 100000
set_option maxHeartbeats 4000000
namespace Mp
open PySem PySem.Spec PyProof.Rows L2
end Mp
set_option Elab.async false
set_option linter.all false
set_option maxRecDepth 100000
set_option maxHeartbeats 4000000
namespace Mp
open PySem PySem.Spec PyProof.Rows L2
def tM2 (r : V → List V → Hp → VK → Prop) (to ta tb : TE) : TE := fun σ H Q => to σ H fun x H1 => (∃ a, x = .str a) ∧ ta σ H1 fun y H2 => tb σ H2 fun z H3 => r x [y, z] H3 Q
theorem pe_m2 {X : Cx} {o e e2 : Expr} {to te te2 : TE} {id : String} {name : Str} {apos pos : Pos} {r : V → List V → Hp → VK → Prop} (slot : Slot "str" name id) (ty : typeOf (.builtin id) = pure (.type "method_descriptor")) (rule : MtR X id r) (ho : PE X o to) (he : PE X e te) (he2 : PE X e2 te2)
    (hs : starEach [e, e2] X.env = [(false, eval e X.env), (false, eval e2 X.env)] := by rfl) (hbase : attributeBase o name X.env (eval o X.env) = eval o X.env := by rfl) (hline : (apos.endLine == pos.line) = true := by rfl) :
    PE X (.Call (.Attribute o name apos) [e, e2] [] pos) (tM2 r to te te2) := by
  refine ⟨fun pins s σ H Q I h => ?_⟩
  refine PySem.Call_method2 hbase hs hline (thn (ho.run pins s σ H _ I h) fun v s1 ⟨x, H1, I1, r1, q1⟩ => ?_)
  obtain ⟨⟨a, rfl⟩, q1⟩ := q1
  obtain ⟨t, rfl⟩ := _root_.id r1
  refine ⟨"str", _, F.plainAttrs_str, slot, ty, typeIs_str _ _ _, (fun _ e => nomatch e), Calls.callWith_builtin rfl (Calls.evalArgs_plain (Calls.spliced_cons ?_))⟩
  refine thn (he.run pins s1 σ H1 _ I1 q1) fun u s2 ⟨y, H2, I2, r2, q2⟩ => Calls.spliced_cons ?_
  exact thn (he2.run pins s2 σ H2 _ I2 q2) fun u3 s3 ⟨z, H3, I3, r3, q3⟩ => Calls.spliced_nil (rule pins s3 σ H3 _ [y, z] _ [u, u3] Q I3 r1 (.cons r2 (.cons r3 .nil)) q3)
def rSw3 : V → List V → Hp → VK → Prop := fun x xs H Q => ∃ (a b : Str) (i : Int), x = .str a ∧ xs = [.str b, .int i] ∧ Q (.bl (PySem.Txt.startswith3 a b i)) H
def mSw3 (Mo Ma Mb : ME) : ME := fun s R Xp => Mo s (fun o hp1 => on (asStr o) fun a => Ma { s with hp := hp1 } (fun y hp2 => on (asStr y) fun b => Mb { s with hp := hp2 } (fun z hp3 => on (val hp3 z) fun d => on (asI d) fun i => R (.d (.bl (PySem.Txt.startswith3 a b i))) hp3) Xp) Xp) Xp
theorem sim_sw3 {K : Frag} {W : WX} {to ta tb : TE} {Mo Ma Mb : ME} (ho : SimE K W to Mo) (ha : SimE K W ta Ma) (hb : SimE K W tb Mb) : SimE K W (tM2 rSw3 to ta tb) (mSw3 Mo Ma Mb) := by
  intro α s H σ w e R Xp m Q q qx
  refine ho α s H σ w e _ _ m _ (fun o hp1 α1 H1 u m1 e1 w1 r1 => ?_) qx
  obtain ⟨a, g1, m1⟩ := on.ex m1
  have eu := asStr_rep g1 r1
  subst eu
  refine ⟨⟨a, rfl⟩, ha α1 { s with hp := hp1 } H1 σ w1 (e.mono e1) _ _ m1 _ (fun y hp2 α2 H2 uy m2 e2 w2 r2 => ?_) (qx.at e1)⟩
  obtain ⟨b, g2, m2⟩ := on.ex m2
  have eb := asStr_rep g2 r2
  subst eb
  refine hb α2 { s with hp := hp2 } H2 σ w2 ((e.mono e1).mono e2) _ _ m2 _ (fun z hp3 α3 H3 uz m3 e3 w3 r3 => ?_) ((qx.at e1).at e2)
  obtain ⟨d, g3, m3⟩ := on.ex m3
  obtain ⟨i, g4, m3⟩ := on.ex m3
  have ez : uz = V.int i := by
    have := r3.val w3 g3
    cases d with
    | int j => cases g4; exact this
    | _ => cases g4
  subst ez
  exact ⟨a, b, i, rfl, rfl, q _ _ α3 _ _ m3 ((e1.trans e2).trans e3) w3 rfl⟩
theorem de_sw3 {X : Cx} {W : WX} {o e e2 : Expr} {to te te2 : TE} {Mo Ma Mb : ME} {apos pos : Pos} (K : Frag) (ho : DE X W o to Mo) (ha : DE X W e te Ma) (hb : DE X W e2 te2 Mb)
    (hs : starEach [e, e2] X.env = [(false, eval e X.env), (false, eval e2 X.env)] := by rfl) (hbase : attributeBase o "startswith" X.env (eval o X.env) = eval o X.env := by rfl) (hline : (apos.endLine == pos.line) = true := by rfl) (hK : X.K = K := by rfl) :
    DE X W (.Call (.Attribute o "startswith" apos) [e, e2] [] pos) (tM2 rSw3 to te te2) (mSw3 Mo Ma Mb) := by
  subst hK
  exact ⟨pe_m2 F.slot_str_startswith F.type_str_startswith mt_startswith3 ho.p ha.p hb.p hs hbase hline, sim_sw3 ho.s ha.s hb.s⟩
def mReplC (y z : Str) (Mo : ME) : ME := fun s R Xp => Mo s (fun o hp1 => on (asStr o) fun x => x.length + (x.length + 1) * z.length ≤ 16777216 ∧ R (.d (.str (PySem.Txt.replace x y z))) hp1) Xp
theorem sim_replC {K : Frag} {W : WX} {to : TE} {y z : Str} {Mo : ME} (ho : SimE K W to Mo) : SimE K W (CwR.tReplC to y z) (mReplC y z Mo) := by
  intro α s H σ w e R Xp m Q q qx
  refine ho α s H σ w e _ _ m _ (fun o hp1 α1 H1 u m1 e1 w1 r1 => ?_) qx
  obtain ⟨x, g1, m1⟩ := on.ex m1
  have eu := asStr_rep g1 r1
  subst eu
  exact ⟨x, rfl, m1.1, q _ _ α1 _ _ m1.2 e1 w1 rfl⟩
theorem de_addRepl {X : Cx} {W : WX} {r : R2} {f : F2} {op : Operator} {o : Expr} {to : TE} {Mo : ME} {c y z : Str} {j j2 j3 : Nat} {p0 c0 c1 apos pos pos2 : Pos} (K : Frag) (hop : OpR X (binaryOp op) r) (hr : Sim2 X.K r f) (ho : DE X W o to Mo) (hyz : (y == z) = false := by decide)
    (hst : starEach [.Constant (.str y) j c0, .Constant (.str z) j2 c1] X.env = [(false, eval (.Constant (.str y) j c0) X.env), (false, eval (.Constant (.str z) j2 c1) X.env)] := by rfl)
    (hbase : attributeBase o "replace" X.env (eval o X.env) = eval o X.env := by rfl) (hline : (apos.endLine == pos.line) = true := by rfl) (hK : X.K = K := by rfl) :
    DE X W (.BinOp (.Constant (.str c) j3 p0) op (.Call (.Attribute o "replace" apos) [.Constant (.str y) j c0, .Constant (.str z) j2 c1] [] pos) pos2) (tOp r (tC (.str c)) (CwR.tReplC to y z)) (m2 f (mC (.str c)) (mReplC y z Mo)) := by
  subst hK
  refine ⟨⟨fun pins s σ H Q I h => ?_⟩, sim_op hr (sim_c fun _ _ => rfl) (sim_replC ho.s)⟩
  have hp := CwR.pet_replC (X := X) (apos := apos) (pos := pos) ho.p hyz hst hbase hline
  refine wpAny_BinOp (Calls.Constant_str ?_)
  exact thn (hp pins { s with toks := s.toks + 1 } σ H _ (by show 1 ≤ s.toks + 1; omega) (I.tok _) (show CwR.tReplC to y z σ H (fun y H2 => r (.str c) y H2 Q) from h)) fun u s2 ⟨y, H2, I2, r2, q2⟩ => hop pins s2 σ H2 (.str c) y _ u Q I2 ⟨_, rfl⟩ r2 q2
section
variable {hp : List O} {env : List (Option S)} {n : Nat} {R : S → List O → Prop} {Xp : MX} {Mo Ma Mb : ME} {y z : Str}
@[simp ↓] theorem x_Sw3 : mSw3 Mo Ma Mb ⟨hp, env, n⟩ R Xp = Mo ⟨hp, env, n⟩ (fun o hp1 => onH (asStr o) (fun a => Ma ⟨hp1, env, n⟩ (fun y hp2 => onH (asStr y) (fun b => Mb ⟨hp2, env, n⟩ (fun z hp3 => onH (val hp3 z) (fun d => onH (asI d) (fun i => R (.d (.bl (PySem.Txt.startswith3 a b i))) hp3) .mk) .mk) Xp) .mk) Xp) .mk) Xp := nr rfl
@[simp ↓] theorem x_ReplC : mReplC y z Mo ⟨hp, env, n⟩ R Xp = Mo ⟨hp, env, n⟩ (fun o hp1 => onH (asStr o) (fun x => x.length + (x.length + 1) * z.length ≤ 16777216 ∧ R (.d (.str (PySem.Txt.replace x y z))) hp1) .mk) Xp := nr rfl
end
def fIndexS : FS1 := fun a d P => match d with
  | .str b => 0 ≤ PySem.Txt.find a b ∧ P (.int (PySem.Txt.find a b))
  | _ => False
def rIndexS : V → List V → Hp → VK → Prop := fun x xs H Q => ∃ a b i rest, x = .str a ∧ xs = [.str b] ∧ Builtin.Str.occurrences a b 0 a.length 1 = i :: rest ∧ Q (.int (i : Nat)) H
theorem sim_indexS {K : Frag} : SimS1 K rIndexS fIndexS := by
  intro A H a d v hA r P p Q q
  cases d with
  | str b =>
    have hv : v = .str b := r
    subst hv
    obtain ⟨h0, p⟩ := p
    cases e : Builtin.Str.occurrences a b 0 a.length 1 with
    | nil =>
      have : PySem.Txt.find a b = -1 := by unfold PySem.Txt.find; rw [e]
      omega
    | cons i rest =>
      have : PySem.Txt.find a b = (i : Int) := by unfold PySem.Txt.find; rw [e]
      rw [this] at p
      exact ⟨a, b, i, rest, rfl, rfl, e, q _ _ _ p rfl (.inl rfl)⟩
  | _ => exact p.elim
theorem de_indexS {X : Cx} {W : WX} {o e : Expr} {to te : TE} {Mo Ma : ME} {pos apos : Pos} (K : Frag) (ho : DE X W o to Mo) (ha : DE X W e te Ma) (hs : starEach [e] X.env = [(false, eval e X.env)] := by rfl) (hb : attributeBase o "index" X.env (eval o X.env) = eval o X.env := by rfl) (hl : (apos.endLine == pos.line) = true := by rfl) (hK : X.K = K := by rfl) :
    DE X W (.Call (.Attribute o "index" apos) [e] [] pos) (tM1 rIndexS to te) (mS1 fIndexS Mo Ma) := by
  subst hK
  exact ⟨pe_m1 F.slot_str_index F.type_str_index mt_sindex ho.p ha.p hs hb hl, sim_S1 sim_indexS ho.s ha.s⟩
@[simp] theorem xfIndexS {a b : Str} {P : D → Prop} : fIndexS a (.str b) P = (0 ≤ PySem.Txt.find a b ∧ P (.int (PySem.Txt.find a b))) := rfl
def W2 (ws : List V) (H : Hp) : Prop := ∃ n m : Int, ws = [.int n, .int m] ∧ n.natAbs.log2 < 1920 ∧ m.natAbs.log2 < 1920
def WdI2 (ds : List D) : Prop := ∃ n m : Int, ds = [.int n, .int m] ∧ n.natAbs.log2 < 1920 ∧ m.natAbs.log2 < 1920
theorem wdI2_of {K : Frag} (A : Av) (H : Hp) (ds : List D) (vs : List V) (r : RepL K A H ds vs) (h : WdI2 ds) : W2 vs H := by
  obtain ⟨n, m, rfl, hl, hm⟩ := h
  obtain ⟨v, t, rfl, r1, r2⟩ := r
  obtain ⟨v2, t2, rfl, r3, r4⟩ := r2
  cases r4
  exact ⟨n, m, by rw [show v = V.int n from r1, show v2 = V.int m from r3], hl, hm⟩
theorem xj_intB {lit lit2 : Str} (hlit : lit.length ≤ 1000) (hlit2 : lit2.length ≤ 1000) (a : Addr) (ws : List V) (H : Hp) (hw : W2 ws H) : tCons (tJd [tC (.str lit), tFmt (tVar 1), tC (.str lit2), tFmt (tVar 2)]) tNil (some (.ref a) :: ws.map some) H fun vs H1 => H1 = H ∧ vs.length = 1 := by
  obtain ⟨n, m, rfl, hlog, hlog2⟩ := hw
  have l1 := int_text_len_1921 hlog
  have l2 := int_text_len_1921 hlog2
  refine ⟨lit, rfl, ?_, .int n, rfl, .inr ⟨n, rfl, hlog, _, rfl, ?_, lit2, rfl, ?_, .int m, rfl, .inr ⟨m, rfl, hlog2, _, rfl, ?_, rfl, rfl⟩⟩⟩
  · rw [sizeLine_eq]
    simp only [Str.length_append]
    show 0 + _ ≤ _
    omega
  · rw [sizeLine_eq]
    simp only [Str.length_append]
    show 0 + _ + _ ≤ _
    omega
  · rw [sizeLine_eq]
    simp only [Str.length_append]
    show 0 + _ + _ + _ ≤ _
    omega
  · rw [sizeLine_eq]
    simp only [Str.length_append]
    show 0 + _ + _ + _ + _ ≤ _
    omega
end Mp
set_option Elab.async false
set_option linter.all false
set_option maxRecDepth 100000
set_option maxHeartbeats 4000000
namespace Mp
open PySem PySem.Spec PyProof.Rows L2
@[simp] theorem intsD_iL : ∀ {ns : List Int}, intsD (iL ns) = some ns
  | [] => rfl
  | n :: ns => by
    show (intsD (iL ns)).bind _ = _
    rw [intsD_iL]
    rfl
end Mp
set_option Elab.async false
set_option linter.all false
set_option maxRecDepth 100000
set_option maxHeartbeats 4000000
namespace Mp
open PySem PySem.Spec PyProof.Rows L2
end Mp
set_option Elab.async false
set_option linter.all false
set_option maxRecDepth 100000
set_option maxHeartbeats 4000000
namespace Mp
open PySem PySem.Spec PyProof.Rows L2
def getT (l : List (List Key × D)) (k : List Key) : Option D := (l.find? fun kv => decide (kv.1 = k)).map (·.2)
section
variable {K : Frag} {A : Av} {H : Hp}
end
section
variable {X : Cx} {W : WX} {a b c e o : Expr} {es : List Expr} {pos : Pos} {ta tb tc te to : TE} {Ma Mb Mc Me Mo : ME} {tA : TA} {MA' : MA}
end
section
variable {hp : List O} {env : List (Option S)} {n : Nat} {R : S → List O → Prop} {Xp : MX} {Ma Mb Mc : ME} {La : MA} {nx bk ct : PS → Prop} {rt : S → List O → Prop} {ex : MX}
end
end Mp
set_option Elab.async false
set_option linter.all false
set_option maxRecDepth 100000
set_option maxHeartbeats 4000000
namespace Mp
open PySem PySem.Spec PyProof.Rows L2
def sgs (x : Str) : List D := x.cps.toList.map fun c => .str ⟨#[c]⟩
theorem walks_s {K : Frag} {α : Mp_} {hp : List O} {H : Hp} {x : Str} : Walks K (Its x) α hp H none (sgs x) := by
  intro α' hp' H' st sa w stl
  refine ⟨fun i d hd => ?_, by show x.cps.size ≤ _; simp [sgs]⟩
  unfold sgs at hd
  rw [List.getElem?_map] at hd
  obtain ⟨c, hc, rfl⟩ := Option.map_eq_some_iff.mp hd
  rw [Array.getElem?_toList] at hc
  refine ⟨(Array.getElem?_eq_some_iff.mp hc).1, fun u H'' ⟨e, c', hc', eu⟩ => ?_⟩
  rw [hc] at hc'
  cases hc'
  exact ⟨.inl e, eu⟩
def miStr (Ma : ME) : MI := fun s Rw Xp => Ma s (fun v hp1 => on (isD v) fun d => on (asS d) fun x => Rw none (sgs x) hp1) Xp
theorem simi_str {K : Frag} {W : WX} {t : TE} {Ma : ME} (ha : SimE K W t Ma) : SimI K W (iStr t) (miStr Ma) := by
  intro α s H σ w e R Xp m Q q qx
  refine ha α s H σ w e _ _ m _ (fun v hp1 α1 H1 u m1 e1 w1 r1 => ?_) qx
  obtain ⟨d, hd, m1⟩ := on.ex m1
  obtain ⟨x, hx, m1⟩ := on.ex m1
  have r2 := r1.isD hd
  cases d with
  | str y =>
    cases hx
    exact ⟨_, r2, q _ _ _ α1 H1 _ m1 e1 w1 walks_s trivial trivial⟩
  | _ => cases hx
theorem di_str {X : Cx} {W : WX} {tg e : Expr} {te : TE} {Me : ME} (he : DE X W e te Me) : DI X W tg e (iStr te) (miStr Me) := ⟨pi_str he.p, simi_str he.s⟩
section
variable {hp : List O} {env : List (Option S)} {n : Nat} {Rw : Option Wk → List D → List O → Prop} {Xp : MX} {Ma : ME}
@[simp ↓] theorem x_iStr : miStr Ma ⟨hp, env, n⟩ Rw Xp = Ma ⟨hp, env, n⟩ (fun v hp1 => onH (isD v) (fun d => onH (asS d) (fun x => Rw none (sgs x) hp1) .mk) .mk) Xp := nr rfl
end
end Mp
set_option Elab.async false
set_option linter.all false
set_option maxRecDepth 100000
set_option maxHeartbeats 4000000
namespace Mp
open PySem PySem.Spec PyProof PyProof.Rows L2
end Mp
set_option Elab.async false
set_option linter.all false
set_option maxRecDepth 100000
set_option maxHeartbeats 1000000
namespace Mp
open PySem PySem.Spec PyProof.Rows L2
def tNevS : TS := fun _ _ _ => False
def mNevS : MS := fun _ _ => False
section
variable {X : Cx} {W : WX} {e : Expr} {st : Stmt}
theorem ds_nev : DS X W st tNevS mNevS := ⟨⟨fun _ _ _ _ _ _ z => z.elim⟩, fun _ _ _ _ _ _ _ z => z.elim⟩
end
section
variable {s : PS} {k : MK} {R : S → List O → Prop} {Xp : MX}
@[simp ↓] theorem x_nevS : mNevS s k = False := nr rfl
end
end Mp
set_option Elab.async false
set_option linter.all false
set_option maxRecDepth 100000
set_option maxHeartbeats 4000000
namespace Mp
open PySem PySem.Spec PyProof.Rows L2
section
variable {X : Cx} {tg : Expr}
end
end Mp
set_option Elab.async false
set_option linter.all false
set_option maxRecDepth 100000
set_option maxHeartbeats 4000000
namespace Pl
open PySem PySem.Spec PyProof.Rows L2 Mp
def m__law_mix : MF := mDef 4 false
    ((mSeq (mAsg (m2 (fI (fun _ j => 0 < j) fun i j => .int (i % j)) (mN fInt (mCons (m2 fAdd (m2 fAdd (m2 fMul (mVar 0) (mC (.int 48271))) (m2 fMul (mVar 1) (mC (.int 1234567891)))) (mC (.int 12345679))) mNil)) (mC (.int 2147483647))) (mgName 2))
    (mSeq (mAsg (m2 (fI (fun _ j => 0 < j) fun i j => .int (i % j)) (mN fInt (mCons (m2 fAdd (m2 fAdd (m2 fAdd (m2 fMul (mVar 2) (mVar 2)) (m2 fMul (m2 (fI CDivW fun i j => .int (i / j)) (mVar 2) (mC (.int 3))) (mC (.int 16807)))) (mVar 1)) (mC (.int 65537))) mNil)) (mC (.int 2147483629))) (mgName 3))
    (mRet (m2 (fI (fun _ j => 0 < j) fun i j => .int (i % j)) (mN fInt (mCons (m2 fAdd (m2 fMul (mVar 3) (mC (.int 69621))) (m2 (fI CDivW fun i j => .int (i / j)) (mVar 2) (mC (.int 1024)))) mNil)) (mC (.int 2147483587)))))))
def m__law_store : MF := mDef 3 false
    ((mSeq (mAsg (mC (.int 7)) (mgName 1))
    (mSeq (mFor (miSq (mVar 0)) (mgName 2) (mAsg (mCall 2 m__law_mix [] (mCons (mVar 1) (mCons (m2 (fI (fun _ j => 0 < j) fun i j => .int (i % j)) (mN fInt (mCons (mVar 2) mNil)) (mC (.int 2147483647))) mNil))) (mgName 1)))
    (mRet (mDisp (((mC (.str "cells")), (mN fList (mCons (mVar 0) mNil))) :: (((mC (.str "cell")), (mC (.int 0))) :: (((mC (.str "rest")), (mC (.int 0))) :: (((mC (.str "small")), (mC (.int 0))) :: (((mC (.str "left")), (mC (.int 0))) :: (((mC (.str "turn")), (mC (.int 0))) :: (((mC (.str "seed")), (mVar 1)) :: []))))))))))))
def m__law_take : MF := mDef 8 false
    ((mSeq (mIfS (mTest (m2 (fI0 fun i j => .bl (decide (i < j))) (mVar 1) (mC (.int 2)))) (mRet (mC (.int 0))) mNext)
    (mSeq (mIfS (mAnd (mTest (m2 fEq (mDGet (mVar 0) (mC (.str "rest"))) (mC (.int 0)))) (mAnd (mTest (m2 fEq (mDGet (mVar 0) (mC (.str "left"))) (mC (.int 0)))) (mTest (m2 (fI0 fun i j => .bl (decide (i < j))) (mDGet (mVar 0) (mC (.str "cell"))) (mN fLen (mCons (mDGet (mVar 0) (mC (.str "cells"))) mNil)))))) (mSeq (mAsg (m2 fIx (mDGet (mVar 0) (mC (.str "cells"))) (mDGet (mVar 0) (mC (.str "cell")))) (mgName 2))
    (mSeq (mDPut (mVar 0) (mC (.str "cell")) (m2 fAdd (mDGet (mVar 0) (mC (.str "cell"))) (mC (.int 1))))
    (mIfS (mTest (m2 (fI0 fun i j => .bl (decide (j ≤ i))) (mN fAbs (mCons (mVar 2) mNil)) (m2 (fI CPow fun i j => .int (i ^ j.toNat)) (mC (.int 10)) (mC (.int 18))))) (mDPut (mVar 0) (mC (.str "rest")) (mN fAbs (mCons (mVar 2) mNil))) (mSeq (mDPut (mVar 0) (mC (.str "small")) (mVar 2))
    (mDPut (mVar 0) (mC (.str "left")) (mC (.int 2))))))) mNext)
    (mSeq (mIfS (mTest (m2 (fI0 fun i j => .bl (decide (j < i))) (mDGet (mVar 0) (mC (.str "rest"))) (mC (.int 0)))) (mSeq (mAsg (mDGet (mVar 0) (mC (.str "rest"))) (mgName 3))
    (mSeq (mDPut (mVar 0) (mC (.str "rest")) (m2 (fI CDivW fun i j => .int (i / j)) (mVar 3) (mVar 1)))
    (mRet (m2 (fI (fun _ j => 0 < j) fun i j => .int (i % j)) (mN fInt (mCons (mVar 3) mNil)) (mVar 1))))) mNext)
    (mSeq (mAsg (mDGet (mVar 0) (mC (.str "seed"))) (mgName 4))
    (mSeq (mIfS (mTest (m2 (fI0 fun i j => .bl (decide (j < i))) (mDGet (mVar 0) (mC (.str "left"))) (mC (.int 0)))) (mSeq (mDPut (mVar 0) (mC (.str "left")) (m2 (fI0 fun i j => .int (i - j)) (mDGet (mVar 0) (mC (.str "left"))) (mC (.int 1))))
    (mAsg (mDGet (mVar 0) (mC (.str "small"))) (mgName 4))) mNext)
    (mSeq (mAsg (mC (.int 0)) (mgName 5))
    (mSeq (mAsg (mC (.int 1)) (mgName 6))
    (mSeq (mIfS (mTest (m2 (fI0 fun i j => .bl (decide (j < i))) (mVar 1) (m2 (fI CPow fun i j => .int (i ^ j.toNat)) (mC (.int 10)) (mC (.int 8))))) (mAsg (mC (.int 6)) (mgName 6)) mNext)
    (mSeq (mFor (miRng f1R (mCons (mVar 6) mNil)) (mgName 7) (mSeq (mDPut (mVar 0) (mC (.str "turn")) (m2 fAdd (mDGet (mVar 0) (mC (.str "turn"))) (mC (.int 1))))
    (mAsg (m2 fAdd (m2 fMul (mVar 5) (mC (.int 2147483587))) (mCall 2 m__law_mix [] (mCons (mVar 4) (mCons (mDGet (mVar 0) (mC (.str "turn"))) mNil)))) (mgName 5))))
    (mRet (m2 (fI (fun _ j => 0 < j) fun i j => .int (i % j)) (mN fInt (mCons (mVar 5) mNil)) (mVar 1)))))))))))))
def m__law_pick : MF := mDef 2 false
    ((mRet (m2 fIx (mVar 1) (mCall 2 m__law_take [] (mCons (mVar 0) (mCons (mN fLen (mCons (mVar 1) mNil)) mNil))))))
def b__law_equal (z_self : MF) : MF := mDef 3 false
    ((mSeq (mIfS (mTest (mN fIsi (mCons (mVar 0) (mCons (mTup (mCons (mC (.ty "list")) (mCons (mC (.ty "tuple")) mNil))) mNil)))) (mSeq (mIfS (mOr (mTest (m2 fNe (mN fIsi (mCons (mVar 0) (mCons (mC (.ty "list")) mNil))) (mN fIsi (mCons (mVar 1) (mCons (mC (.ty "list")) mNil))))) (mTest (m2 fNe (mN fIsi (mCons (mVar 0) (mCons (mC (.ty "tuple")) mNil))) (mN fIsi (mCons (mVar 1) (mCons (mC (.ty "tuple")) mNil)))))) (mRet (mC (.bl false))) mNext)
    (mSeq (mIfS (mTest (m2 fNe (mN fLen (mCons (mVar 0) mNil)) (mN fLen (mCons (mVar 1) mNil)))) (mRet (mC (.bl false))) mNext)
    (mSeq (mFor (miRng f1R (mCons (mN fLen (mCons (mVar 0) mNil)) mNil)) (mgName 2) (mIfS (mNot (mTest (mCall 2 z_self [] (mCons (m2 fIx (mVar 0) (mVar 2)) (mCons (m2 fIx (mVar 1) (mVar 2)) mNil))))) (mRet (mC (.bl false))) mNext))
    (mRet (mC (.bl true)))))) mNext)
    (mSeq (mIfS (mTest (mN fIsi (mCons (mVar 1) (mCons (mTup (mCons (mC (.ty "list")) (mCons (mC (.ty "tuple")) mNil))) mNil)))) (mRet (mC (.bl false))) mNext)
    (mSeq (mIfS (mOr (mTest (m2 fIsN (mVar 0) (mC .non))) (mTest (m2 fIsN (mVar 1) (mC .non)))) (mRet (mAndV (m2 fIsN (mVar 0) (mC .non)) (m2 fIsN (mVar 1) (mC .non)))) mNext)
    (mSeq (mIfS (mOr (mTest (mN fIsi (mCons (mVar 0) (mCons (mC (.ty "bool")) mNil)))) (mTest (mN fIsi (mCons (mVar 1) (mCons (mC (.ty "bool")) mNil))))) (mRet (mAndV (mN fIsi (mCons (mVar 0) (mCons (mC (.ty "bool")) mNil))) (mAndV (mN fIsi (mCons (mVar 1) (mCons (mC (.ty "bool")) mNil))) (m2 fEq (mVar 0) (mVar 1))))) mNext)
    (mSeq (mIfS (mOr (mTest (mN fIsi (mCons (mVar 0) (mCons (mC (.ty "str")) mNil)))) (mTest (mN fIsi (mCons (mVar 1) (mCons (mC (.ty "str")) mNil))))) (mRet (mAndV (mN fIsi (mCons (mVar 0) (mCons (mC (.ty "str")) mNil))) (mAndV (mN fIsi (mCons (mVar 1) (mCons (mC (.ty "str")) mNil))) (m2 fEq (mVar 0) (mVar 1))))) mNext)
    (mRet (mAndV (mN fIsi (mCons (mVar 0) (mCons (mC (.ty "int")) mNil))) (mAndV (mN fIsi (mCons (mVar 1) (mCons (mC (.ty "int")) mNil))) (m2 fEq (mVar 0) (mVar 1)))))))))))
def m__law_equal : Nat → MF
  | 0 => fun _ _ _ _ => False
  | n + 1 => b__law_equal (m__law_equal n)
def m__law_span : MF := mDef 4 false
    ((mSeq (mAsg (mCall 2 m__law_take [] (mCons (mVar 0) (mCons (mC (.int 6)) mNil))) (mgName 3))
    (mSeq (mIfS (mOr (mTest (m2 fEq (mVar 3) (mC (.int 0)))) (mTest (m2 (fI0 fun i j => .bl (decide (i ≤ j))) (mVar 2) (mVar 1)))) (mRet (mVar 1)) mNext)
    (mSeq (mIfS (mTest (m2 fEq (mVar 3) (mC (.int 1)))) (mRet (mVar 2)) mNext)
    (mRet (m2 fAdd (mVar 1) (mCall 2 m__law_take [] (mCons (mVar 0) (mCons (m2 fAdd (m2 (fI0 fun i j => .int (i - j)) (mVar 2) (mVar 1)) (mC (.int 1))) mNil)))))))))
def m__law_count : MF := mDef 3 false
    ((mSeq (mIfS (mTest (m2 fEq (mCall 2 m__law_take [] (mCons (mVar 0) (mCons (mC (.int 12)) mNil))) (mC (.int 11)))) (mRet (mCall 3 m__law_span [] (mCons (mVar 0) (mCons (mC (.int 0)) (mCons (mVar 2) mNil))))) mNext)
    (mRet (mCall 2 m__law_take [] (mCons (mVar 0) (mCons (m2 fAdd (mVar 1) (mC (.int 1))) mNil))))))
def m__law_octet : MF := mDef 1 false
    ((mSeq (mIfS (mTest (m2 fEq (mCall 2 m__law_take [] (mCons (mVar 0) (mCons (mC (.int 2)) mNil))) (mC (.int 0)))) (mRet (mCall 2 m__law_pick [] (mCons (mVar 0) (mCons (mLst (mCons (mC (.int 0)) (mCons (mC (.int 1)) (mCons (mC (.int 2)) (mCons (mC (.int 31)) (mCons (mC (.int 32)) (mCons (mC (.int 63)) (mCons (mC (.int 64)) (mCons (mC (.int 127)) (mCons (mC (.int 128)) (mCons (mC (.int 129)) (mCons (mC (.int 130)) (mCons (mC (.int 132)) (mCons (mC (.int 133)) (mCons (mC (.int 159)) (mCons (mC (.int 160)) (mCons (mC (.int 223)) (mCons (mC (.int 254)) (mCons (mC (.int 255)) mNil))))))))))))))))))) mNil)))) mNext)
    (mRet (mCall 2 m__law_take [] (mCons (mVar 0) (mCons (mC (.int 256)) mNil))))))
end Pl
set_option Elab.async false
set_option linter.all false
set_option maxRecDepth 100000
set_option maxHeartbeats 100000
namespace Pl
open PySem PySem.Spec PyProof.Rows L2 Mp
theorem s_mix {hp : List O} {a b : Int} {R : S → List O → Prop} {Xp : MX} {t : Tg (m__law_mix, R, Xp)} (h : ∀ r : Int, R (.d (.int r)) hp) : mfH m__law_mix hp [.d (.int a), .d (.int b)] R Xp t := by
  refine mfH_of ?_
  unfold m__law_mix
  simp
  exact ⟨.inl (.inl ⟨by omega, by omega⟩), h _⟩
def sto (cs : List Int) (c r s l t sd : Int) : List (Key × D) := [(.inr "cells", .lst (iL cs)), (.inr "cell", .int c), (.inr "rest", .int r), (.inr "small", .int s), (.inr "left", .int l), (.inr "turn", .int t), (.inr "seed", .int sd)]
section
variable {cs : List Int} {c r s l t sd x : Int}
@[simp] theorem g1 : getK (sto cs c r s l t sd) (.inr "cells") = some (.lst (iL cs)) := rfl
@[simp] theorem g2 : getK (sto cs c r s l t sd) (.inr "cell") = some (.int c) := rfl
@[simp] theorem g3 : getK (sto cs c r s l t sd) (.inr "rest") = some (.int r) := rfl
@[simp] theorem g4 : getK (sto cs c r s l t sd) (.inr "small") = some (.int s) := rfl
@[simp] theorem g5 : getK (sto cs c r s l t sd) (.inr "left") = some (.int l) := rfl
@[simp] theorem g6 : getK (sto cs c r s l t sd) (.inr "turn") = some (.int t) := rfl
@[simp] theorem g7 : getK (sto cs c r s l t sd) (.inr "seed") = some (.int sd) := rfl
@[simp] theorem p2 : setK (sto cs c r s l t sd) (.inr "cell") (.int x) = sto cs x r s l t sd := rfl
@[simp] theorem p3 : setK (sto cs c r s l t sd) (.inr "rest") (.int x) = sto cs c x s l t sd := rfl
@[simp] theorem p4 : setK (sto cs c r s l t sd) (.inr "small") (.int x) = sto cs c r x l t sd := rfl
@[simp] theorem p5 : setK (sto cs c r s l t sd) (.inr "left") (.int x) = sto cs c r s x t sd := rfl
@[simp] theorem p6 : setK (sto cs c r s l t sd) (.inr "turn") (.int x) = sto cs c r s l x sd := rfl
@[simp] theorem sto_len : (sto cs c r s l t sd).length = 7 := rfl
@[simp] theorem sto_ok : ((sto cs c r s l t sd).length < sizeLine) = True := by simp [sizeLine]
end
def St (o : O) : Prop := ∃ cs c r s l t sd, o = .dct (sto cs c r s l t sd) ∧ 0 ≤ c
theorem s_takeW {hp : List O} {n : Nat} {many : Int} {o : O} {R : S → List O → Prop} {Xp : MX} {tg : Tg (m__law_take, R, Xp)} (ho : hp[n]? = some o) (hs : St o) (hm : many < 2 ^ 250)
    (h : ∀ (r : Int) o', St o' → 0 ≤ r → (2 ≤ many → r < many) → (many < 2 → r = 0) → R (.d (.int r)) (hp.set n o')) : mfH m__law_take hp [.mu n, .d (.int many)] R Xp tg := by
  obtain ⟨cs, c, r, s, l, t, sd, rfl, hc⟩ := hs
  have hg := set_at ho
  refine mfH_of ?_
  unfold m__law_take
  simp only [x_def]
  refine seq_cut (fun hp' env' => hp = hp' ∧ [some (.mu n), some (.d (.int many)), none, none, none, none, none, none] = env' ∧ 2 ≤ many) (fun N hN => ?_) ?_
  · simp
    refine brH_of (fun hb => ?_) (fun hb => ?_)
    · simp at hb
      have := h 0 (.dct (sto cs c r s l t sd)) ⟨_, _, _, _, _, _, _, rfl, hc⟩ (by omega) (by omega) (by omega)
      rw [set_same ho] at this
      simpa using this
    · simp at hb
      simpa using hN _ _ ⟨rfl, rfl, hb⟩
  rintro hp' env' ⟨rfl, rfl, hm2⟩
  refine seq_cut (fun hp' env' => ∃ c r s l t sd x, hp' = hp.set n (.dct (sto cs c r s l t sd)) ∧ env' = [some (.mu n), some (.d (.int many)), x, none, none, none, none, none] ∧ 0 ≤ c) (fun N hN => ?_) ?_
  · have hN0 := hN _ _ ⟨c, r, s, l, t, sd, none, rfl, rfl, hc⟩
    rw [set_same ho] at hN0
    simp [ho]
    refine brH_of (fun hb => ?_) (fun hb => ?_)
    rotate_left
    · simpa using hN0
    simp [ho]
    refine brH_of (fun hb => ?_) (fun hb => ?_)
    rotate_left
    · simpa using hN0
    simp [ho]
    refine brH_of (fun hb => ?_) (fun hb => ?_)
    rotate_left
    · simpa using hN0
    simp at hb
    simp [ho, atI_nat hc hb]
    refine brH_of (fun hb => ?_) (fun hb => ?_)
    · simp [ho, hg]
      exact hN _ _ ⟨_, _, _, _, _, _, _, rfl, rfl, by omega⟩
    · simp [ho, hg]
      exact hN _ _ ⟨_, _, _, _, _, _, _, rfl, rfl, by omega⟩
  rintro _ _ ⟨c, r, s, l, t, sd, x, rfl, rfl, hc⟩
  refine seq_cut (fun hp' env' => hp.set n (.dct (sto cs c r s l t sd)) = hp' ∧ [some (.mu n), some (.d (.int many)), x, none, none, none, none, none] = env') (fun N hN => ?_) ?_
  · simp [hg]
    refine brH_of (fun hb => ?_) (fun hb => ?_)
    · have h1 : (0 : Int) < many := by omega
      have h2 : CDivW r many = True := eq_true (wide_div (b := 250) h1 (by omega) (by decide) (by decide))
      simp [hg, h1, h2, retP]
      exact h _ _ ⟨_, _, _, _, _, _, _, rfl, hc⟩ (Int.emod_nonneg _ (by omega)) (fun _ => Int.emod_lt_of_pos _ h1) (fun z => by omega)
    · simpa using hN _ _ ⟨rfl, rfl⟩
  rintro _ _ ⟨rfl, rfl⟩
  refine seq_cut (fun hp' env' => hp.set n (.dct (sto cs c r s l t sd)) = hp' ∧ [some (.mu n), some (.d (.int many)), x, none, some (.d (.int sd)), none, none, none] = env') (fun N hN => ?_) ?_
  · simpa [hg] using hN _ _ ⟨rfl, rfl⟩
  rintro _ _ ⟨rfl, rfl⟩
  refine seq_cut (fun hp' env' => ∃ l b, hp' = hp.set n (.dct (sto cs c r s l t sd)) ∧ env' = [some (.mu n), some (.d (.int many)), x, none, some (.d (.int b)), none, none, none]) (fun N hN => ?_) ?_
  · simp [hg]
    refine brH_of (fun hb => ?_) (fun hb => ?_)
    · simp [hg]
      exact hN _ _ ⟨_, _, rfl, rfl⟩
    · simpa using hN _ _ ⟨_, _, rfl, rfl⟩
  rintro _ _ ⟨l, b, rfl, rfl⟩
  simp only [x_seq, x_asg, x_c, x_gName]
  refine cut_nx (fun hp' env' => ∃ k : Nat, k ≤ 6 ∧ hp' = hp.set n (.dct (sto cs c r s l t sd)) ∧ env' = [some (.mu n), some (.d (.int many)), x, none, some (.d (.int b)), some (.d (.int 0)), some (.d (.int k)), none]) (fun N hN => ?_) ?_
  · simp
    refine brH_of (fun hb => ?_) (fun hb => ?_)
    · simpa using hN _ _ ⟨6, by omega, rfl, rfl⟩
    · simpa using hN _ _ ⟨1, by omega, rfl, rfl⟩
  rintro _ _ ⟨k, hk, rfl, rfl⟩
  have k1 : (k : Int) < 4611686018427387904 := by omega
  have k2 : (-4611686018427387904 : Int) ≤ k := by omega
  simp [k1, k2]
  refine forH_of (fun ds hp' env' => ∃ t tot y, hp' = hp.set n (.dct (sto cs c r s l t sd)) ∧ env' = [some (.mu n), some (.d (.int many)), x, none, some (.d (.int b)), some (.d (.int tot)), some (.d (.int k)), y]) ⟨_, _, _, rfl, rfl⟩ ?_ ?_
  · rintro d ds _ _ N ⟨t, tot, y, rfl, rfl⟩ hN
    simp [hg]
    refine s_mix fun z => ?_
    simp
    exact hN _ _ trivial ⟨_, _, _, rfl, rfl⟩
  · rintro _ _ ⟨t, tot, y, rfl, rfl⟩
    have h1 : (0 : Int) < many := by omega
    simp [h1]
    exact h _ _ ⟨_, _, _, _, _, _, _, rfl, hc⟩ (Int.emod_nonneg _ (by omega)) (fun _ => Int.emod_lt_of_pos _ h1) (fun z => by omega)
theorem s_take {hp : List O} {n : Nat} {many : Int} {o : O} {R : S → List O → Prop} {Xp : MX} {tg : Tg (m__law_take, R, Xp)} (ho : hp[n]? = some o) (hs : St o) (hm : many < 2 ^ 64)
    (h : ∀ (r : Int) o', St o' → 0 ≤ r → (2 ≤ many → r < many) → (many < 2 → r = 0) → R (.d (.int r)) (hp.set n o')) : mfH m__law_take hp [.mu n, .d (.int many)] R Xp tg :=
  s_takeW ho hs (Int.lt_trans hm (by decide)) h
end Pl
set_option Elab.async false
set_option linter.all false
set_option maxRecDepth 100000
set_option maxHeartbeats 100000
namespace Pl
open PySem PySem.Spec PyProof.Rows L2 Mp
variable {hp : List O} {n : Nat} {o : O} {R : S → List O → Prop} {Xp : MX}
theorem s_store {ns : List Int} {tg : Tg (m__law_store, R, Xp)} (hl : ns.length ≤ 63) (h : ∀ o', St o' → R (.mu hp.length) (hp ++ [o'])) : mfH m__law_store hp [.d (.fl (iL ns))] R Xp tg := by
  refine mfH_of ?_
  unfold m__law_store
  simp
  refine forH_of (fun ds hp' env' => (∃ ms : List Int, ds = iL ms) ∧ hp' = hp ∧ ∃ a y, env' = [some (.d (.fl (iL ns))), some (.d (.int a)), y]) ⟨⟨ns, rfl⟩, rfl, _, _, rfl⟩ ?_ ?_
  · rintro d ds _ _ N ⟨⟨ms, e⟩, rfl, a, y, rfl⟩ hN
    cases ms with
    | nil => cases e
    | cons m ms =>
      cases e
      simp
      refine s_mix fun z => ?_
      simp
      exact hN _ _ trivial ⟨⟨ms, rfl⟩, rfl, _, _, rfl⟩
  · rintro _ _ ⟨_, rfl, a, y, rfl⟩
    simp
    refine onH_of (x := sto ns 0 0 0 0 0 a) rfl ⟨by simp, ?_⟩
    rw [show mergeD [] (sto ns 0 0 0 0 0 a) = sto ns 0 0 0 0 0 a from rfl]
    simp
    exact h _ ⟨_, _, _, _, _, _, _, rfl, by omega⟩
theorem s_pick {xs : List D} {tg : Tg (m__law_pick, R, Xp)} (ho : hp[n]? = some o) (hs : St o) (h0 : 0 < xs.length) (h1 : xs.length < 2 ^ 60) (h : ∀ (i : Nat) (hi : i < xs.length) o', St o' → R (.d xs[i]) (hp.set n o')) : mfH m__law_pick hp [.mu n, .d (.lst xs)] R Xp tg := by
  refine mfH_of ?_
  unfold m__law_pick
  simp
  refine s_take ho hs (by omega) fun r o' hs' h0 h2 h3 => ?_
  have hr : r < xs.length := by
    by_cases z : (2 : Int) ≤ xs.length
    · exact h2 z
    · have := h3 (by omega); omega
  simp [atI_nat h0 hr]
  exact h _ _ _ hs'
theorem s_span {lo hi : Int} {tg : Tg (m__law_span, R, Xp)} (ho : hp[n]? = some o) (hs : St o) (hb : hi - lo < 2 ^ 59) (h : ∀ (r : Int) o', St o' → lo ≤ r → (r ≤ hi ∨ r = lo) → R (.d (.int r)) (hp.set n o')) : mfH m__law_span hp [.mu n, .d (.int lo), .d (.int hi)] R Xp tg := by
  have hg := set_at ho
  refine mfH_of ?_
  unfold m__law_span
  simp
  refine s_take ho hs (by omega) fun r o' hs' h0 h2 h3 => ?_
  simp
  refine brH_of (fun hb => ?_) (fun hb => ?_)
  · simp
    exact h _ _ hs' (by omega) (.inr rfl)
  simp
  refine brH_of (fun hb => ?_) (fun hb => ?_)
  · simp
    exact h _ _ hs' (by omega) (.inr rfl)
  simp at hb
  simp
  refine brH_of (fun hb => ?_) (fun hb => ?_)
  · simp
    exact h _ _ hs' (by omega) (.inl (by omega))
  simp
  refine s_take (hg _) hs' (by omega) fun r o' hs' h0 h2 h3 => ?_
  simp
  exact h _ _ hs' (by omega) (by omega)
theorem s_count {few many : Int} {tg : Tg (m__law_count, R, Xp)} (ho : hp[n]? = some o) (hs : St o) (h1 : few < 2 ^ 59) (h2 : many < 2 ^ 59) (h3 : 0 ≤ few) (h4 : 0 ≤ many) (h : ∀ (r : Int) o', St o' → 0 ≤ r → (r ≤ few ∨ r ≤ many) → R (.d (.int r)) (hp.set n o')) : mfH m__law_count hp [.mu n, .d (.int few), .d (.int many)] R Xp tg := by
  have hg := set_at ho
  refine mfH_of ?_
  unfold m__law_count
  simp
  refine s_take ho hs (by omega) fun r o' hs' h0 h2 h3 => ?_
  simp
  refine brH_of (fun hb => ?_) (fun hb => ?_)
  · simp
    refine s_span (hg _) hs' (by omega) fun r o' hs' h0 h2 => ?_
    simp
    exact h _ _ hs' h0 (by omega)
  simp
  refine s_take (hg _) hs' (by omega) fun r o' hs' h0 h2 h3 => ?_
  simp
  exact h _ _ hs' h0 (by omega)
theorem s_octet {tg : Tg (m__law_octet, R, Xp)} (ho : hp[n]? = some o) (hs : St o) (h : ∀ (r : Int) o', St o' → 0 ≤ r → r ≤ 255 → R (.d (.int r)) (hp.set n o')) : mfH m__law_octet hp [.mu n] R Xp tg := by
  have hg := set_at ho
  refine mfH_of ?_
  unfold m__law_octet
  simp
  refine s_take ho hs (by omega) fun r o' hs' h0 h2 h3 => ?_
  simp
  refine brH_of (fun hb => ?_) (fun hb => ?_)
  · simp
    refine s_pick (hg _) hs' (by simp) (by simp) fun i hi o' hs' => ?_
    simp at hi
    have : i = 0 ∨ i = 1 ∨ i = 2 ∨ i = 3 ∨ i = 4 ∨ i = 5 ∨ i = 6 ∨ i = 7 ∨ i = 8 ∨ i = 9 ∨ i = 10 ∨ i = 11 ∨ i = 12 ∨ i = 13 ∨ i = 14 ∨ i = 15 ∨ i = 16 ∨ i = 17 := by omega
    rcases this with rfl | rfl | rfl | rfl | rfl | rfl | rfl | rfl | rfl | rfl | rfl | rfl | rfl | rfl | rfl | rfl | rfl | rfl <;> (simp; exact h _ _ hs' (by omega) (by omega))
  simp
  refine s_take (hg _) hs' (by omega) fun r o' hs' h0 h2 h3 => ?_
  simp
  exact h _ _ hs' h0 (by omega)
end Pl
set_option Elab.async false
set_option linter.all false
set_option maxRecDepth 100000
set_option maxHeartbeats 4000000
namespace Pl
open PySem PySem.Spec PyProof.Rows L2 Mp
def m__law_reserved : MF := mDef 1 false
    ((mSeq (mAsg (mC (.str "true false nothing unnamed unknown kept path boolean number names bits octets text sequence set row bag")) (mgName 0))
    (mSeq (mAsg (m2 fAdd (mVar 0) (mC (.str " of choice size from least most optional default numbered own shared private place round module"))) (mgName 0))
    (mRet (mS1 fSplit (m2 fAdd (mVar 0) (mC (.str " uses"))) (mC (.str " ")))))))
def m__law_name : MF := mDef 5 false
    ((mSeq (mAsg (mC (.str "abcdefghijklmnopqrstuvwxyz0123456789")) (mgName 1))
    (mSeq (mIfS (mTest (m2 fEq (mCall 2 m__law_take [] (mCons (mVar 0) (mCons (mC (.int 9)) mNil))) (mC (.int 8)))) (mRet (m2 fAdd (mCall 2 m__law_pick [] (mCons (mVar 0) (mCons (mCall 0 m__law_reserved [] mNil) mNil))) (mCall 2 m__law_pick [] (mCons (mVar 0) (mCons (mLst (mCons (mC (.str "x")) (mCons (mC (.str "0")) (mCons (mC (.str "z9")) mNil)))) mNil))))) mNext)
    (mSeq (mAsg (m2 fIx (mVar 1) (mCall 2 m__law_take [] (mCons (mVar 0) (mCons (mC (.int 26)) mNil)))) (mgName 2))
    (mSeq (mAsg (mCall 2 m__law_pick [] (mCons (mVar 0) (mCons (mLst (mCons (mC (.int 1)) (mCons (mC (.int 1)) (mCons (mC (.int 1)) (mCons (mC (.int 2)) (mCons (mC (.int 2)) (mCons (mC (.int 3)) (mCons (mC (.int 5)) (mCons (mC (.int 19)) (mCons (mC (.int 20)) mNil)))))))))) mNil))) (mgName 3))
    (mSeq (mIfS (mTest (m2 (fI0 fun i j => .bl (decide (j < i))) (mVar 3) (mC (.int 1)))) (mSeq (mAsg (m2 fAdd (mVar 2) (m2 fMul (m2 fIx (mVar 1) (mCall 2 m__law_take [] (mCons (mVar 0) (mCons (mC (.int 36)) mNil)))) (m2 (fI0 fun i j => .int (i - j)) (mVar 3) (mC (.int 1))))) (mgName 2))
    (mSeq (mAsg (m2 fAdd (mC (.int 1)) (mCall 2 m__law_take [] (mCons (mVar 0) (mCons (m2 (fI0 fun i j => .int (i - j)) (mVar 3) (mC (.int 1))) mNil)))) (mgName 4))
    (mAsg (m2 fAdd (m2 fAdd (mSl (mVar 2) moNone (moSome (mVar 4))) (m2 fIx (mVar 1) (mCall 2 m__law_take [] (mCons (mVar 0) (mCons (mC (.int 36)) mNil))))) (mSl (mVar 2) (moSome (m2 fAdd (mVar 4) (mC (.int 1)))) moNone)) (mgName 2)))) mNext)
    (mSeq (mIfS (mTest (m2 (fIn false) (mVar 2) (mCall 0 m__law_reserved [] mNil))) (mAsg (m2 fAdd (mVar 2) (mC (.str "x"))) (mgName 2)) mNext)
    (mRet (mVar 2)))))))))
end Pl
set_option Elab.async false
set_option linter.all false
set_option maxRecDepth 100000
set_option maxHeartbeats 400000
namespace Pl
open PySem PySem.Spec PyProof.Rows L2 Mp
def plD : Nat → D → Bool
  | 0, _ => false
  | _ + 1, .int _ => true
  | _ + 1, .bl _ => true
  | _ + 1, .str x => shD (.str x)
  | _ + 1, .non => true
  | k + 1, .tup ds => decide (ds.length ≤ 1000000) && ds.all (plD k)
  | k + 1, .lst ds => decide (ds.length ≤ 1000000) && ds.all (plD k)
  | k + 1, .fl ds => decide (ds.length ≤ 1000000) && ds.all (plD k)
  | _ + 1, .ty _ => false
  | _ + 1, .obj _ _ _ => false
theorem val_eq {hp : List O} {s : S} {d : D} (h : val hp s = some d) (n : ∀ ds, d ≠ .lst ds) : s = .d d := by
  cases s with
  | d x => cases h; rfl
  | mu m =>
    rw [val_O] at h
    cases g : hp[m]? with
    | none => rw [g] at h; cases h
    | some o =>
      rw [g] at h
      cases o with
      | lst es => cases h; exact absurd rfl (n _)
      | _ => cases h
  | ob m k =>
    rw [val_ob] at h
    cases g : nodeDs hp m k with
    | none => rw [g] at h; cases h
    | some ds => rw [g] at h; cases h; exact absurd rfl (n ds)
  | exn _ _ _ _ => cases h
section
variable {hp : List O} {n : Nat} {o : O} {R : S → List O → Prop} {Xp : MX}
example : shD (.str "told") = true := by decide +kernel
end
end Pl
set_option Elab.async false
set_option linter.all false
set_option maxRecDepth 100000
set_option maxHeartbeats 4000000
namespace Pl
open PySem PySem.Spec PyProof.Rows L2 Mp
def m__law_octet_row : MF := mDef 6 false
    ((mSeq (mAsg (mCall 3 m__law_count [] (mCons (mVar 0) (mCons (mVar 1) (mCons (mVar 2) mNil)))) (mgName 3))
    (mSeq (mIfS (mTest (m2 (fI0 fun i j => .bl (decide (j < i))) (mVar 3) (mC (.int 12)))) (mSeq (mAsg (mMulM (mLst (mCons (mCall 1 m__law_octet [] (mCons (mVar 0) mNil)) mNil)) (mVar 3)) (mgName 4))
    (mSeq (mAsg (mCall 1 m__law_octet [] (mCons (mVar 0) mNil)) (mgSub (mVar 4) (mCall 2 m__law_take [] (mCons (mVar 0) (mCons (mVar 3) mNil)))))
    (mRet (mVar 4)))) mNext)
    (mRet (mLc (miRng f1R (mCons (mVar 3) mNil)) (mgName 5) mYes (mCall 1 m__law_octet [] (mCons (mVar 0) mNil)) [5])))))
end Pl
set_option Elab.async false
set_option linter.all false
set_option maxRecDepth 100000
set_option maxHeartbeats 400000
namespace Pl
open PySem PySem.Spec PyProof.Rows L2 Mp
section
variable {hp : List O} {n : Nat} {o : O} {R : S → List O → Prop} {Xp : MX}
theorem lg {z : Nat} (h : z < 2 ^ 60) : z.log2 < 1920 := by
  by_cases e : z = 0
  · rw [e]; decide
  · exact Nat.lt_trans ((Nat.log2_lt e).mpr h) (by decide)
theorem sp_octet_rowW {few many : Int} {tg : Tg (m__law_octet_row, R, Xp)} (ho : hp[n]? = some o) (hs : St o) (h1 : 0 ≤ few) (h2 : 0 ≤ many) (h3 : few ≤ 100000) (h4 : many ≤ 100000) (h : ∀ (g : List Int) o', St o' → Bd 0 255 g → ((g.length : Int) ≤ few ∨ (g.length : Int) ≤ many) → R (.d (.lst (iL g))) (hp.set n o')) : mfH m__law_octet_row hp [.mu n, .d (.int few), .d (.int many)] R Xp tg := by
  have hn : n < hp.length := (List.getElem?_eq_some_iff.mp ho).1
  refine mfH_of ?_
  unfold m__law_octet_row
  simp
  refine s_count ho hs (by omega) (by omega) h1 h2 fun r o1 ho1 r0 r1 => ?_
  simp
  refine brH_of (fun hz => ?_) (fun hz => ?_)
  · have hz := of_decide_eq_true hz
    have hr : r ≤ 100000 := by omega
    obtain ⟨k, rfl⟩ := Int.eq_ofNat_of_zero_le r0
    simp
    refine s_octet (List.getElem?_set_self hn) ho1 fun x o2 ho2 x0 x1 => ?_
    rw [List.set_set]
    have kb1 : (-9223372036854775808 : Int) ≤ k := by omega
    have kb2 : (k : Int) < 9223372036854775808 := by omega
    have kb3 : k ≤ 16777216 := by omega
    simp [kb1, kb2, kb3]
    have a3 : (hp.set n o2 ++ [O.lst (iL (List.replicate k x))])[n]? = some o2 := app_at3 hn
    refine s_octet a3 ho2 fun y o3 ho3 y0 y1 => ?_
    rw [app_set4 hn]
    simp
    have a4 : (hp.set n o3 ++ [O.lst (iL (List.replicate k x))])[n]? = some o3 := app_at3 hn
    refine s_take a4 ho3 (by omega) fun z o4 ho4 z0 z1 z2 => ?_
    rw [app_set4 hn]
    obtain ⟨z, rfl⟩ := Int.eq_ofNat_of_zero_le z0
    have hz1 : z < k := by omega
    have e1 : ixN k (z : Int) = some z := (ixN_nat (by omega) (by omega)).trans (by simp)
    simp [e1]
    refine h _ _ ho4 (fun w hw => ?_) (by simpa using r1)
    rcases List.mem_or_eq_of_mem_set hw with q | q
    · rw [List.eq_of_mem_replicate q]; exact ⟨x0, x1⟩
    · rw [q]; exact ⟨y0, y1⟩
  · have hz := of_decide_eq_false hz
    obtain ⟨k, rfl⟩ := Int.eq_ofNat_of_zero_le r0
    simp
    refine ⟨by omega, ?_⟩
    refine compH_of (ds := rng 0 1 k) (fun acc r hp' => ∃ o' g, hp' = hp.set n o' ∧ St o' ∧ acc = iL g ∧ Bd 0 255 g ∧ g.length + r.length = k) (by rw [rng_len]; show k ≤ 16777216; omega) ⟨o1, [], rfl, ho1, rfl, Bd.nil, by rw [rng_len]; simp⟩ ?_ ?_
    · rintro acc d r _ N ⟨o', g, rfl, ho', rfl, hb, hl⟩ hN
      simp
      refine s_octet (List.getElem?_set_self hn) ho' fun x o2 ho2 x0 x1 => ?_
      rw [List.set_set]
      simp
      refine hN _ _ trivial ⟨o2, g ++ [x], rfl, ho2, by simp [iL], hb.app x0 x1, by simp at hl ⊢; omega⟩
    · rintro acc _ ⟨o', g, rfl, ho', rfl, hb, hl⟩
      simp at hl
      simp
      exact h g o' ho' hb (by omega)
end
end Pl
set_option Elab.async false
set_option linter.all false
set_option maxRecDepth 100000
set_option maxHeartbeats 4000000
namespace Mp
open PySem PySem.Spec PyProof.Rows L2
section
variable {X : Cx} {pins : List (Addr × Obj)} {σ : L2.St} {H : Hp} {s : Shared} {k : Nat} {C f : Addr} {fd : FuncData} {ps : List Str} {sp : Sp}
end
end Mp
set_option Elab.async false
set_option linter.all false
set_option maxRecDepth 100000
set_option maxHeartbeats 4000000
namespace Mp
open PySem PySem.Spec PyProof.Rows L2
end Mp
set_option Elab.async false
set_option linter.all false
set_option maxRecDepth 100000
set_option maxHeartbeats 4000000
namespace Mp
open PySem PySem.Spec PyProof.Rows L2
def ItT (t it : Addr) (i : Nat) : HO := .ext fun h => h.IsTupleIter it t i
def rIterT (K : Frag) (n : Nat) : List V → Hp → VK → Prop := fun xs H Q => ∃ (t : Addr) (zs : List V), xs = [.ref t] ∧ SqT K H t zs ∧ ∀ it, H it = none → n ≤ it → Q (.ref it) (upd H it (ItT t it 0))
structure ItC2 (P : Program) (w : World) (K : Frag) (mg : Str → Option Value) (base : Heap) (k : Nat) (C : Addr) (fld : Str) (f : Addr) (fd : FuncData) : Prop where
  me : Meth K C "__iter__" f
  cls : Cls K C
  no : NoAttr K C fld
  bi : Binds K fd ["self"] []
  run : ∃ (x qual : Str) (params : Arguments) (body : List Stmt) (scope : Scope), FunD K x qual params body scope [] [] f fd ∧ FnScope ["self"] ["self"] scope ∧
    ∀ (cdv : Value) (A : Around) (outer : List Env) (s : Shared) (H : Hp) (E : XK), Room k (A.deeper (envOfC qual scope s.heap.objs.size f cdv)) →
      ∃ t, PSs (cxOf (L2.CX P w) P w K mg base ["self"] qual scope f cdv A outer s H E) body t ∧ ∀ (D : Ends) (σ : L2.St) (H' : Hp), tCB (rIterT K s.heap.objs.size) (tCons (tFld K (tVar 0) fld) tNil) σ H' D.rt → t D σ H'
section
variable {X : Cx} {pins : List (Addr × Obj)} {σ : L2.St} {H : Hp} {s : Shared} {k : Nat} {C f a t dx : Addr} {fd : FuncData} {fld : Str} {fs : List (Str × V)} {zs : List V}
end
structure NoLen (K : Frag) (C : Addr) : Prop where
  len : PySem.W.findIn K (.ref C) "__len__" = some none
  hint : PySem.W.findIn K (.ref C) "__length_hint__" = some none
section
variable {X : Cx} {pins : List (Addr × Obj)} {σ : L2.St} {H : Hp} {C f t it q : Addr} {zs : List V}
end
end Mp
set_option Elab.async false
set_option linter.all false
set_option maxRecDepth 100000
set_option maxHeartbeats 4000000
namespace Mp
open PySem PySem.Spec PyProof.Rows L2
structure BuiltD (K : Frag) (α1 : Mp_) (hp1 : List O) (H1 : Hp) (p : Addr) (α' : Mp_) (hp' : List O) (H' : Hp) (acc : List (Key × D)) : Prop where
  pre : OwnLe α1.own α'.own
  ban : α'.ban = fun a => α1.ban a ∨ a = p
  ok : WOk K α' hp' H'
  step : StepW α1 hp1 H1 α' hp' H'
  nw : ∀ (n : Nat) (p : Addr × List Addr), α1.own.length ≤ n → α'.own[n]? = some p → H1 p.1 = none
  at_ : ∃ us, H' p = some (.dK us) ∧ RepK K (Al α' hp') H' acc us
theorem BuiltD.go {K : Frag} {α1 α2 α3 : Mp_} {hp1 hp2 hp3 : List O} {H1 H2 H3 : Hp} {p : Addr} {acc : List (Key × D)} (b : BuiltD K α1 hp1 H1 p α2 hp2 H2 acc) (e : Ext α2 hp2 H2 α3 hp3 H3) (w : WOk K α3 hp3 H3) : BuiltD K α1 hp1 H1 p α3 hp3 H3 acc := by
  obtain ⟨us, h1, h2⟩ := b.at_
  refine ⟨b.pre.trans e.pre.own, e.pre.ban.trans b.ban, w, b.step.trans e.step, fun n q h z => ?_, us, e.step.keep p _ h1 ?_, RepK.mono e.step h2⟩
  · by_cases hn : n < α2.own.length
    · obtain ⟨q', h3, h4⟩ := e.pre.get (List.getElem?_eq_getElem hn)
      rw [z] at h3
      cases h3
      rw [h4]
      exact b.nw n _ h (List.getElem?_eq_getElem hn)
    · exact none_back b.step.stay (e.nw n q (by omega) z)
  · exact (b.ok.ban p (by rw [b.ban]; exact .inr rfl)).2
theorem BuiltD.put {K : Frag} {α1 α2 : Mp_} {hp1 hp2 : List O} {H1 H2 : Hp} {p : Addr} {acc : List (Key × D)} {d : D} {u : V} (k : Key) (hn : H1 p = none) (b : BuiltD K α1 hp1 H1 p α2 hp2 H2 acc) (r : Rep K (Al α2 hp2) H2 d u) :
    ∃ us, H2 p = some (.dK us) ∧ us.length = acc.length ∧ BuiltD K α1 hp1 H1 p α2 hp2 (upd H2 p (.dK (putK us k u))) (setK acc k d) := by
  obtain ⟨us, h1, h2⟩ := b.at_
  have hb : α2.ban p := by rw [b.ban]; exact .inr rfl
  refine ⟨us, h1, h2.len.symm, b.pre, b.ban, b.ok.setBan hb, ⟨fun a o e n => by
    have z : a ≠ p := fun z => by subst z; rw [hn] at e; cases e
    rw [upd_ne z]; exact b.step.keep a o e n, b.step.newA, b.step.newM, b.step.sub, fun a o e => by
    obtain ⟨u, hu⟩ := b.step.stay a o e
    exact stay_upd a u hu⟩, b.nw, _, upd_same, ?_⟩
  exact RepK.set k (Rep.mono (stepBan hb) _ _ r) (RepK.mono (stepBan hb) h2)
section
variable {X : Cx} {W : WX} {t : TT} {Mt : MT} {tk tv : TE} {Mk Mv : ME} {kx vx : Expr} {pos : Pos}
end
end Mp
set_option Elab.async false
set_option linter.all false
set_option maxRecDepth 100000
set_option maxHeartbeats 4000000
namespace Mp
open PySem PySem.Spec PyProof.Rows L2
theorem RepK.getD {K : Frag} {A : Av} {H : Hp} {l : List (Key × D)} {ws : List (Key × V)} {k : Key} {d : D} {v : V} (h : RepK K A H l ws) (r : Rep K A H d v) : Rep K A H ((getK l k).getD d) ((valV ws k).getD v) := by
  cases e : getK l k with
  | none => rw [h.none e]; exact r
  | some d => obtain ⟨v, h1, h2⟩ := h.get e; rw [h1]; exact h2
section
variable {X : Cx} {W : WX} {o e f : Expr} {apos cpos : Pos} {td ty tx : TE} {Md Mk Mx : ME}
end
section
variable {Ma Mb Mc : ME} {hp : List O} {env : List (Option S)} {n : Nat} {R : S → List O → Prop} {Xp : MX}
end
end Mp
set_option Elab.async false
set_option linter.all false
set_option maxRecDepth 100000
set_option maxHeartbeats 4000000
namespace HT
open PySem PySem.Spec PyProof.Rows
section
variable {prog : Program} {w : World} {A : Around} {E : Value → Shared → Prop} {s : Shared}
end
end HT
namespace Mp
open PySem PySem.Spec PyProof.Rows L2
end Mp
set_option Elab.async false
set_option linter.all false
set_option maxRecDepth 100000
set_option maxHeartbeats 4000000
namespace Mp
open PySem PySem.Spec PyProof.Rows L2
section
variable {X : Cx} {W : WX} {a b c e o f : Expr} {pos apos cpos : Pos} {ta tb tc te to tf : TE} {Ma Mb Mc Me Mo Mf : ME}
end
section
variable {hp : List O} {env : List (Option S)} {n : Nat} {R : S → List O → Prop} {Xp : MX} {Ma Mb Mc : ME}
end
end Mp
set_option Elab.async false
set_option linter.all false
set_option maxRecDepth 100000
set_option maxHeartbeats 4000000
namespace Mp
open PySem PySem.Spec PyProof.Rows L2
section
variable {X : Cx}
end
section
variable {X : Cx} {W : WX} {e f : Expr} {p p2 pos pos2 : Pos} {te tf : TE} {Me Mf : ME}
end
section
variable {hp : List O} {env : List (Option S)} {n : Nat} {R : S → List O → Prop} {Xp : MX} {Ma Mb : ME}
end
end Mp
set_option Elab.async false
set_option linter.all false
set_option maxRecDepth 100000
set_option maxHeartbeats 4000000
namespace Mp
open PySem PySem.Spec PyProof.Rows L2
structure GGet (K : Frag) (w : World) (kvs : List (Str × D)) (p : Addr) : Prop where
  at_ : ∃ es n, KDict K w p es n
  mis : ∀ z, kvs.lookup z = none → PySem.W.nsIn K p z = some none
end Mp
set_option Elab.async false
set_option linter.all false
set_option maxRecDepth 100000
set_option maxHeartbeats 4000000
namespace Mp
open PySem PySem.Spec PyProof.Rows L2
abbrev TbD := Str × List Str
abbrev AlZ : Type := AlY × List (Option (List (Option (Str × Int))))
def obsZ (P : Program) (fa : List He.Fa) (fn : List He.DefD) (xs : List XcD) (bs : List (Frag → Bool)) (ps : List PrD) (ts : List TbD) (K : Frag) : AlZ := (obsY P fa fn xs bs ps K, ts.map fun t => He.dicW K (gtA t.1 K))
def valZ (fn : List He.DefD) (xs : List XcD) (ps : List PrD) (ts : List TbD) (w : World) : AlZ := (valY fn xs ps, ts.map fun t => some (He.keysIn w.params t.2))
def SaysZ (P : Program) (fa : List He.Fa) (fn : List He.DefD) (xs : List XcD) (bs : List (Frag → Bool)) (ps : List PrD) (ts : List TbD) (w : World) (K : Frag) : Prop := obsZ P fa fn xs bs ps ts K = valZ fn xs ps ts w
def obsZL (P : Program) (as : List Addr) (fa : List He.Fa) (fn : List He.DefD) (xs : List XcD) (bs : List (Frag → Bool)) (ps : List PrD) (ts : List TbD) (g : Addr → Option Obj) : AlZ := obsZ P fa fn xs bs ps ts (He.frG g (cStatics :: as))
def hookZL (P : Program) (as : List Addr) (fa : List He.Fa) (fn : List He.DefD) (xs : List XcD) (bs : List (Frag → Bool)) (ps : List PrD) (ts : List TbD) : PySem.W.Hook where
  α := AlZ
  obs s := obsZL P as fa fn xs bs ps ts s.heap.get?
  val w := valZ fn xs ps ts w
  says w h := ∃ K : Frag, K.In h ∧ SaysZ P fa fn xs bs ps ts w K
  of _ _ e := ⟨_, He.frG_in, e⟩
  keeps _ _ _ z k := z.elim fun K y => ⟨K, PySem.W.Frag.In.keeps y.1 k, y.2⟩
theorem obsZL_eq {P : Program} {as : List Addr} {fa : List He.Fa} {fn : List He.DefD} {xs : List XcD} {bs : List (Frag → Bool)} {ps : List PrD} {ts : List TbD} {g : Addr → Option Obj} {s : Shared} (h : ∀ a, g a = s.heap.get? a) : obsZL P as fa fn xs bs ps ts g = (hookZL P as fa fn xs bs ps ts).obs s := by
  cases (funext h : g = s.heap.get?)
  rfl
section
variable {P : Program} {fa : List He.Fa} {fn : List He.DefD} {xs : List XcD} {bs : List (Frag → Bool)} {ps : List PrD} {ts : List TbD} {w : World} {K : Frag}
theorem SaysZ.y (c : SaysZ P fa fn xs bs ps ts w K) : SaysY P fa fn xs bs ps K := congrArg (fun z : AlZ => z.1) c
end
open HandSHeadRun PySem.W in
theorem runZ_of {r : OpenRow} {q : Program} {P : Program} {as : List Addr} {fa : List He.Fa} {fn : List He.DefD} {xs : List XcD} {bs : List (Frag → Bool)} {ps : List PrD} {ts : List TbD} {M : Nat} {loose : List PySem.Str} {w : World}
    (h0 : ∀ os : OsState, (endF (stepQ (denQ tabQ) r.prog w) M r.prog w os).map (fun s => (looksF r.prog (boot_heap w.params) s.abs, seenQ q loose (importedModules r.prog.main.body) (fun s => xlAt q [] s && recOk r.toRowW.records s) s.abs)) = some (true, openGood q loose))
    (h1 : ∀ os : OsState, (endF (stepQ (denQ tabQ) r.prog w) M r.prog w os).map (fun s => fa.all fun f => f.ok (He.frG (HandSHeadRun.getT s) (cStatics :: as))) = some true)
    (h2 : ∀ os : OsState, (endF (stepQ (denQ tabQ) r.prog w) M r.prog w os).map (fun s => fn.all fun d => d.ok (He.frG (HandSHeadRun.getT s) (cStatics :: as))) = some true)
    (h3 : ∀ os : OsState, (endF (stepQ (denQ tabQ) r.prog w) M r.prog w os).map (fun s => fn.map fun d => He.fnW (He.frG (HandSHeadRun.getT s) (cStatics :: as)) d.at_) = some (fn.map He.DefD.val))
    (h4 : ∀ os : OsState, (endF (stepQ (denQ tabQ) r.prog w) M r.prog w os).map (fun s => (((xs.all fun d => (d.tests P (He.frG (HandSHeadRun.getT s) (cStatics :: as))).all id) && bs.all fun b => b (He.frG (HandSHeadRun.getT s) (cStatics :: as))), (xs.map fun d => xObs (He.frG (HandSHeadRun.getT s) (cStatics :: as)) d.x), (ps.all fun d => d.ok (He.frG (HandSHeadRun.getT s) (cStatics :: as))), (ps.map fun d => d.obs (He.frG (HandSHeadRun.getT s) (cStatics :: as))))) = some (true, xs.map XcD.val, true, ps.map PrD.val))
    (h5 : ∀ os : OsState, (endF (stepQ (denQ tabQ) r.prog w) M r.prog w os).map (fun s => ts.map fun t => He.dicW (He.frG (HandSHeadRun.getT s) (cStatics :: as)) (gtA t.1 (He.frG (HandSHeadRun.getT s) (cStatics :: as)))) = some (ts.map fun t => some (He.keysIn w.params t.2))) :
    RunEq r q (hookZL P as fa fn xs bs ps ts) (fun s => obsZL P as fa fn xs bs ps ts (HandSHeadRun.getT s)) M loose w := by
  intro os
  have a0 := h0 os
  have a1 := h1 os
  have a2 := h2 os
  have a3 := h3 os
  have a4 := h4 os
  have a5 := h5 os
  generalize endF (stepQ (denQ tabQ) r.prog w) M r.prog w os = E at *
  cases E with
  | none => cases a1
  | some s =>
    simp only [Option.map_some, Option.some.injEq, Prod.mk.injEq] at a0 a1 a2 a3 a4 a5
    obtain ⟨b1, b2⟩ := a0
    obtain ⟨c1, c2, c3, c4⟩ := a4
    simp only [Option.map_some, Option.some.injEq, Prod.mk.injEq]
    refine ⟨b1, Prod.ext b2 ?_⟩
    show ((((((fa.all _) && ((fn.all _) && ((xs.all _) && bs.all _)), _, _), _), _), _) : AlZ) = valZ fn xs ps ts w
    rw [a1, a2, a3, c2, c3, c4, a5]
    rw [c1]
    rfl
end Mp
set_option Elab.async false
set_option linter.all false
set_option maxRecDepth 100000
set_option maxHeartbeats 4000000
namespace Mp
open PySem PySem.Spec PyProof.Rows L2
def othT : List String := ["NoneType", "bool", "int", "str", "tuple", "list"]
structure OwnK (K : Frag) (C : Str) : Prop where
  cls : Cls K (He.ga K C)
  isi : SlX.SIsi K (He.ga K C)
  sf : PySem.W.selfFirst K (He.ga K C) = true
  off : ∀ n ∈ othT, PySem.W.kitOne K (.type n) (.ref (He.ga K C)) = some false
  nf : ∀ n ∈ othT, PySem.W.notFirst K (He.ga K C) (.type n) = true
theorem OwnK.tyx {K : Frag} {C : Str} {H : Hp} {a dx : Addr} {fs : List (Str × V)} (o : OwnK K C) (h : H a = some (.ins (He.ga K C) dx fs)) : TyX K H (.ref a) (.ref (He.ga K C)) := .base (.ins h o.cls o.isi.ca o.isi.cn o.isi.ct o.isi.cm)
section
variable {X : Cx} {W : WX} {o v e f a b : Expr} {es : List Expr} {pos apos cpos : Pos} {to tv te tf ta tb td ty tx : TE} {tA : TA} {Mo Mv Me Mf Ma Mb Md Mky Mx : ME} {MA' : MA}
end
section
variable {hp : List O} {env : List (Option S)} {n : Nat} {R : S → List O → Prop} {Xp : MX} {Mo Ma Mb Mc : ME} {La : MA} {Rw : Option Wk → List D → List O → Prop}
end
end Mp
set_option Elab.async false
set_option linter.all false
set_option maxRecDepth 100000
set_option maxHeartbeats 4000000
namespace Mp
open PySem PySem.Spec PyProof.Rows L2
structure FnQ (P : Program) (w : World) (K : Frag) (mg : Str → Option Value) (base : Heap) (k : Nat) (f : Addr) (fd : FuncData) (ps : List Str) (sp : Sp) : Prop where
  len : ∀ vs H Q E, sp vs H Q E → vs.length = ps.length
  run : ∀ (A : Around) (outer : List Env) (st : Shared) (H : Hp) (args : Args) (us : List Value) (vs : List V) (Q : VK) (E : XK) (p : Addr × Obj), L2H.RoomH k A → L2H.PinOk outer H st p → Env0 P w K mg base A outer st H → BindsTo st fd args (ps.zip us) → Vals vs us → sp vs H Q E →
    codeAny (model P w) A (.call (.ref f) args) (CR (L2.CX P w) outer P w H st Q E) st
theorem xj_intR {lit : Str} (hlit : lit.length ≤ 1000) (a : Addr) (ws : List V) (H : Hp) (hw : W1 ws H) : tCons (tJd [tC (.str lit), tFmtR (tVar 1)]) tNil (some (.ref a) :: ws.map some) H fun vs H1 => H1 = H ∧ vs.length = 1 := by
  obtain ⟨n, rfl, hlog⟩ := hw
  refine ⟨lit, rfl, ?_, .int n, rfl, .inr ⟨n, rfl, hlog, _, rfl, ?_, rfl, rfl⟩⟩
  · rw [sizeLine_eq]
    simp only [Str.length_append]
    show 0 + _ ≤ _
    omega
  · have := int_text_len_1921 hlog
    rw [sizeLine_eq]
    simp only [Str.length_append]
    show 0 + _ + _ ≤ _
    omega
end Mp
set_option Elab.async false
set_option linter.all false
set_option maxRecDepth 100000
set_option maxHeartbeats 4000000
namespace Pl
open PySem PySem.Spec PyProof.Rows L2 Mp
def m__law_clamp : MF := mDef 3 false
    ((mRet (mN (fMM (fun i j => if j > i then j else i)) (mCons (mVar 1) (mCons (mN (fMM (fun i j => if j < i then j else i)) (mCons (mVar 2) (mCons (mVar 0) mNil))) mNil)))))
end Pl
set_option Elab.async false
set_option linter.all false
set_option maxRecDepth 100000
set_option maxHeartbeats 4000000
namespace Pl
open PySem PySem.Spec PyProof.Rows L2 Mp
def m__law_lowest : MF := mDef 0 false
    ((mRet (m2 fMul (m1 (fU fun i => .int (-i)) (m2 (fI CPow fun i j => .int (i ^ j.toNat)) (mC (.int 2)) (mC (.int 63)))) (m2 (fI CPow fun i j => .int (i ^ j.toNat)) (mC (.int 2)) (mC (.int 64))))))
def m__law_highest : MF := mDef 0 false
    ((mRet (m2 (fI0 fun i j => .int (i - j)) (m2 fMul (m2 (fI CPow fun i j => .int (i ^ j.toNat)) (mC (.int 2)) (mC (.int 63))) (m2 (fI CPow fun i j => .int (i ^ j.toNat)) (mC (.int 2)) (mC (.int 64)))) (mC (.int 1)))))
def m__law_power : MF := mDef 3 false
    ((mSeq (mAsg (mC (.int 1)) (mgName 1))
    (mSeq (mFor (miRng f1R (mCons (mVar 0) mNil)) (mgName 2) (mAsg (m2 fMul (mVar 1) (mC (.int 2))) (mgName 1)))
    (mRet (mVar 1)))))
def m__law_figure : MF := mDef 4 false
    ((mSeq (mAsg (mCall 2 m__law_take [] (mCons (mVar 0) (mCons (mC (.int 5)) mNil))) (mgName 1))
    (mSeq (mIfS (mTest (m2 fEq (mVar 1) (mC (.int 0)))) (mRet (mCall 2 m__law_pick [] (mCons (mVar 0) (mCons (mLst (mCons (mC (.int 0)) (mCons (mC (.int 1)) (mCons (m1 (fU fun i => .int (-i)) (mC (.int 1))) (mCons (mC (.int 127)) (mCons (mC (.int 128)) (mCons (m1 (fU fun i => .int (-i)) (mC (.int 128))) (mCons (m1 (fU fun i => .int (-i)) (mC (.int 129))) (mCons (mC (.int 255)) (mCons (mC (.int 256)) (mCons (mC (.int 32767)) (mCons (mC (.int 32768)) (mCons (m1 (fU fun i => .int (-i)) (mC (.int 32768))) (mCons (m1 (fU fun i => .int (-i)) (mC (.int 32769))) mNil)))))))))))))) mNil)))) mNext)
    (mSeq (mIfS (mTest (m2 fEq (mVar 1) (mC (.int 1)))) (mSeq (mAsg (mCall 1 m__law_power [] (mCons (m2 fAdd (m2 fMul (mC (.int 8)) (mCall 2 m__law_take [] (mCons (mVar 0) (mCons (mC (.int 16)) mNil)))) (mC (.int 7))) mNil)) (mgName 2))
    (mSeq (mAsg (mCall 2 m__law_pick [] (mCons (mVar 0) (mCons (mLst (mCons (m2 (fI0 fun i j => .int (i - j)) (mVar 2) (mC (.int 1))) (mCons (mVar 2) (mCons (m1 (fU fun i => .int (-i)) (mVar 2)) (mCons (m2 (fI0 fun i j => .int (i - j)) (m1 (fU fun i => .int (-i)) (mVar 2)) (mC (.int 1))) (mCons (m2 fAdd (mVar 2) (mC (.int 1))) (mCons (m2 (fI0 fun i j => .int (i - j)) (mC (.int 1)) (mVar 2)) mNil))))))) mNil))) (mgName 3))
    (mRet (mCall 3 m__law_clamp [] (mCons (mVar 3) (mCons (mCall 0 m__law_lowest [] mNil) (mCons (mCall 0 m__law_highest [] mNil) mNil))))))) mNext)
    (mSeq (mIfS (mTest (m2 fEq (mVar 1) (mC (.int 2)))) (mRet (m2 fAdd (mCall 0 m__law_lowest [] mNil) (mCall 2 m__law_take [] (mCons (mVar 0) (mCons (m2 fMul (m2 (fI CPow fun i j => .int (i ^ j.toNat)) (mC (.int 2)) (mC (.int 64))) (m2 (fI CPow fun i j => .int (i ^ j.toNat)) (mC (.int 2)) (mC (.int 64)))) mNil))))) mNext)
    (mRet (m2 (fI0 fun i j => .int (i - j)) (mCall 2 m__law_take [] (mCons (mVar 0) (mCons (mC (.int 601)) mNil))) (mC (.int 300)))))))))
end Pl
set_option Elab.async false
set_option linter.all false
set_option maxRecDepth 100000
set_option maxHeartbeats 2000000
namespace Pl
open PySem PySem.Spec PyProof.Rows L2 Mp
def plN : Nat → D → Bool
  | 0, _ => false
  | _ + 1, .int _ => true
  | _ + 1, .bl _ => true
  | _ + 1, .str x => shD (.str x)
  | _ + 1, .non => true
  | k + 1, .tup ds => decide (ds.length ≤ 1000000) && ds.all (plN k)
  | k + 1, .lst ds => decide (ds.length ≤ 1000000) && ds.all (plN k)
  | _ + 1, .fl _ => false
  | _ + 1, .ty _ => false
  | _ + 1, .obj _ _ _ => false
def eqS : Nat → D → D → Bool
  | 0, _, _ => false
  | _ + 1, .int a, .int b => decide (a = b)
  | _ + 1, .bl a, .bl b => a == b
  | _ + 1, .str a, .str b => a == b
  | _ + 1, .non, .non => true
  | k + 1, .tup xs, .tup ys => decide (xs.length = ys.length) && (xs.zip ys).all fun p => eqS k p.1 p.2
  | k + 1, .lst xs, .lst ys => decide (xs.length = ys.length) && (xs.zip ys).all fun p => eqS k p.1 p.2
  | _ + 1, _, _ => false
theorem zip_all {k : Nat} : ∀ {xs ys : List D}, xs.length = ys.length → ((xs.zip ys).all fun p => eqS k p.1 p.2) = decide (∀ i (h1 : i < xs.length) (h2 : i < ys.length), eqS k xs[i] ys[i] = true)
  | [], [], _ => by simp
  | [], _ :: _, h => by cases h
  | _ :: _, [], h => by cases h
  | x :: xs, y :: ys, h => by
    rw [List.zip_cons_cons, List.all_cons, zip_all (Nat.succ.inj h)]
    by_cases c : eqS k x y = true
    · rw [c, Bool.true_and]
      apply decide_eq_decide.mpr
      constructor
      · intro z i h1 h2
        cases i with
        | zero => exact c
        | succ i => exact z i (by simpa using h1) (by simpa using h2)
      · intro z i h1 h2
        exact z (i + 1) (by simpa using h1) (by simpa using h2)
    · rw [Bool.eq_false_iff.mpr c, Bool.false_and]
      symm
      exact decide_eq_false fun z => c (z 0 (by simp) (by simp))
theorem eqS_refl : ∀ {k : Nat} {d : D}, plN k d = true → eqS k d d = true
  | 0, _, h => by cases h
  | k + 1, d, h => by
    have many : ∀ {xs : List D}, (decide (xs.length ≤ 1000000) && xs.all (plN k)) = true → (decide (xs.length = xs.length) && (xs.zip xs).all fun p => eqS k p.1 p.2) = true := fun {xs} h => by
      obtain ⟨a, b⟩ := He.ba h
      rw [zip_all rfl, decide_eq_true rfl, Bool.true_and]
      exact decide_eq_true fun i h1 h2 => eqS_refl (List.all_eq_true.mp b _ (List.getElem_mem _))
    cases d with
    | int => exact decide_eq_true rfl
    | bl b => exact beq_self_eq_true b
    | str s => exact beq_self_eq_true s
    | non => rfl
    | tup xs => exact many h
    | lst xs => exact many h
    | fl xs => cases h
    | ty xs => cases h
    | obj => cases h
theorem sp_equal : ∀ (k : Nat) (d e : D), plN k d = true → plN k e = true → ∀ {hp : List O} {s t : S} {R : S → List O → Prop} {Xp : MX} {tg : Tg (m__law_equal k, R, Xp)}, val hp s = some d → val hp t = some e → R (.d (.bl (eqS k d e))) hp → mfH (m__law_equal k) hp [s, t] R Xp tg
  | 0, _, _, z, _, _, _, _, _, _, _, _, _, _ => by cases z
  | k + 1, d, e, z, w, hp, s, t, R, Xp, tg, hv, hw, h => by
    refine mfH_of ?_
    show b__law_equal (m__law_equal k) hp _ R Xp
    unfold b__law_equal
    cases d with
    | ty => cases z
    | fl => cases z
    | obj => cases z
    | int i =>
      rw [val_eq hv (fun _ => by simp)]
      cases e with
      | ty => cases w
      | fl => cases w
      | obj => cases w
      | lst g => simp [hw, Mp.isNon]; exact h
      | _ =>
        rw [val_eq hw (fun _ => by simp)]
        simp [Mp.isNon]
        first | exact h | exact ⟨z, h⟩ | exact ⟨z, w, h⟩ | trace_state
    | bl i =>
      rw [val_eq hv (fun _ => by simp)]
      cases e with
      | ty => cases w
      | fl => cases w
      | obj => cases w
      | lst g => simp [hw, Mp.isNon]; exact h
      | _ =>
        rw [val_eq hw (fun _ => by simp)]
        simp [Mp.isNon]
        first | exact h | exact ⟨z, h⟩ | exact ⟨z, w, h⟩ | trace_state
    | str i =>
      rw [val_eq hv (fun _ => by simp)]
      cases e with
      | ty => cases w
      | fl => cases w
      | obj => cases w
      | lst g => simp [hw, Mp.isNon]; exact h
      | _ =>
        rw [val_eq hw (fun _ => by simp)]
        simp [Mp.isNon]
        first | exact h | exact ⟨z, h⟩ | exact ⟨z, w, h⟩ | trace_state
    | non =>
      rw [val_eq hv (fun _ => by simp)]
      cases e with
      | ty => cases w
      | fl => cases w
      | obj => cases w
      | lst g => simp [hw, Mp.isNon]; exact h
      | _ =>
        rw [val_eq hw (fun _ => by simp)]
        simp [Mp.isNon]
        first | exact h | exact ⟨z, h⟩ | exact ⟨z, w, h⟩ | trace_state
    | tup g =>
      obtain ⟨z1, z2⟩ := He.ba (show (decide (g.length ≤ 1000000) && g.all (plN k)) = true from z)
      have hl : g.length ≤ 1000000 := of_decide_eq_true z1
      have hr1 : (-4611686018427387904 : Int) ≤ g.length := by omega
      have hr2 : (g.length : Int) < 4611686018427387904 := by omega
      cases e with
      | ty => cases w
      | fl => cases w
      | obj => cases w
      | tup g' =>
        obtain ⟨w1, w2⟩ := He.ba (show (decide (g'.length ≤ 1000000) && g'.all (plN k)) = true from w)
        by_cases hg : g.length = g'.length
        · have hgi : ((g.length : Int) = (g'.length : Int)) := by omega
          have eh : eqS (k + 1) (.tup g) (.tup g') = decide (∀ i (h1 : i < g.length) (h2 : i < g'.length), eqS k g[i] g'[i] = true) := by
            show (decide (g.length = g'.length) && (g.zip g').all fun p => eqS k p.1 p.2) = _
            rw [decide_eq_true hg, Bool.true_and, zip_all hg]
          simp [hv, hw, hr1, hr2, hg] at hr1 hr2 ⊢
          refine ⟨by omega, ?_⟩
          refine forH_rng (fun i hp' env' => (∀ j (h1 : j < g.length) (h2 : j < g'.length), j < i → eqS k g[j] g'[j] = true) ∧ hp = hp' ∧ ∃ y, env' = [some s, some t, y]) ⟨fun j _ _ z => by omega, rfl, _, rfl⟩ ?_ ?_
          · rintro i _ _ N hi ⟨hj, rfl, y, rfl⟩ hN
            have a1 : atI g (i : Int) = some g[i] := by rw [atI_nat (by omega) (by omega)]; simp
            have a2 : atI g' (i : Int) = some g'[i] := by rw [atI_nat (by omega) (by omega)]; simp
            simp [hv, hw, a1, a2]
            refine sp_equal k g[i] g'[i] (List.all_eq_true.mp z2 _ (List.getElem_mem _)) (List.all_eq_true.mp w2 _ (List.getElem_mem _)) rfl rfl ?_
            cases c : eqS k g[i] g'[i] with
            | true =>
              simp
              refine hN _ _ ⟨fun j h1 h2 h3 => ?_, rfl, _, rfl⟩
              by_cases e : j = i
              · subst e; exact c
              · exact hj j h1 h2 (by omega)
            | false =>
              have hf : eqS (k + 1) (.tup g) (.tup g') = false := by
                rw [eh]
                exact decide_eq_false fun q => by rw [q i (by omega) (by omega)] at c; cases c
              rw [hf] at h
              simp
              exact h
          · rintro _ _ ⟨hj, rfl, y, rfl⟩
            have hf : eqS (k + 1) (.tup g) (.tup g') = true := by
              rw [eh]
              exact decide_eq_true fun i h1 h2 => hj i h1 h2 (by omega)
            rw [hf] at h
            simpa using h
        · have hgi : ¬ ((g.length : Int) = (g'.length : Int)) := by omega
          have eh : eqS (k + 1) (.tup g) (.tup g') = false := by
            show (decide (g.length = g'.length) && (g.zip g').all fun p => eqS k p.1 p.2) = _
            rw [decide_eq_false hg, Bool.false_and]
          rw [eh] at h
          simp [hv, hw, hgi]
          exact h
      | lst g' =>
        simp [hv, hw]
        exact h
      | _ =>
        rw [val_eq hw (fun _ => by simp)]
        simp [hv]
        exact h
    | lst g =>
      obtain ⟨z1, z2⟩ := He.ba (show (decide (g.length ≤ 1000000) && g.all (plN k)) = true from z)
      have hl : g.length ≤ 1000000 := of_decide_eq_true z1
      have hr1 : (-4611686018427387904 : Int) ≤ g.length := by omega
      have hr2 : (g.length : Int) < 4611686018427387904 := by omega
      cases e with
      | ty => cases w
      | fl => cases w
      | obj => cases w
      | lst g' =>
        obtain ⟨w1, w2⟩ := He.ba (show (decide (g'.length ≤ 1000000) && g'.all (plN k)) = true from w)
        by_cases hg : g.length = g'.length
        · have hgi : ((g.length : Int) = (g'.length : Int)) := by omega
          have eh : eqS (k + 1) (.lst g) (.lst g') = decide (∀ i (h1 : i < g.length) (h2 : i < g'.length), eqS k g[i] g'[i] = true) := by
            show (decide (g.length = g'.length) && (g.zip g').all fun p => eqS k p.1 p.2) = _
            rw [decide_eq_true hg, Bool.true_and, zip_all hg]
          simp [hv, hw, hr1, hr2, hg] at hr1 hr2 ⊢
          refine ⟨by omega, ?_⟩
          refine forH_rng (fun i hp' env' => (∀ j (h1 : j < g.length) (h2 : j < g'.length), j < i → eqS k g[j] g'[j] = true) ∧ hp = hp' ∧ ∃ y, env' = [some s, some t, y]) ⟨fun j _ _ z => by omega, rfl, _, rfl⟩ ?_ ?_
          · rintro i _ _ N hi ⟨hj, rfl, y, rfl⟩ hN
            have a1 : atI g (i : Int) = some g[i] := by rw [atI_nat (by omega) (by omega)]; simp
            have a2 : atI g' (i : Int) = some g'[i] := by rw [atI_nat (by omega) (by omega)]; simp
            simp [hv, hw, a1, a2]
            refine sp_equal k g[i] g'[i] (List.all_eq_true.mp z2 _ (List.getElem_mem _)) (List.all_eq_true.mp w2 _ (List.getElem_mem _)) rfl rfl ?_
            cases c : eqS k g[i] g'[i] with
            | true =>
              simp
              refine hN _ _ ⟨fun j h1 h2 h3 => ?_, rfl, _, rfl⟩
              by_cases e : j = i
              · subst e; exact c
              · exact hj j h1 h2 (by omega)
            | false =>
              have hf : eqS (k + 1) (.lst g) (.lst g') = false := by
                rw [eh]
                exact decide_eq_false fun q => by rw [q i (by omega) (by omega)] at c; cases c
              rw [hf] at h
              simp
              exact h
          · rintro _ _ ⟨hj, rfl, y, rfl⟩
            have hf : eqS (k + 1) (.lst g) (.lst g') = true := by
              rw [eh]
              exact decide_eq_true fun i h1 h2 => hj i h1 h2 (by omega)
            rw [hf] at h
            simpa using h
        · have hgi : ¬ ((g.length : Int) = (g'.length : Int)) := by omega
          have eh : eqS (k + 1) (.lst g) (.lst g') = false := by
            show (decide (g.length = g'.length) && (g.zip g').all fun p => eqS k p.1 p.2) = _
            rw [decide_eq_false hg, Bool.false_and]
          rw [eh] at h
          simp [hv, hw, hgi]
          exact h
      | tup g' =>
        simp [hv, hw]
        exact h
      | _ =>
        rw [val_eq hw (fun _ => by simp)]
        simp [hv]
        exact h
end Pl
set_option Elab.async false
set_option linter.all false
set_option maxRecDepth 100000
set_option maxHeartbeats 4000000
namespace Mp
open PySem PySem.Spec PyProof.Rows L2
def rIntS : List V → Hp → VK → Prop := fun xs H Q => rInt1 xs H Q ∨ ∃ a n, xs = [.str a] ∧ PySem.intText? a = some n ∧ a.length ≤ 640 ∧ Q (.int n) H
def fIntS : FN := fun ds P => fInt ds P ∨ one ds fun d => on (asS d) fun a => a.length ≤ 640 ∧ on (PySem.intText? a) fun n => P (.int n)
theorem sim_intS {K : Frag} : SimN K rIntS fIntS := by
  intro A H ds vs hA r P p Q q
  rcases p with p | p
  · exact .inl (sim_int A H ds vs hA r P p Q q)
  · obtain ⟨d, v, rfl, r1, p1⟩ := p.ex r
    obtain ⟨x, e, l, p2⟩ := on.ex p1
    obtain ⟨m, e2, p3⟩ := on.ex p2
    cases d with
    | str y =>
      cases e
      have hv : v = .str x := r1
      exact .inr ⟨x, m, by rw [hv], e2, l, q _ _ _ p3 rfl (.inl rfl)⟩
    | _ => cases e
theorem call_intS {X : Cx} : CallR X (.type "int") rIntS := by
  intro pins s σ H xs us Q I hv h
  rcases h with h | h
  · exact call_int1 pins s σ H xs us Q I hv h
  · exact call_int_str pins s σ H xs us Q I hv h
@[simp ↓] theorem xfIntS_i {i : Int} {P : D → Prop} : fIntS [.int i] P = P (.int i) := by
  show (fInt [.int i] P ∨ _) = _
  simp [one, on, asS]
@[simp ↓] theorem xfIntS_b {b : Bool} {P : D → Prop} : fIntS [.bl b] P = P (.int (if b then 1 else 0)) := by
  show (fInt [.bl b] P ∨ _) = _
  simp [one, on, asS]
@[simp ↓] theorem xfIntS_s {x : Str} {P : D → Prop} : fIntS [.str x] P = (x.length ≤ 640 ∧ onH (PySem.intText? x) (fun n => P (.int n)) .mk) := by
  show (fInt [.str x] P ∨ _) = _
  simp [fInt, one, on, asS, asI, asB', onH]
end Mp
set_option Elab.async false
set_option linter.all false
set_option maxRecDepth 100000
set_option maxHeartbeats 4000000
namespace Mp
open PySem PySem.Spec PyProof.Rows L2
section
variable {hp : List O} {env : List (Option S)} {n : Nat} {R : S → List O → Prop} {Xp : MX} {Ma : ME}
end
end Mp
set_option Elab.async false
set_option linter.all false
set_option maxRecDepth 100000
set_option maxHeartbeats 4000000
namespace Mp
open PySem PySem.Spec PyProof.Rows L2 HandSPX
section
variable {X : Cx} {pos : Pos} {W : WX}
end
section
variable {hp : List O} {env : List (Option S)} {n : Nat} {R : S → List O → Prop} {Xp : MX} {Sb : MS} {nx bk ct : PS → Prop} {rt : S → List O → Prop} {ex : MX}
end
end Mp
set_option Elab.async false
set_option linter.all false
set_option maxRecDepth 100000
set_option maxHeartbeats 4000000
namespace Mp
open PySem PySem.Spec PyProof.Rows L2 HandSPX
section
variable {X : Cx} {W : WX} {o e f a : Expr} {pos apos cpos p : Pos} {to te tf ta td ty tx : TE} {Mo Ma Md Mky Mx : ME}
end
section
variable {hp : List O} {env : List (Option S)} {n : Nat} {R : S → List O → Prop} {Xp : MX} {Ma Mb Mc : ME}
end
end Mp
set_option Elab.async false
set_option linter.all false
set_option maxRecDepth 100000
set_option maxHeartbeats 4000000
namespace Mp
open PySem PySem.Spec PyProof.Rows L2 HandSPX
section
variable {X : Cx} {W : WX} {pos : Pos}
end
section
variable {hp : List O} {env : List (Option S)} {n : Nat} {Ma : ME} {G : MG} {Mb : MS} {nx bk ct : PS → Prop} {rt : S → List O → Prop} {ex : MX}
end
end Mp
set_option Elab.async false
set_option linter.all false
set_option maxRecDepth 100000
set_option maxHeartbeats 4000000
namespace Mp
open PySem PySem.Spec PyProof.Rows L2
end Mp
set_option Elab.async false
set_option linter.all false
set_option maxRecDepth 100000
set_option maxHeartbeats 4000000
namespace Mp
open PySem PySem.Spec PyProof.Rows L2
end Mp
set_option Elab.async false
set_option linter.all false
set_option maxRecDepth 100000
set_option maxHeartbeats 4000000
namespace Mp
open PySem PySem.Spec PyProof.Rows L2
end Mp
set_option Elab.async false
set_option linter.all false
set_option maxRecDepth 100000
set_option maxHeartbeats 400000
namespace Pl
open PySem PySem.Spec PyProof.Rows L2 Mp
section
variable {hp : List O} {n : Nat} {o : O} {R : S → List O → Prop} {Xp : MX}
theorem at0 {g : List Int} {a : Nat} (h : a < g.length) : atI g (a : Int) = some g[a] := by
  rw [atI_nat (by omega) (by omega)]
  simp only [Int.toNat_natCast]
theorem cut_mid {g : List Int} {a b : Nat} : Mp.cutD (iL g) (some (a : Int)) (some (b : Int)) = iL ((g.drop a).take (b - a)) := by
  rw [cutD_map, sIx_at (by omega), sIx_at (by omega)]
  congr 1
  simp only [Int.toNat_natCast]
  by_cases h : a < g.length
  · rw [show min a g.length = a by omega]
    refine List.take_eq_take_iff.mpr ?_
    rw [List.length_drop]
    omega
  · rw [show min a g.length = g.length by omega, List.drop_length, List.drop_eq_nil_of_le (by omega)]
    simp
theorem pick_memD {xs : List D} {tg : Tg (m__law_pick, R, Xp)} (ho : hp[n]? = some o) (hs : St o) (h0 : 0 < xs.length) (h1 : xs.length < 2 ^ 60) (h : ∀ (d : D) o', St o' → d ∈ xs → R (.d d) (hp.set n o')) : mfH m__law_pick hp [.mu n, .d (.lst xs)] R Xp tg :=
  s_pick ho hs h0 h1 fun i hi o' ho' => h _ _ ho' (List.getElem_mem _)
theorem pick_mem {xs : List Int} {tg : Tg (m__law_pick, R, Xp)} (ho : hp[n]? = some o) (hs : St o) (h0 : 0 < xs.length) (h1 : xs.length < 2 ^ 60) (h : ∀ (x : Int) o', St o' → x ∈ xs → R (.d (.int x)) (hp.set n o')) : mfH m__law_pick hp [.mu n, .d (.lst (iL xs))] R Xp tg :=
  pick_memD ho hs (by simpa using h0) (by simpa using h1) fun d o' ho' hd => by
    obtain ⟨x, hx, rfl⟩ := List.mem_map.mp hd
    exact h x o' ho' hx
end
end Pl
set_option Elab.async false
set_option linter.all false
set_option maxRecDepth 100000
set_option maxHeartbeats 4000000
namespace Pl
open PySem PySem.Spec PyProof.Rows L2 Mp
end Pl
set_option Elab.async false
set_option linter.all false
set_option maxRecDepth 100000
set_option maxHeartbeats 4000000
namespace Pl
open PySem PySem.Spec PyProof.Rows L2 Mp
end Pl
set_option Elab.async false
set_option linter.all false
set_option maxRecDepth 100000
set_option maxHeartbeats 4000000
namespace Pl
open PySem PySem.Spec PyProof.Rows L2 Mp
def m__law_chars : MF := mDef 1 false
    ((mSeq (mAsg (mC (.str " !\"#$&'()*+,-./0123456789:;<=>?@ABCDEFGHIJKLMNOPQRSTUVWXYZ[\\]^_`")) (mgName 0))
    (mRet (m2 fAdd (mVar 0) (mC (.str "abcdefghijklmnopqrstuvwxyz{|}~"))))))
end Pl
set_option Elab.async false
set_option linter.all false
set_option maxRecDepth 100000
set_option maxHeartbeats 4000000
namespace Pl
open PySem PySem.Spec PyProof.Rows L2 Mp
abbrev gd_MARKS : D := .tup [.str "...", .str "..", .str ".", .str "{", .str "}", .str "(", .str ")", .str "[", .str "]", .str "<", .str ">", .str ",", .str ";", .str ":", .str "=", .str "|"]
def m_run_end : MF := mDef 3 false
    ((mSeq (mWhile (mAnd (mTest (m2 (fI0 fun i j => .bl (decide (i < j))) (mVar 1) (mN fLen (mCons (mVar 0) mNil)))) (mTest (m2 (fIn false) (m2 fIx (mVar 0) (mVar 1)) (mVar 2)))) (mAug 1 (fun i j => i + j) (mC (.int 1))))
    (mRet (mVar 1))))
def m_is_figure : MF := mDef 2 false
    ((mSeq (mIfS (mTest (m2 fEq (m2 fIx (mVar 0) (mVar 1)) (mC (.str "-")))) (mAug 1 (fun i j => i + j) (mC (.int 1))) mNext)
    (mRet (mAndV (m2 (fI0 fun i j => .bl (decide (i < j))) (mVar 1) (mN fLen (mCons (mVar 0) mNil))) (m2 (fIn false) (m2 fIx (mVar 0) (mVar 1)) (mC (.str "0123456789")))))))
def m_read_figure : MF := mDef 5 false
    ((mSeq (mAsg (mIf (mTest (m2 fEq (m2 fIx (mVar 0) (mVar 1)) (mC (.str "-")))) (m2 fAdd (mVar 1) (mC (.int 1))) (mVar 1)) (mgName 3))
    (mSeq (mAsg (mCall 3 m_run_end [] (mCons (mVar 0) (mCons (mVar 3) (mCons (mC (.str "0123456789")) mNil)))) (mgName 4))
    (mSeq (mIfS (mOr (mTest (m2 (fI0 fun i j => .bl (decide (j < i))) (m2 (fI0 fun i j => .int (i - j)) (mVar 4) (mVar 3)) (mC (.int (60))))) (mAnd (mTest (m2 fEq (m2 fIx (mVar 0) (mVar 3)) (mC (.str "0")))) (mOr (mTest (m2 (fI0 fun i j => .bl (decide (j < i))) (m2 (fI0 fun i j => .int (i - j)) (mVar 4) (mVar 3)) (mC (.int 1)))) (mTest (m2 (fI0 fun i j => .bl (decide (j < i))) (mVar 3) (mVar 1)))))) (mRaiseN "Unread" ["line", "column"] WdI2 (mCons (mVar 2) (mCons (m2 fAdd (mVar 1) (mC (.int 1))) mNil))) mNext)
    (mSeq (mIfS (mAnd (mTest (m2 (fI0 fun i j => .bl (decide (i < j))) (mVar 4) (mN fLen (mCons (mVar 0) mNil)))) (mTest (m2 (fIn false) (m2 fIx (mVar 0) (mVar 4)) (mC (.str "abcdefghijklmnopqrstuvwxyzABCDEFGHIJKLMNOPQRSTUVWXYZ"))))) (mRaiseN "Unread" ["line", "column"] WdI2 (mCons (mVar 2) (mCons (m2 fAdd (mVar 4) (mC (.int 1))) mNil))) mNext)
    (mRet (mTup (mCons (mC (.str "figure")) (mCons (mN fIntS (mCons (mSl (mVar 0) (moSome (mVar 1)) (moSome (mVar 4))) mNil)) (mCons (mVar 4) mNil))))))))))
def m_read_string : MF := mDef 5 false
    ((mSeq (mAsg (mLstM mNil) (mgName 3))
    (mSeq (mAsg (m2 fAdd (mVar 1) (mC (.int 1))) (mgName 4))
    (mSeq (mWhile (mTest (m2 (fI0 fun i j => .bl (decide (i < j))) (mVar 4) (mN fLen (mCons (mVar 0) mNil)))) (mIfS (mTest (m2 fNe (m2 fIx (mVar 0) (mVar 4)) (mC (.str "\"")))) (mSeq (mDrop (mMeth false fAppend (mVar 3) (mCons (m2 fIx (mVar 0) (mVar 4)) mNil)))
    (mAug 4 (fun i j => i + j) (mC (.int 1)))) (mIfS (mTest (m2 fEq (mSl (mVar 0) (moSome (m2 fAdd (mVar 4) (mC (.int 1)))) (moSome (m2 fAdd (mVar 4) (mC (.int 2))))) (mC (.str "\"")))) (mSeq (mDrop (mMeth false fAppend (mVar 3) (mCons (mC (.str "\"")) mNil)))
    (mAug 4 (fun i j => i + j) (mC (.int 2)))) (mRet (mTup (mCons (mC (.str "string")) (mCons (mS1 fJoin (mC (.str "")) (mVar 3)) (mCons (m2 fAdd (mVar 4) (mC (.int 1))) mNil))))))))
    (mRaiseN "Unread" ["line", "column"] WdI2 (mCons (mVar 2) (mCons (m2 fAdd (mVar 1) (mC (.int 1))) mNil)))))))
def m_read_quoted : MF := mDef 10 false
    ((mSeq (mAsg (mIf (mTest (m2 fEq (m2 fIx (mVar 0) (mVar 1)) (mC (.str "b")))) (mC (.str "01")) (mC (.str "0123456789abcdef"))) (mgName 3))
    (mSeq (mAsg (mCall 3 m_run_end [] (mCons (mVar 0) (mCons (m2 fAdd (mVar 1) (mC (.int 2))) (mCons (mVar 3) mNil)))) (mgName 4))
    (mSeq (mAsg (mSl (mVar 0) (moSome (m2 fAdd (mVar 1) (mC (.int 2)))) (moSome (mVar 4))) (mgName 5))
    (mSeq (mIfS (mOr (mTest (m2 fEq (mVar 4) (mN fLen (mCons (mVar 0) mNil)))) (mTest (m2 fNe (m2 fIx (mVar 0) (mVar 4)) (mC (.str "\""))))) (mRaiseN "Unread" ["line", "column"] WdI2 (mCons (mVar 2) (mCons (m2 fAdd (mVar 1) (mC (.int 1))) mNil))) mNext)
    (mSeq (mIfS (mTest (m2 fEq (m2 fIx (mVar 0) (mVar 1)) (mC (.str "b")))) (mRet (mTup (mCons (mC (.str "bits")) (mCons (mVar 5) (mCons (m2 fAdd (mVar 4) (mC (.int 1))) mNil))))) mNext)
    (mSeq (mIfS (mTest (m2 fEq (m2 (fI (fun _ j => 0 < j) fun i j => .int (i % j)) (mN fLen (mCons (mVar 5) mNil)) (mC (.int 2))) (mC (.int 1)))) (mRaiseN "Unread" ["line", "column"] WdI2 (mCons (mVar 2) (mCons (m2 fAdd (mVar 1) (mC (.int 1))) mNil))) mNext)
    (mSeq (mAsg (mLc (miStr (mVar 5)) (mgName 7) mYes (mS1 fIndexS (mC (.str "0123456789abcdef")) (mVar 7)) [7]) (mgName 6))
    (mSeq (mAsg (mLc (miRng f3R (mCons (mC (.int 0)) (mCons (mN fLen (mCons (mVar 6) mNil)) (mCons (mC (.int 2)) mNil)))) (mgName 9) mYes (m2 fAdd (m2 fMul (mC (.int 16)) (m2 fIx (mVar 6) (mVar 9))) (m2 fIx (mVar 6) (m2 fAdd (mVar 9) (mC (.int 1))))) [9]) (mgName 8))
    (mRet (mTup (mCons (mC (.str "hex")) (mCons (mN fTuple (mCons (mVar 8) mNil)) (mCons (m2 fAdd (mVar 4) (mC (.int 1))) mNil))))))))))))))
def m_read_token : MF := mDef 6 false
    ((mSeq (mIfS (mTest (m2 (fIn false) (m2 fIx (mVar 0) (mVar 1)) (mC (.str "abcdefghijklmnopqrstuvwxyzABCDEFGHIJKLMNOPQRSTUVWXYZ")))) (mSeq (mAsg (mCall 3 m_run_end [] (mCons (mVar 0) (mCons (mVar 1) (mCons (m2 fAdd (mC (.str "abcdefghijklmnopqrstuvwxyzABCDEFGHIJKLMNOPQRSTUVWXYZ")) (mC (.str "0123456789"))) mNil)))) (mgName 3))
    (mSeq (mAsg (mSl (mVar 0) (moSome (mVar 1)) (moSome (mVar 3))) (mgName 4))
    (mSeq (mIfS (mAnd (mOr (mTest (m2 fEq (mVar 4) (mC (.str "b")))) (mTest (m2 fEq (mVar 4) (mC (.str "h"))))) (mTest (m2 fEq (mSl (mVar 0) (moSome (mVar 3)) (moSome (m2 fAdd (mVar 3) (mC (.int 1))))) (mC (.str "\""))))) (mRet (mCall 3 m_read_quoted [] (mCons (mVar 0) (mCons (mVar 1) (mCons (mVar 2) mNil))))) mNext)
    (mRet (mTup (mCons (mC (.str "word")) (mCons (mVar 4) (mCons (mVar 3) mNil)))))))) mNext)
    (mSeq (mIfS (mTest (mCall 2 m_is_figure [] (mCons (mVar 0) (mCons (mVar 1) mNil)))) (mRet (mCall 3 m_read_figure [] (mCons (mVar 0) (mCons (mVar 1) (mCons (mVar 2) mNil))))) mNext)
    (mSeq (mIfS (mTest (m2 fEq (m2 fIx (mVar 0) (mVar 1)) (mC (.str "\"")))) (mRet (mCall 3 m_read_string [] (mCons (mVar 0) (mCons (mVar 1) (mCons (mVar 2) mNil))))) mNext)
    (mSeq (mFor (miSq (mC gd_MARKS)) (mgName 5) (mIfS (mTest (mSw3 (mVar 0) (mVar 5) (mVar 1))) (mRet (mTup (mCons (mC (.str "mark")) (mCons (mVar 5) (mCons (m2 fAdd (mVar 1) (mN fLen (mCons (mVar 5) mNil))) mNil))))) mNext))
    (mRaiseN "Unread" ["line", "column"] WdI2 (mCons (mVar 2) (mCons (m2 fAdd (mVar 1) (mC (.int 1))) mNil))))))))
def m_line_tokens : MF := mDef 7 true
    ((mSeq (mAsg (mLstM mNil) (mgName 2))
    (mSeq (mAsg (mC (.int 0)) (mgName 3))
    (mSeq (mWhile (mAnd (mTest (m2 (fI0 fun i j => .bl (decide (i < j))) (mVar 3) (mN fLen (mCons (mVar 0) mNil)))) (mTest (m2 fNe (m2 fIx (mVar 0) (mVar 3)) (mC (.str "#"))))) (mIfS (mTest (m2 fEq (m2 fIx (mVar 0) (mVar 3)) (mC (.str " ")))) (mAug 3 (fun i j => i + j) (mC (.int 1))) (mSeq (mAsg (mCall 3 m_read_token [] (mCons (mVar 0) (mCons (mVar 3) (mCons (mVar 1) mNil)))) (mgTup 3 (mgsCons (mgName 4) (mgsCons (mgName 5) (mgsCons (mgName 6) mgsNil)))))
    (mSeq (mDrop (mMeth false fAppend (mVar 2) (mCons (mTup (mCons (mVar 4) (mCons (mVar 5) (mCons (mVar 1) (mCons (m2 fAdd (mVar 3) (mC (.int 1))) mNil))))) mNil)))
    (mAsg (mVar 6) (mgName 3))))))
    (mRet (mVar 2))))))
def m_tokens : MF := mDef 5 true
    ((mSeq (mAsg (mS1 fSplit (mVar 0) (mC (.str "\n"))) (mgName 1))
    (mSeq (mAsg (mLstM mNil) (mgName 2))
    (mSeq (mFor (miEnum (mCons (mVar 1) mNil)) (mgTup 2 (mgsCons (mgName 3) (mgsCons (mgName 4) mgsNil))) (mDrop (mMeth true fExtend (mVar 2) (mCons (mCall 2 m_line_tokens [] (mCons (mVar 4) (mCons (m2 fAdd (mVar 3) (mC (.int 1))) mNil))) mNil))))
    (mSeq (mDrop (mMeth false fAppend (mVar 2) (mCons (mTup (mCons (mC (.str "end")) (mCons (mC (.str "")) (mCons (mN fLen (mCons (mVar 1) mNil)) (mCons (m2 fAdd (mN fLen (mCons (m2 fIx (mVar 1) (m1 (fU fun i => .int (-i)) (mC (.int 1)))) mNil)) (mC (.int 1))) mNil))))) mNil)))
    (mRet (mVar 2)))))))
def m__law_big : MF := mDef 8 false
    ((mSeq (mAsg (mC (.str "ABCDEFGHIJKLMNOPQRSTUVWXYZ")) (mgName 2))
    (mSeq (mAsg (m2 fAdd (mVar 2) (mC (.str "abcdefghijklmnopqrstuvwxyz0123456789"))) (mgName 3))
    (mSeq (mAsg (m2 fIx (mVar 2) (mCall 2 m__law_take [] (mCons (mVar 0) (mCons (mC (.int 26)) mNil)))) (mgName 4))
    (mSeq (mAsg (mCall 2 m__law_pick [] (mCons (mVar 0) (mCons (mLst (mCons (mC (.int 1)) (mCons (mC (.int 1)) (mCons (mC (.int 2)) (mCons (mC (.int 3)) (mCons (mC (.int 4)) (mCons (mC (.int 20)) mNil))))))) mNil))) (mgName 5))
    (mSeq (mIfS (mTest (m2 (fI0 fun i j => .bl (decide (j < i))) (mVar 5) (mC (.int 1)))) (mSeq (mAsg (m2 fAdd (mVar 4) (m2 fMul (m2 fIx (mVar 3) (mCall 2 m__law_take [] (mCons (mVar 0) (mCons (mC (.int 62)) mNil)))) (m2 (fI0 fun i j => .int (i - j)) (mVar 5) (mC (.int 1))))) (mgName 4))
    (mSeq (mAsg (m2 fAdd (mC (.int 1)) (mCall 2 m__law_take [] (mCons (mVar 0) (mCons (m2 (fI0 fun i j => .int (i - j)) (mVar 5) (mC (.int 1))) mNil)))) (mgName 6))
    (mAsg (m2 fAdd (m2 fAdd (mSl (mVar 4) moNone (moSome (mVar 6))) (m2 fIx (mVar 3) (mCall 2 m__law_take [] (mCons (mVar 0) (mCons (mC (.int 62)) mNil))))) (mSl (mVar 4) (moSome (m2 fAdd (mVar 6) (mC (.int 1)))) moNone)) (mgName 4)))) mNext)
    (mSeq (mIfS (mTest (m2 (fIn true) (mVar 4) (mVar 1))) (mRet (mVar 4)) mNext)
    (mSeq (mFor (miRng f1R (mCons (m2 fAdd (mN fLen (mCons (mVar 1) mNil)) (mC (.int 1))) mNil)) (mgName 7) (mIfS (mTest (m2 (fIn true) (m2 fAdd (mSl (mVar 4) moNone (moSome (mC (.int 17)))) (mN fStrI (mCons (mVar 7) mNil))) (mVar 1))) (mRet (m2 fAdd (mSl (mVar 4) moNone (moSome (mC (.int 17)))) (mN fStrI (mCons (mVar 7) mNil)))) mNext))
    (mRet (mVar 4))))))))))
def m__law_string : MF := mDef 7 false
    ((mSeq (mAsg (mCall 3 m__law_count [] (mCons (mVar 0) (mCons (mVar 1) (mCons (mVar 2) mNil)))) (mgName 3))
    (mSeq (mAsg (mLst (mCons (mC (.str "\"")) (mCons (mC (.str "#")) (mCons (mC (.str " ")) (mCons (mC (.str "\\")) (mCons (mC (.str "b")) (mCons (mC (.str "~")) (mCons (mC (.str "0")) (mCons (m2 fIx (mCall 0 m__law_chars [] mNil) (mCall 2 m__law_take [] (mCons (mVar 0) (mCons (mC (.int 94)) mNil)))) mNil))))))))) (mgName 4))
    (mSeq (mAsg (mC (.str "")) (mgName 5))
    (mSeq (mFor (miRng f1R (mCons (mN (fMM (fun i j => if j < i then j else i)) (mCons (mVar 3) (mCons (mC (.int 12)) mNil))) mNil)) (mgName 6) (mAsg (m2 fAdd (mVar 5) (mCall 2 m__law_pick [] (mCons (mVar 0) (mCons (mVar 4) mNil)))) (mgName 5)))
    (mSeq (mIfS (mTest (m2 (fI0 fun i j => .bl (decide (j < i))) (mVar 3) (mC (.int 12)))) (mAsg (m2 fAdd (mVar 5) (m2 fMul (m2 fIx (mVar 4) (mC (.int 7))) (m2 (fI0 fun i j => .int (i - j)) (mVar 3) (mC (.int 12))))) (mgName 5)) mNext)
    (mRet (mVar 5))))))))
def m__law_hex : MF := mDef 3 false
    ((mSeq (mAsg (mC (.str "0123456789abcdef")) (mgName 1))
    (mRet (mS1 fJoin (mC (.str "")) (mLc (miSq (mVar 0)) (mgName 2) mYes (m2 fAdd (m2 fIx (mVar 1) (m2 (fI CDivW fun i j => .int (i / j)) (mVar 2) (mC (.int 16)))) (m2 fIx (mVar 1) (m2 (fI (fun _ j => 0 < j) fun i j => .int (i % j)) (mN fInt (mCons (mVar 2) mNil)) (mC (.int 16))))) [2])))))
def m__law_long_figure : MF := mDef 2 false
    ((mSeq (mAsg (mCall 2 m__law_take [] (mCons (mVar 0) (mCons (mC (.int 6)) mNil))) (mgName 1))
    (mSeq (mIfS (mTest (m2 fEq (mVar 1) (mC (.int 0)))) (mRet (mCall 2 m__law_pick [] (mCons (mVar 0) (mCons (mLst (mCons (mC (.int 0)) (mCons (m2 (fI0 fun i j => .int (i - j)) (m2 (fI CPow fun i j => .int (i ^ j.toNat)) (mC (.int 10)) (mC (.int 60))) (mC (.int 1))) (mCons (m2 (fI0 fun i j => .int (i - j)) (mC (.int 1)) (m2 (fI CPow fun i j => .int (i ^ j.toNat)) (mC (.int 10)) (mC (.int 60)))) (mCons (m2 (fI CPow fun i j => .int (i ^ j.toNat)) (mC (.int 10)) (mC (.int 59))) (mCons (m1 (fU fun i => .int (-i)) (mC (.int 1))) (mCons (mC (.int 60)) mNil))))))) mNil)))) mNext)
    (mSeq (mIfS (mTest (m2 fEq (mVar 1) (mC (.int 1)))) (mRet (mCall 2 m__law_take [] (mCons (mVar 0) (mCons (m2 (fI CPow fun i j => .int (i ^ j.toNat)) (mC (.int 10)) (mC (.int 60))) mNil)))) mNext)
    (mSeq (mIfS (mTest (m2 fEq (mVar 1) (mC (.int 2)))) (mRet (mCall 1 m__law_figure [] (mCons (mVar 0) mNil))) mNext)
    (mRet (m2 (fI0 fun i j => .int (i - j)) (mCall 2 m__law_take [] (mCons (mVar 0) (mCons (mC (.int 40)) mNil))) (mC (.int 6)))))))))
def m__law_token : MF := mDef 7 false
    ((mSeq (mAsg (mCall 2 m__law_take [] (mCons (mVar 0) (mCons (mC (.int 8)) mNil))) (mgName 1))
    (mSeq (mIfS (mTest (m2 fEq (mVar 1) (mC (.int 0)))) (mSeq (mAsg (mCall 2 m__law_pick [] (mCons (mVar 0) (mCons (mLst (mCons (mC (.str "b")) (mCons (mC (.str "h")) (mCons (mC (.str "aB9")) (mCons (mC (.str "ZZ")) (mCons (m2 fMul (mC (.str "a")) (mC (.int 40))) (mCons (mCall 2 m__law_pick [] (mCons (mVar 0) (mCons (mCall 0 m__law_reserved [] mNil) mNil))) (mCons (mCall 1 m__law_name [] (mCons (mVar 0) mNil)) mNil)))))))) mNil))) (mgName 2))
    (mRet (mTup (mCons (mC (.str "word")) (mCons (mVar 2) (mCons (mVar 2) mNil)))))) mNext)
    (mSeq (mIfS (mTest (m2 fEq (mVar 1) (mC (.int 1)))) (mSeq (mAsg (mCall 2 m__law_big [] (mCons (mVar 0) (mCons (mLst mNil) mNil))) (mgName 2))
    (mRet (mTup (mCons (mC (.str "word")) (mCons (mVar 2) (mCons (mVar 2) mNil)))))) mNext)
    (mSeq (mIfS (mTest (m2 fEq (mVar 1) (mC (.int 2)))) (mSeq (mAsg (mCall 1 m__law_long_figure [] (mCons (mVar 0) mNil)) (mgName 3))
    (mRet (mTup (mCons (mC (.str "figure")) (mCons (mVar 3) (mCons (mN fStrI (mCons (mVar 3) mNil)) mNil)))))) mNext)
    (mSeq (mIfS (mTest (m2 fEq (mVar 1) (mC (.int 3)))) (mSeq (mAsg (mCall 3 m__law_string [] (mCons (mVar 0) (mCons (mC (.int 6)) (mCons (mC (.int 40)) mNil)))) (mgName 4))
    (mRet (mTup (mCons (mC (.str "string")) (mCons (mVar 4) (mCons (m2 fAdd (m2 fAdd (mC (.str "\"")) (mReplC "\"" "\"\"" (mVar 4))) (mC (.str "\""))) mNil)))))) mNext)
    (mSeq (mIfS (mTest (m2 fEq (mVar 1) (mC (.int 4)))) (mSeq (mAsg (m2 fMul (mSl (mC (.str "0110100")) (moSome (mCall 2 m__law_take [] (mCons (mVar 0) (mCons (mC (.int 7)) mNil)))) moNone) (mCall 2 m__law_take [] (mCons (mVar 0) (mCons (mC (.int 4)) mNil)))) (mgName 4))
    (mRet (mTup (mCons (mC (.str "bits")) (mCons (mVar 4) (mCons (m2 fAdd (m2 fAdd (mC (.str "b\"")) (mVar 4)) (mC (.str "\""))) mNil)))))) mNext)
    (mSeq (mIfS (mTest (m2 fEq (mVar 1) (mC (.int 5)))) (mSeq (mAsg (mCall 3 m__law_octet_row [] (mCons (mVar 0) (mCons (mC (.int 4)) (mCons (mC (.int 30)) mNil)))) (mgName 5))
    (mRet (mTup (mCons (mC (.str "hex")) (mCons (mN fTuple (mCons (mVar 5) mNil)) (mCons (m2 fAdd (m2 fAdd (mC (.str "h\"")) (mCall 1 m__law_hex [] (mCons (mVar 5) mNil))) (mC (.str "\""))) mNil)))))) mNext)
    (mSeq (mAsg (mLst (mCons (mC (.str "...")) (mCons (mC (.str "..")) (mCons (mC (.str ".")) (mCons (mC (.str "{")) (mCons (mC (.str "}")) (mCons (mC (.str "(")) (mCons (mC (.str ")")) (mCons (mC (.str "[")) (mCons (mC (.str "]")) (mCons (mC (.str "<")) (mCons (mC (.str ">")) (mCons (mC (.str ",")) (mCons (mC (.str ";")) (mCons (mC (.str ":")) (mCons (mC (.str "=")) (mCons (mC (.str "|")) mNil))))))))))))))))) (mgName 6))
    (mSeq (mAsg (mCall 2 m__law_pick [] (mCons (mVar 0) (mCons (mVar 6) mNil))) (mgName 2))
    (mRet (mTup (mCons (mC (.str "mark")) (mCons (mVar 2) (mCons (mVar 2) mNil)))))))))))))))
def m__law_spot : MF := mDef 1 false
    ((mRet (mTup (mCons (m2 fAdd (mC (.int 1)) (mS1 fCount (mVar 0) (mC (.str "\n")))) (mCons (m2 (fI0 fun i j => .int (i - j)) (mN fLen (mCons (mVar 0) mNil)) (mS1 fRfind (mVar 0) (mC (.str "\n")))) mNil)))))
end Pl
set_option Elab.async false
set_option linter.all false
set_option maxRecDepth 100000
set_option maxHeartbeats 4000000
namespace Mp
open PySem PySem.Spec PyProof.Rows L2
abbrev FS0 := Str → (D → Prop) → Prop
section
variable {X : Cx} {W : WX} {o : Expr} {to : TE} {Mo : ME} {pos apos : Pos}
end
section
variable {hp : List O} {env : List (Option S)} {n : Nat} {R : S → List O → Prop} {Xp : MX} {Mo : ME} {f : FS0}
end
end Mp
set_option Elab.async false
set_option linter.all false
set_option maxRecDepth 100000
set_option maxHeartbeats 4000000
namespace Mp
open PySem PySem.Spec PyProof.Rows L2
section
variable {X : Cx} {CX : CXT} {k : Nat} {f C : Addr} {fd : FuncData} {ps : List Str} {sp : Sp} {dvs : List V} {ds : List Value} {E : L2.St → XK} {x : Str} {p pos : Pos} {e : Expr} {es : List Expr} {t : TA}
def tMakeX (C : Addr) (sp : Sp) (dvs : List V) (E : L2.St → XK) (t : TA) : TE := fun σ H Q => tMake C sp dvs (E σ) t σ H Q
theorem run_makeX {pins : List (Addr × Obj)} {σ : L2.St} {H : Hp} {s : Shared} {Q : VK} {us : List Value} {vs : List V} (M : Mk X.K C f) (F : FnOk X.prog X.w X.K X.mg X.base CX k f fd ps sp) (hr : Room (k + 1) X.A) (hb : Binds X.K fd ps ds) (hd : Vals dvs ds)
    (hx : PassesAt CX X σ (E σ)) (I : Inv X pins σ H s) (r : Vals vs us)
    (h : ∀ x dx, H x = none → H dx = none → dx ≠ x → sp (.ref x :: (vs ++ dvs)) (upd (upd H dx (.own x)) x (.ins C dx [])) (fun v H2 => v = .non ∧ Q (.ref x) H2) (E σ)) :
    wpAny (model X.prog X.w) X.A (call (.ref C) us) (EP X pins σ Q) X.xe s := by
  have free := I.hok
  have h1 := h (s.heap.objs.size + 1) s.heap.objs.size (free.fresh (Nat.le_succ _)) (free.fresh (Nat.le_refl _)) (Nat.ne_of_lt (Nat.lt_succ_self _))
  have J := Inv.made (C := C) I
  have rel : Vals (V.ref (s.heap.objs.size + 1) :: (vs ++ dvs)) (Value.ref (s.heap.objs.size + 1) :: (us ++ ds)) := .cons rfl (r.append hd)
  have len : (Value.ref (s.heap.objs.size + 1) :: us ++ ds).length = ps.length := (rel.length.symm.trans (F.len _ _ _ _ h1))
  have body := F.run _ X.stack _ _ ⟨Value.ref (s.heap.objs.size + 1) :: us, []⟩ (Value.ref (s.heap.objs.size + 1) :: (us ++ ds)) _ _ (E σ) (hr.make C us []) (J.env0.make C us []) (hb _ (Value.ref (s.heap.objs.size + 1) :: us) J.kIn len) rel h1
  refine wpAny_call (make_map (f := f) I.kIn M.makes M.init (beq_iff_eq.mp M.fn) (codeAny_mono body fun res s' hq => ?_))
  cases res with
  | error er => exact hx pins _ _ er s' J hq
  | ok fl =>
    cases fl with
    | ret u =>
      obtain ⟨v, H', J2, rv, ev, q2⟩ := J.after hq
      cases ev
      exact ⟨rv, V.ref (s.heap.objs.size + 1), H', J2, rfl, q2⟩
    | _ => exact hq.elim
theorem pe_makeX (M : Mk X.K C f) (F : FnOk X.prog X.w X.K X.mg X.base CX k f fd ps sp) (hr : Room (k + 1) X.A) (hg : Gl X x) (hm : X.mg x = some (.ref C)) (hb : Binds X.K fd ps ds) (hd : Vals dvs ds) (hx : ∀ σ, PassesAt CX X σ (E σ))
    (ha : PA X (e :: es) t) (hdb : (x == ("__debug__" : Str)) = false := by decide) (he : starEach (e :: es) X.env = (false, eval e X.env) :: starEach es X.env := by rfl) (hpl : (backTo pos (starEach es X.env)).any (·.1) = false := by rfl) :
    PE X (.Call (.Name x p) (e :: es) [] pos) (tMakeX C sp dvs E t) := by
  refine ⟨fun pins s σ H Q I h => ?_⟩
  refine wpAny_Call_Name_kw (ld_glob I hg hm ?_ hdb)
  refine PySem.W.callWith_K (h₀ := X.base) I.ok.mod.kin M.kp (thn (ha.run pos pins s σ H _ I h) fun us s1 ⟨vs, H1, I1, r, q⟩ => ⟨I1.kIn, ?_⟩) he hpl
  exact run_makeX M F hr hb hd (hx σ) I1 r q
end
def mMakeX (C : Str) (n : Nat) (M : MF) (dd : List D) (Ma : MA) : ME := fun s R Xp => Ma s (fun ss hp1 => 1 + ss.length + dd.length = n ∧ M (hp1 ++ [.reg [.ins C []]]) (.ob hp1.length 0 :: (ss ++ dd.map S.d)) (fun v hp2 => v = .d .non ∧ R (.ob hp1.length 0) hp2) Xp) Xp
theorem sim_makeX {K : Frag} {W : WX} {n : Nat} {fr : Bool} {M : MF} {C : Str} {dvs : List V} {dd : List D} {t : TA} {Ma : MA} (hd : ∀ A H, RepL K A H dd dvs) (ha : SimA K W t Ma) : SimE K W (tMakeX (He.ga K C) (spM K n fr M) dvs (WE W) t) (mMakeX C n M dd Ma) := by
  intro α s H σ w e R Xp m Q q qx
  refine ha α s H σ w e _ _ m _ (fun ss hp1 α1 H1 vs m1 e1 w1 r1 => ?_) qx
  intro x dx hx hdx ne
  have e2 : Ext α1 hp1 H1 α1 hp1 (upd H1 dx (.own x)) := Ext.fresh hdx
  have w2 := w1.fresh (o := .own x) hdx
  have hx2 : upd H1 dx (.own x) x = none := by rw [upd_ne (Ne.symm ne)]; exact hx
  obtain ⟨w3, e3⟩ := w2.pushReg (x := .ins (He.ga K C) dx []) (g := .ins C []) hx2 fun st => ⟨dx, [], upd_same, .nil⟩
  have own0 : (α1.push (x, [])).own[hp1.length]? = some (x, []) := by
    show (α1.own ++ [(x, [])])[hp1.length]? = _
    rw [← w1.len, List.getElem?_append_right (Nat.le_refl _)]
    simp
  refine ⟨?_, α1.push (x, []), hp1 ++ [.reg [.ins C []]], .ob hp1.length 0 :: (ss ++ dd.map S.d), _, Xp, w3, .cons ⟨(x, []), x, own0, rfl, rfl⟩ (srepL_app (hd _ _) (r1.mono (e2.trans e3))), m1.2, fun s' hp' α' H' v r e' w' sr _ => ?_, fun x hp' α' H' c' d' r e' w' xr => qx x hp' α' H' c' d' r (((e1.trans e2).trans e3).trans e') w' xr⟩
  · have := r1.length
    have h2 := (hd noA H).length
    simp only [List.length_cons, List.length_append]
    have hm := m1.1
    rw [h2, this] at hm
    omega
  · obtain ⟨rfl, r⟩ := r
    obtain ⟨p', h1, h2, h3⟩ := e'.pre.own _ _ own0
    exact ⟨sr, q _ _ α' H' _ r (((e1.trans e2).trans e3).trans e') w' ⟨p', x, h1, adr_le h2 h3 rfl, rfl⟩⟩
section
variable {X : Cx} {W : WX} {e : Expr} {es : List Expr} {tA : TA} {MA' : MA} {pos : Pos}
theorem de_makeX (K : Frag) {C : Str} {k n : Nat} {f : Addr} {fd : FuncData} {ps : List Str} {fr : Bool} {M : MF} {ds : List Value} {dvs : List V} {dd : List D} {p : Pos} (mk : Mk K (He.ga K C) f) (F : FnOk X.prog X.w K X.mg X.base (L2.CX X.prog X.w) k f fd ps (spM K n fr M)) (tk : Takes X W) (hr : Room (k + 1) X.A) (hg : Gl X C) (hm : X.mg C = some (.ref (He.ga K C)))
    (hb : Binds K fd ps ds) (hd : Vals dvs ds) (hdd : ∀ A H, RepL K A H dd dvs) (ha : DA X W (e :: es) tA MA') (hdb : (C == ("__debug__" : Str)) = false := by decide)
    (he : starEach (e :: es) X.env = (false, eval e X.env) :: starEach es X.env := by rfl) (hpl : (backTo pos (starEach es X.env)).any (·.1) = false := by rfl) (hK : X.K = K := by rfl) :
    DE X W (.Call (.Name C p) (e :: es) [] pos) (tMakeX (He.ga K C) (spM K n fr M) dvs (WE W) tA) (mMakeX C n M dd MA') := by subst hK; exact ⟨pe_makeX mk F hr hg hm hb hd (fun σ => passAt tk σ) ha.p hdb he hpl, sim_makeX hdd ha.s⟩
end
section
variable {hp : List O} {env : List (Option S)} {n : Nat} {R : S → List O → Prop} {Xp : MX} {La : MA}
@[simp ↓] theorem x_makeX {C : Str} {k : Nat} {M : MF} {dd : List D} : mMakeX C k M dd La ⟨hp, env, n⟩ R Xp = La ⟨hp, env, n⟩ (fun ss hp1 => 1 + ss.length + dd.length = k ∧ mfH M (hp1 ++ [.reg [.ins C []]]) (.ob hp1.length 0 :: (ss ++ dd.map S.d)) (fun v hp2 => v = .d .non ∧ R (.ob hp1.length 0) hp2) Xp .mk) Xp := nr rfl
end
end Mp
set_option Elab.async false
set_option linter.all false
set_option maxRecDepth 100000
set_option maxHeartbeats 4000000
namespace Qk35
open PySem PySem.Spec PyProof.Rows L2 Mp Pl
def top (i : Nat) : Stmt := PySem.Challenge.pw_tagoctets_k35_unread_places.main.body.getD i (.Pass ⟨0, 0, 0, 0⟩)
abbrev n__law_mix : List Str := ["_law_first", "_law_second", "_law_once", "_law_twice"]
abbrev s__law_mix : Stmt := top 47
abbrev n__law_store : List Str := ["_law_script", "_law_seed", "_law_cell"]
abbrev s__law_store : Stmt := top 48
abbrev n__law_equal : List Str := ["_law_first", "_law_second", "_law_k"]
abbrev s__law_equal : Stmt := top 53
abbrev n__law_take : List Str := ["_law_store_here", "_law_many", "_law_cell", "_law_rest", "_law_base", "_law_total", "_law_rounds", "_law_k"]
abbrev s__law_take : Stmt := top 49
abbrev n__law_pick : List Str := ["_law_store_here", "_law_row"]
abbrev s__law_pick : Stmt := top 50
abbrev n__law_reserved : List Str := ["_law_words"]
abbrev s__law_reserved : Stmt := top 55
abbrev n__law_name : List Str := ["_law_store_here", "_law_letters", "_law_word", "_law_size", "_law_spot_here"]
abbrev s__law_name : Stmt := top 56
abbrev n__law_span : List Str := ["_law_store_here", "_law_low", "_law_high", "_law_side"]
abbrev s__law_span : Stmt := top 51
abbrev n__law_count : List Str := ["_law_store_here", "_law_few", "_law_many"]
abbrev s__law_count : Stmt := top 52
abbrev n__law_octet : List Str := ["_law_store_here"]
abbrev s__law_octet : Stmt := top 62
abbrev n__law_octet_row : List Str := ["_law_store_here", "_law_few", "_law_many", "_law_size", "_law_row", "_law_k"]
abbrev s__law_octet_row : Stmt := top 63
abbrev n__law_big : List Str := ["_law_store_here", "_law_taken", "_law_capitals", "_law_letters", "_law_word", "_law_size", "_law_spot_here", "_law_k"]
abbrev s__law_big : Stmt := top 64
abbrev n__law_chars : List Str := ["_law_head"]
abbrev s__law_chars : Stmt := top 54
abbrev n__law_string : List Str := ["_law_store_here", "_law_few", "_law_many", "_law_size", "_law_signs", "_law_text", "_law_k"]
abbrev s__law_string : Stmt := top 65
abbrev n__law_hex : List Str := ["_law_row", "_law_digits", "_law_octet_here"]
abbrev s__law_hex : Stmt := top 66
abbrev n__law_power : List Str := ["_law_count_here", "_law_total", "_law_k"]
abbrev s__law_power : Stmt := top 57
abbrev n__law_clamp : List Str := ["_law_number", "_law_low", "_law_high"]
abbrev s__law_clamp : Stmt := top 58
abbrev n__law_lowest : List Str := []
abbrev s__law_lowest : Stmt := top 59
abbrev n__law_highest : List Str := []
abbrev s__law_highest : Stmt := top 60
abbrev n__law_figure : List Str := ["_law_store_here", "_law_side", "_law_power_here", "_law_edge"]
abbrev s__law_figure : Stmt := top 61
abbrev n__law_long_figure : List Str := ["_law_store_here", "_law_side"]
abbrev s__law_long_figure : Stmt := top 67
abbrev n__law_token : List Str := ["_law_store_here", "_law_side", "_law_word", "_law_number", "_law_text", "_law_row", "_law_marks"]
abbrev s__law_token : Stmt := top 68
abbrev n__law_spot : List Str := ["_law_text"]
abbrev s__law_spot : Stmt := top 69
abbrev n__law_gap : List Str := ["_law_store_here", "_law_tight", "_law_side"]
abbrev s__law_gap : Stmt := top 70
abbrev n__law_laid : List Str := ["_law_store_here", "_law_words", "_law_plain", "_law_single", "_law_text", "_law_spots", "_law_k"]
abbrev s__law_laid : Stmt := top 71
abbrev n__law_bad_token : List Str := ["_law_store_here", "_law_nines"]
abbrev s__law_bad_token : Stmt := top 72
abbrev n__law_spoilt_text : List Str := ["_law_store_here", "_law_words", "_law_spot_here", "_law_head", "_law_spots", "_law_tail", "_law_more", "_law_bad", "_law_offset", "_law_line", "_law_column"]
abbrev s__law_spoilt_text : Stmt := top 73
abbrev n__law_case : List Str := ["_law_store_here", "_law_words", "_law_k"]
abbrev s__law_case : Stmt := top 74
abbrev n_run_end : List Str := ["row", "at", "signs"]
abbrev s_run_end : Stmt := top 12
abbrev n_is_figure : List Str := ["row", "at"]
abbrev s_is_figure : Stmt := top 13
abbrev n_read_figure : List Str := ["row", "at", "line", "begin", "stop"]
abbrev s_read_figure : Stmt := top 14
abbrev n_read_string : List Str := ["row", "at", "line", "signs", "spot"]
abbrev s_read_string : Stmt := top 15
abbrev n_read_quoted : List Str := ["row", "at", "line", "signs", "stop", "inner", "worths", "sign", "octets", "place"]
abbrev s_read_quoted : Stmt := top 16
abbrev n_read_token : List Str := ["row", "at", "line", "stop", "word", "mark"]
abbrev s_read_token : Stmt := top 17
abbrev n_line_tokens : List Str := ["row", "line", "found", "at", "sort", "content", "stop"]
abbrev s_line_tokens : Stmt := top 18
abbrev n_tokens : List Str := ["text", "rows", "found", "place", "row"]
abbrev s_tokens : Stmt := top 19
abbrev n_Cursor___init__ : List Str := ["self", "text"]
abbrev s_Cursor___init__ : Stmt := inClass (top 24) 0
abbrev n_parse_schema : List Str := ["text", "cursor", "modules"]
abbrev s_parse_schema : Stmt := top 27
abbrev n__law_place : List Str := ["_law_text", "_law_whole", "e"]
abbrev s__law_place : Stmt := top 75
abbrev n_law : List Str := ["_law_script", "_law_store_here", "_law_cases", "_law_good", "_law_k", "_law_text", "_law_line", "_law_column", "_law_whole", "_law_other"]
abbrev s_law : Stmt := top 76
theorem sc__law_mix : FnScope n__law_mix ["_law_first", "_law_second"] (defScope s__law_mix) := ⟨rfl, rfl, rfl, by decide +kernel, rfl, by decide +kernel, by decide +kernel⟩
theorem sc__law_store : FnScope n__law_store ["_law_script"] (defScope s__law_store) := ⟨rfl, rfl, rfl, by decide +kernel, rfl, by decide +kernel, by decide +kernel⟩
theorem sc__law_equal : FnScope n__law_equal ["_law_first", "_law_second"] (defScope s__law_equal) := ⟨rfl, rfl, rfl, by decide +kernel, rfl, by decide +kernel, by decide +kernel⟩
theorem sc__law_take : FnScope n__law_take ["_law_store_here", "_law_many"] (defScope s__law_take) := ⟨rfl, rfl, rfl, by decide +kernel, rfl, by decide +kernel, by decide +kernel⟩
theorem sc__law_pick : FnScope n__law_pick ["_law_store_here", "_law_row"] (defScope s__law_pick) := ⟨rfl, rfl, rfl, by decide +kernel, rfl, by decide +kernel, by decide +kernel⟩
theorem sc__law_reserved : FnScope n__law_reserved [] (defScope s__law_reserved) := ⟨rfl, rfl, rfl, by decide +kernel, rfl, by decide +kernel, by decide +kernel⟩
theorem sc__law_name : FnScope n__law_name ["_law_store_here"] (defScope s__law_name) := ⟨rfl, rfl, rfl, by decide +kernel, rfl, by decide +kernel, by decide +kernel⟩
theorem sc__law_span : FnScope n__law_span ["_law_store_here", "_law_low", "_law_high"] (defScope s__law_span) := ⟨rfl, rfl, rfl, by decide +kernel, rfl, by decide +kernel, by decide +kernel⟩
theorem sc__law_count : FnScope n__law_count ["_law_store_here", "_law_few", "_law_many"] (defScope s__law_count) := ⟨rfl, rfl, rfl, by decide +kernel, rfl, by decide +kernel, by decide +kernel⟩
theorem sc__law_octet : FnScope n__law_octet ["_law_store_here"] (defScope s__law_octet) := ⟨rfl, rfl, rfl, by decide +kernel, rfl, by decide +kernel, by decide +kernel⟩
theorem sc__law_octet_row : FnScope n__law_octet_row ["_law_store_here", "_law_few", "_law_many"] (defScope s__law_octet_row) := ⟨rfl, rfl, rfl, by decide +kernel, rfl, by decide +kernel, by decide +kernel⟩
theorem sc__law_big : FnScope n__law_big ["_law_store_here", "_law_taken"] (defScope s__law_big) := ⟨rfl, rfl, rfl, by decide +kernel, rfl, by decide +kernel, by decide +kernel⟩
theorem sc__law_chars : FnScope n__law_chars [] (defScope s__law_chars) := ⟨rfl, rfl, rfl, by decide +kernel, rfl, by decide +kernel, by decide +kernel⟩
theorem sc__law_string : FnScope n__law_string ["_law_store_here", "_law_few", "_law_many"] (defScope s__law_string) := ⟨rfl, rfl, rfl, by decide +kernel, rfl, by decide +kernel, by decide +kernel⟩
theorem sc__law_hex : FnScope n__law_hex ["_law_row"] (defScope s__law_hex) := ⟨rfl, rfl, rfl, by decide +kernel, rfl, by decide +kernel, by decide +kernel⟩
theorem sc__law_power : FnScope n__law_power ["_law_count_here"] (defScope s__law_power) := ⟨rfl, rfl, rfl, by decide +kernel, rfl, by decide +kernel, by decide +kernel⟩
theorem sc__law_clamp : FnScope n__law_clamp ["_law_number", "_law_low", "_law_high"] (defScope s__law_clamp) := ⟨rfl, rfl, rfl, by decide +kernel, rfl, by decide +kernel, by decide +kernel⟩
theorem sc__law_lowest : FnScope n__law_lowest [] (defScope s__law_lowest) := ⟨rfl, rfl, rfl, by decide +kernel, rfl, by decide +kernel, by decide +kernel⟩
theorem sc__law_highest : FnScope n__law_highest [] (defScope s__law_highest) := ⟨rfl, rfl, rfl, by decide +kernel, rfl, by decide +kernel, by decide +kernel⟩
theorem sc__law_figure : FnScope n__law_figure ["_law_store_here"] (defScope s__law_figure) := ⟨rfl, rfl, rfl, by decide +kernel, rfl, by decide +kernel, by decide +kernel⟩
theorem sc__law_long_figure : FnScope n__law_long_figure ["_law_store_here"] (defScope s__law_long_figure) := ⟨rfl, rfl, rfl, by decide +kernel, rfl, by decide +kernel, by decide +kernel⟩
theorem sc__law_token : FnScope n__law_token ["_law_store_here"] (defScope s__law_token) := ⟨rfl, rfl, rfl, by decide +kernel, rfl, by decide +kernel, by decide +kernel⟩
theorem sc__law_spot : FnScope n__law_spot ["_law_text"] (defScope s__law_spot) := ⟨rfl, rfl, rfl, by decide +kernel, rfl, by decide +kernel, by decide +kernel⟩
theorem sc__law_gap : FnScope n__law_gap ["_law_store_here", "_law_tight"] (defScope s__law_gap) := ⟨rfl, rfl, rfl, by decide +kernel, rfl, by decide +kernel, by decide +kernel⟩
theorem sc__law_laid : FnScope n__law_laid ["_law_store_here", "_law_words", "_law_plain"] (defScope s__law_laid) := ⟨rfl, rfl, rfl, by decide +kernel, rfl, by decide +kernel, by decide +kernel⟩
theorem sc__law_bad_token : FnScope n__law_bad_token ["_law_store_here"] (defScope s__law_bad_token) := ⟨rfl, rfl, rfl, by decide +kernel, rfl, by decide +kernel, by decide +kernel⟩
theorem sc__law_spoilt_text : FnScope n__law_spoilt_text ["_law_store_here", "_law_words"] (defScope s__law_spoilt_text) := ⟨rfl, rfl, rfl, by decide +kernel, rfl, by decide +kernel, by decide +kernel⟩
theorem sc__law_case : FnScope n__law_case ["_law_store_here"] (defScope s__law_case) := ⟨rfl, rfl, rfl, by decide +kernel, rfl, by decide +kernel, by decide +kernel⟩
theorem sc_run_end : FnScope n_run_end ["row", "at", "signs"] (defScope s_run_end) := ⟨rfl, rfl, rfl, by decide +kernel, rfl, by decide +kernel, by decide +kernel⟩
theorem sc_is_figure : FnScope n_is_figure ["row", "at"] (defScope s_is_figure) := ⟨rfl, rfl, rfl, by decide +kernel, rfl, by decide +kernel, by decide +kernel⟩
theorem sc_read_figure : FnScope n_read_figure ["row", "at", "line"] (defScope s_read_figure) := ⟨rfl, rfl, rfl, by decide +kernel, rfl, by decide +kernel, by decide +kernel⟩
theorem sc_read_string : FnScope n_read_string ["row", "at", "line"] (defScope s_read_string) := ⟨rfl, rfl, rfl, by decide +kernel, rfl, by decide +kernel, by decide +kernel⟩
theorem sc_read_quoted : FnScope n_read_quoted ["row", "at", "line"] (defScope s_read_quoted) := ⟨rfl, rfl, rfl, by decide +kernel, rfl, by decide +kernel, by decide +kernel⟩
theorem sc_read_token : FnScope n_read_token ["row", "at", "line"] (defScope s_read_token) := ⟨rfl, rfl, rfl, by decide +kernel, rfl, by decide +kernel, by decide +kernel⟩
theorem sc_line_tokens : FnScope n_line_tokens ["row", "line"] (defScope s_line_tokens) := ⟨rfl, rfl, rfl, by decide +kernel, rfl, by decide +kernel, by decide +kernel⟩
theorem sc_tokens : FnScope n_tokens ["text"] (defScope s_tokens) := ⟨rfl, rfl, rfl, by decide +kernel, rfl, by decide +kernel, by decide +kernel⟩
theorem sc_Cursor___init__ : FnScope n_Cursor___init__ ["self", "text"] (defScope s_Cursor___init__) := ⟨rfl, rfl, rfl, by decide +kernel, rfl, by decide +kernel, by decide +kernel⟩
theorem sc_parse_schema : FnScope n_parse_schema ["text"] (defScope s_parse_schema) := ⟨rfl, rfl, rfl, by decide +kernel, rfl, by decide +kernel, by decide +kernel⟩
theorem sc__law_place : FnScope n__law_place ["_law_text", "_law_whole"] (defScope s__law_place) := ⟨rfl, rfl, rfl, by decide +kernel, rfl, by decide +kernel, by decide +kernel⟩
theorem sc_law : FnScope n_law ["_law_script"] (defScope s_law) := ⟨rfl, rfl, rfl, by decide +kernel, rfl, by decide +kernel, by decide +kernel⟩
abbrev P : Program := (PySem.Challenge.rw_tagoctets_k35_unread_places).prog
abbrev FnP (K : PySem.W.Frag) (x : Str) (st : Stmt) (f : Addr) (fd : FuncData) (dvs : List V := []) (kws : List (Str × V) := []) : Prop := FunD K x x (defArgs st) (defBody st) (defScope st) dvs kws f fd
def t_0 : List (Str × Bool) := [("Refused", true), ("Unfit", true), ("Unread", true), ("Unresolved", true)]
@[simp] theorem t_0_Refused : List.lookup ("Refused" : Str) t_0 = some true := by rfl
@[simp] theorem t_0_Unfit : List.lookup ("Unfit" : Str) t_0 = some true := by rfl
@[simp] theorem t_0_Unread : List.lookup ("Unread" : Str) t_0 = some true := by rfl
@[simp] theorem t_0_Unresolved : List.lookup ("Unresolved" : Str) t_0 = some true := by rfl
def t_1 : List (Str × Bool) := [("Refused", false), ("Unfit", false), ("Unread", true), ("Unresolved", false)]
@[simp] theorem t_1_Refused : List.lookup ("Refused" : Str) t_1 = some false := by rfl
@[simp] theorem t_1_Unfit : List.lookup ("Unfit" : Str) t_1 = some false := by rfl
@[simp] theorem t_1_Unread : List.lookup ("Unread" : Str) t_1 = some true := by rfl
@[simp] theorem t_1_Unresolved : List.lookup ("Unresolved" : Str) t_1 = some false := by rfl
def t_2 : List (Str × Bool) := [("Refused", false), ("Unfit", false), ("Unread", false), ("Unresolved", true)]
@[simp] theorem t_2_Refused : List.lookup ("Refused" : Str) t_2 = some false := by rfl
@[simp] theorem t_2_Unfit : List.lookup ("Unfit" : Str) t_2 = some false := by rfl
@[simp] theorem t_2_Unread : List.lookup ("Unread" : Str) t_2 = some false := by rfl
@[simp] theorem t_2_Unresolved : List.lookup ("Unresolved" : Str) t_2 = some true := by rfl
def t_3 : List (Str × Bool) := [("Refused", true), ("Unfit", false), ("Unread", false), ("Unresolved", false)]
@[simp] theorem t_3_Refused : List.lookup ("Refused" : Str) t_3 = some true := by rfl
@[simp] theorem t_3_Unfit : List.lookup ("Unfit" : Str) t_3 = some false := by rfl
@[simp] theorem t_3_Unread : List.lookup ("Unread" : Str) t_3 = some false := by rfl
@[simp] theorem t_3_Unresolved : List.lookup ("Unresolved" : Str) t_3 = some false := by rfl
def t_4 : List (Str × Bool) := [("Refused", false), ("Unfit", true), ("Unread", false), ("Unresolved", false)]
@[simp] theorem t_4_Refused : List.lookup ("Refused" : Str) t_4 = some false := by rfl
@[simp] theorem t_4_Unfit : List.lookup ("Unfit" : Str) t_4 = some true := by rfl
@[simp] theorem t_4_Unread : List.lookup ("Unread" : Str) t_4 = some false := by rfl
@[simp] theorem t_4_Unresolved : List.lookup ("Unresolved" : Str) t_4 = some false := by rfl
def dx_Refused : XcD := ⟨"Refused", "Refused.__init__", inClass (top 2) 0, ["place"]⟩
def dx_Unfit : XcD := ⟨"Unfit", "Unfit.__init__", inClass (top 3) 0, ["path"]⟩
def dx_Unread : XcD := ⟨"Unread", "Unread.__init__", inClass (top 4) 0, ["line", "column"]⟩
def dx_Unresolved : XcD := ⟨"Unresolved", "Unresolved.__init__", inClass (top 5) 0, ["fault", "module", "definition", "word"]⟩
def xs : List XcD := [dx_Refused, dx_Unfit, dx_Unread, dx_Unresolved]
abbrev gd_MARKS : D := .tup [.str "...", .str "..", .str ".", .str "{", .str "}", .str "(", .str ")", .str "[", .str "]", .str "<", .str ">", .str ",", .str ";", .str ":", .str "=", .str "|"]
def bs : List (PySem.W.Frag → Bool) := [exT "TagoctetsError" t_0, exT "Unread" t_1, isT [.own "Unresolved"] t_2, isT [.own "Refused"] t_3, isT [.own "Unfit"] t_4, gdB "MARKS" gd_MARKS]
def tabs : List TbD := []
def m__law_gap : MF := mDef 3 false
    ((mSeq (mAsg (mCall 2 m__law_take [] (mCons (mVar 0) (mCons (mC (.int 4)) mNil))) (mgName 2))
    (mSeq (mIfS (mAnd (mTest (m2 fEq (mVar 2) (mC (.int 0)))) (mTest (mVar 1))) (mRet (mC (.str ""))) mNext)
    (mSeq (mIfS (mTest (m2 (fI0 fun i j => .bl (decide (i < j))) (mVar 2) (mC (.int 3)))) (mRet (mC (.str " "))) mNext)
    (mRet (mCall 2 m__law_pick [] (mCons (mVar 0) (mCons (mLst (mCons (mC (.str "\n")) (mCons (mC (.str "  ")) (mCons (mC (.str " \n ")) (mCons (mC (.str "# a \"b{\n")) (mCons (mC (.str "#\n")) (mCons (mC (.str "\n\n")) (mCons (mC (.str " ## 0 $ ;\n")) (mCons (mC (.str "   ")) mNil))))))))) mNil))))))))
def m__law_laid : MF := mDef 7 false
    ((mSeq (mAsg (mC (.str "{}()[]<>,;:=|")) (mgName 3))
    (mSeq (mAsg (mC (.str "")) (mgName 4))
    (mSeq (mAsg (mLstM mNil) (mgName 5))
    (mSeq (mIfS (mNot (mTest (mVar 2))) (mAsg (mCall 2 m__law_pick [] (mCons (mVar 0) (mCons (mLst (mCons (mC (.str "")) (mCons (mC (.str "")) (mCons (mC (.str " ")) (mCons (mC (.str "\n")) (mCons (mC (.str "# x\n")) (mCons (mC (.str "\n \n")) mNil))))))) mNil))) (mgName 4)) mNext)
    (mSeq (mFor (miRng f1R (mCons (mN fLen (mCons (mVar 1) mNil)) mNil)) (mgName 6) (mSeq (mIfS (mAnd (mTest (m2 (fI0 fun i j => .bl (decide (j < i))) (mVar 6) (mC (.int 0)))) (mTest (mVar 2))) (mAsg (m2 fAdd (mVar 4) (mC (.str " "))) (mgName 4)) (mIfS (mTest (m2 (fI0 fun i j => .bl (decide (j < i))) (mVar 6) (mC (.int 0)))) (mAsg (m2 fAdd (mVar 4) (mCall 2 m__law_gap [] (mCons (mVar 0) (mCons (mOrV (m2 (fIn false) (m2 fIx (mVar 1) (m2 (fI0 fun i j => .int (i - j)) (mVar 6) (mC (.int 1)))) (mVar 3)) (m2 (fIn false) (m2 fIx (mVar 1) (mVar 6)) (mVar 3))) mNil)))) (mgName 4)) mNext))
    (mSeq (mDrop (mMeth false fAppend (mVar 5) (mCons (mCall 1 m__law_spot [] (mCons (mVar 4) mNil)) mNil)))
    (mAsg (m2 fAdd (mVar 4) (m2 fIx (mVar 1) (mVar 6))) (mgName 4)))))
    (mSeq (mIfS (mNot (mTest (mVar 2))) (mAsg (m2 fAdd (mVar 4) (mCall 2 m__law_pick [] (mCons (mVar 0) (mCons (mLst (mCons (mC (.str "")) (mCons (mC (.str "")) (mCons (mC (.str " ")) (mCons (mC (.str "\n")) (mCons (mC (.str " # end")) (mCons (mC (.str "#")) (mCons (mC (.str "\n\n  ")) (mCons (mC (.str " # \"\n")) mNil))))))))) mNil)))) (mgName 4)) mNext)
    (mRet (mTup (mCons (mVar 4) (mCons (m2 fAdd (mVar 5) (mLst (mCons (mCall 1 m__law_spot [] (mCons (mVar 4) mNil)) mNil))) mNil)))))))))))
def m__law_bad_token : MF := mDef 2 false
    ((mSeq (mAsg (m2 fMul (mC (.str "9")) (mC (.int 61))) (mgName 1))
    (mRet (mCall 2 m__law_pick [] (mCons (mVar 0) (mCons (mLst (mCons (mTup (mCons (mC (.str "$")) (mCons (mC (.int 0)) mNil))) (mCons (mTup (mCons (mC (.str "~")) (mCons (mC (.int 0)) mNil))) (mCons (mTup (mCons (mC (.str "_a")) (mCons (mC (.int 0)) mNil))) (mCons (mTup (mCons (mC (.str "!")) (mCons (mC (.int 0)) mNil))) (mCons (mTup (mCons (mC (.str "'")) (mCons (mC (.int 0)) mNil))) (mCons (mTup (mCons (mC (.str "\\")) (mCons (mC (.int 0)) mNil))) (mCons (mTup (mCons (mC (.str "-")) (mCons (mC (.int 0)) mNil))) (mCons (mTup (mCons (mC (.str "-a")) (mCons (mC (.int 0)) mNil))) (mCons (mTup (mCons (mC (.str "- 1")) (mCons (mC (.int 0)) mNil))) (mCons (mTup (mCons (mC (.str "007")) (mCons (mC (.int 0)) mNil))) (mCons (mTup (mCons (mC (.str "00")) (mCons (mC (.int 0)) mNil))) (mCons (mTup (mCons (mC (.str "-0")) (mCons (mC (.int 0)) mNil))) (mCons (mTup (mCons (mC (.str "-01")) (mCons (mC (.int 0)) mNil))) (mCons (mTup (mCons (mVar 1) (mCons (mC (.int 0)) mNil))) (mCons (mTup (mCons (m2 fAdd (mC (.str "-")) (mVar 1)) (mCons (mC (.int 0)) mNil))) (mCons (mTup (mCons (mC (.str "12a")) (mCons (mC (.int 2)) mNil))) (mCons (mTup (mCons (mC (.str "0x1")) (mCons (mC (.int 1)) mNil))) (mCons (mTup (mCons (mC (.str "-5Z")) (mCons (mC (.int 2)) mNil))) (mCons (mTup (mCons (mC (.str "a $")) (mCons (mC (.int 2)) mNil))) (mCons (mTup (mCons (mC (.str "\"abc")) (mCons (mC (.int 0)) mNil))) (mCons (mTup (mCons (mC (.str "\"")) (mCons (mC (.int 0)) mNil))) (mCons (mTup (mCons (mC (.str "\"\"\"")) (mCons (mC (.int 0)) mNil))) (mCons (mTup (mCons (mC (.str "b\"012\"")) (mCons (mC (.int 0)) mNil))) (mCons (mTup (mCons (mC (.str "b\"01")) (mCons (mC (.int 0)) mNil))) (mCons (mTup (mCons (mC (.str "h\"0\"")) (mCons (mC (.int 0)) mNil))) (mCons (mTup (mCons (mC (.str "h\"AB\"")) (mCons (mC (.int 0)) mNil))) (mCons (mTup (mCons (mC (.str "h\"0 1\"")) (mCons (mC (.int 0)) mNil))) (mCons (mTup (mCons (mC (.str "h\"")) (mCons (mC (.int 0)) mNil))) (mCons (mTup (mCons (mC (.str "+1")) (mCons (mC (.int 0)) mNil))) (mCons (mTup (mCons (mC (.str "a-")) (mCons (mC (.int 1)) mNil))) (mCons (mTup (mCons (mC (.str "/")) (mCons (mC (.int 0)) mNil))) (mCons (mTup (mCons (mC (.str "?")) (mCons (mC (.int 0)) mNil))) (mCons (mTup (mCons (mC (.str "&")) (mCons (mC (.int 0)) mNil))) (mCons (mTup (mCons (mC (.str "a_b")) (mCons (mC (.int 1)) mNil))) (mCons (mTup (mCons (mC (.str "@")) (mCons (mC (.int 0)) mNil))) (mCons (mTup (mCons (mC (.str "a\"")) (mCons (mC (.int 1)) mNil))) (mCons (mTup (mCons (mC (.str "h\"aa\"\"")) (mCons (mC (.int 5)) mNil))) mNil)))))))))))))))))))))))))))))))))))))) mNil))))))
def m__law_spoilt_text : MF := mDef 11 false
    ((mSeq (mAsg (mCall 2 m__law_take [] (mCons (mVar 0) (mCons (m2 fAdd (mN fLen (mCons (mVar 1) mNil)) (mC (.int 1))) mNil))) (mgName 2))
    (mSeq (mAsg (mCall 3 m__law_laid [] (mCons (mVar 0) (mCons (mSl (mVar 1) moNone (moSome (mVar 2))) (mCons (mC (.bl false)) mNil)))) (mgTup 2 (mgsCons (mgName 3) (mgsCons (mgName 4) mgsNil))))
    (mSeq (mAsg (mCall 3 m__law_laid [] (mCons (mVar 0) (mCons (mSl (mVar 1) (moSome (mVar 2)) moNone) (mCons (mC (.bl false)) mNil)))) (mgTup 2 (mgsCons (mgName 5) (mgsCons (mgName 6) mgsNil))))
    (mSeq (mAsg (mCall 1 m__law_bad_token [] (mCons (mVar 0) mNil)) (mgTup 2 (mgsCons (mgName 7) (mgsCons (mgName 8) mgsNil))))
    (mSeq (mAsg (mCall 1 m__law_spot [] (mCons (m2 fAdd (mVar 3) (mC (.str "\n "))) mNil)) (mgTup 2 (mgsCons (mgName 9) (mgsCons (mgName 10) mgsNil))))
    (mRet (mTup (mCons (m2 fAdd (m2 fAdd (m2 fAdd (m2 fAdd (mVar 3) (mC (.str "\n "))) (mVar 7)) (mC (.str "\n"))) (mVar 5)) (mCons (mVar 9) (mCons (m2 fAdd (mVar 10) (mVar 8)) mNil)))))))))))
def m__law_case : MF := mDef 3 false
    ((mSeq (mAsg (mLc (miRng f1R (mCons (mCall 2 m__law_pick [] (mCons (mVar 0) (mCons (mLst (mCons (mC (.int 0)) (mCons (mC (.int 1)) (mCons (mC (.int 2)) (mCons (mC (.int 4)) (mCons (mC (.int 8)) (mCons (mC (.int 20)) mNil))))))) mNil))) mNil)) (mgName 2) mYes (m2 fIx (mCall 1 m__law_token [] (mCons (mVar 0) mNil)) (mC (.int 2))) [2]) (mgName 1))
    (mRet (mCall 2 m__law_spoilt_text [] (mCons (mVar 0) (mCons (mVar 1) mNil))))))
def m_Cursor___init__ : MF := mDef 2 false
    ((mSeq (mSetF "Cursor" "token_row" (mVar 0) (mCall 1 m_tokens [] (mCons (mVar 1) mNil)))
    (mSetF "Cursor" "token_at" (mVar 0) (mC (.int 0)))))
def m_parse_schema : MF := mDef 3 false
    ((mSeq (mAsg (mMakeX "Cursor" 2 m_Cursor___init__ [] (mCons (mVar 0) mNil)) (mgName 1))
    (mSeq (mAsg (mLstM mNil) (mgName 2))
    (mSeq mNevS
    (mRet (mN fTuple (mCons (mVar 2) mNil)))))))
def m__law_place : MF := mDef 3 false
    ((mSeq (mTry 3 (⟨t_1, some 2, fun xa xc xd => (mSeq (mIfS (mOr (mTest (mIsX 2 xa xc xd t_2)) (mOr (mTest (mIsX 2 xa xc xd t_3)) (mTest (mIsX 2 xa xc xd t_4)))) (mRet (mC .non)) mNext)
    (mRet (mTup (mCons (mXf 2 xa xc xd ["Unread"] "line") (mCons (mXf 2 xa xc xd ["Unread"] "column") mNil)))))⟩ :: (⟨t_0, none, fun xa xc xd => (mRet (mC .non))⟩ :: [])) (mIfS (mTest (mVar 1)) (mDrop (mCall 1 m_parse_schema [] (mCons (mVar 0) mNil))) (mDrop (mCall 1 m_tokens [] (mCons (mVar 0) mNil)))))
    (mRet (mC (.str "read")))))
def m_law : MF := mDef 10 false
    ((mSeq (mAsg (mCall 1 m__law_store [] (mCons (mVar 0) mNil)) (mgName 1))
    (mSeq (mAsg (mLst (mCons (mCall 1 m__law_case [] (mCons (mVar 1) mNil)) (mCons (mCall 1 m__law_case [] (mCons (mVar 1) mNil)) mNil))) (mgName 2))
    (mSeq (mAsg (mLst (mCons (m2 fIx (mCall 3 m__law_laid [] (mCons (mVar 1) (mCons (mLc (miRng f1R (mCons (mC (.int 5)) mNil)) (mgName 4) mYes (m2 fIx (mCall 1 m__law_token [] (mCons (mVar 1) mNil)) (mC (.int 2))) [4]) (mCons (mC (.bl false)) mNil)))) (mC (.int 0))) (mCons (mC (.str "")) mNil))) (mgName 3))
    (mSeq (mFor (miSq (m2 fAdd (mVar 2) (mSl (mVar 2) moNone (moSome (mC (.int 1)))))) (mgTup 3 (mgsCons (mgName 5) (mgsCons (mgName 6) (mgsCons (mgName 7) mgsNil)))) (mSeq (mFor (miSq (mLst (mCons (mC (.bl false)) (mCons (mC (.bl true)) (mCons (mC (.bl false)) mNil))))) (mgName 8) (mIfS (mNot (mTest (mCall 2 (m__law_equal 8) [] (mCons (mCall 2 m__law_place [] (mCons (mVar 5) (mCons (mVar 8) mNil))) (mCons (mTup (mCons (mVar 6) (mCons (mVar 7) mNil))) mNil))))) (mRet (mC (.bl false))) mNext))
    (mFor (miSq (mVar 3)) (mgName 9) (mIfS (mTest (m2 fNe (mCall 2 m__law_place [] (mCons (mVar 9) (mCons (mC (.bl false)) mNil))) (mC (.str "read")))) (mRet (mC (.bl false))) mNext))))
    (mRet (mC (.bl true))))))))
structure Zs (K : PySem.W.Frag) (mg : Str → Option Value) where
  f__law_mix : Addr
  fd__law_mix : FuncData
  F__law_mix : FnP K "_law_mix" s__law_mix f__law_mix fd__law_mix
  g__law_mix : mg "_law_mix" = some (.ref f__law_mix)
  b__law_mix : Binds K fd__law_mix ["_law_first", "_law_second"] []
  f__law_store : Addr
  fd__law_store : FuncData
  F__law_store : FnP K "_law_store" s__law_store f__law_store fd__law_store
  g__law_store : mg "_law_store" = some (.ref f__law_store)
  b__law_store : Binds K fd__law_store ["_law_script"] []
  f__law_equal : Addr
  fd__law_equal : FuncData
  F__law_equal : FnP K "_law_equal" s__law_equal f__law_equal fd__law_equal
  g__law_equal : mg "_law_equal" = some (.ref f__law_equal)
  b__law_equal : Binds K fd__law_equal ["_law_first", "_law_second"] []
  f__law_take : Addr
  fd__law_take : FuncData
  F__law_take : FnP K "_law_take" s__law_take f__law_take fd__law_take
  g__law_take : mg "_law_take" = some (.ref f__law_take)
  b__law_take : Binds K fd__law_take ["_law_store_here", "_law_many"] []
  f__law_pick : Addr
  fd__law_pick : FuncData
  F__law_pick : FnP K "_law_pick" s__law_pick f__law_pick fd__law_pick
  g__law_pick : mg "_law_pick" = some (.ref f__law_pick)
  b__law_pick : Binds K fd__law_pick ["_law_store_here", "_law_row"] []
  f__law_reserved : Addr
  fd__law_reserved : FuncData
  F__law_reserved : FnP K "_law_reserved" s__law_reserved f__law_reserved fd__law_reserved
  g__law_reserved : mg "_law_reserved" = some (.ref f__law_reserved)
  b__law_reserved : Binds K fd__law_reserved [] []
  f__law_name : Addr
  fd__law_name : FuncData
  F__law_name : FnP K "_law_name" s__law_name f__law_name fd__law_name
  g__law_name : mg "_law_name" = some (.ref f__law_name)
  b__law_name : Binds K fd__law_name ["_law_store_here"] []
  f__law_span : Addr
  fd__law_span : FuncData
  F__law_span : FnP K "_law_span" s__law_span f__law_span fd__law_span
  g__law_span : mg "_law_span" = some (.ref f__law_span)
  b__law_span : Binds K fd__law_span ["_law_store_here", "_law_low", "_law_high"] []
  f__law_count : Addr
  fd__law_count : FuncData
  F__law_count : FnP K "_law_count" s__law_count f__law_count fd__law_count
  g__law_count : mg "_law_count" = some (.ref f__law_count)
  b__law_count : Binds K fd__law_count ["_law_store_here", "_law_few", "_law_many"] []
  f__law_octet : Addr
  fd__law_octet : FuncData
  F__law_octet : FnP K "_law_octet" s__law_octet f__law_octet fd__law_octet
  g__law_octet : mg "_law_octet" = some (.ref f__law_octet)
  b__law_octet : Binds K fd__law_octet ["_law_store_here"] []
  f__law_octet_row : Addr
  fd__law_octet_row : FuncData
  F__law_octet_row : FnP K "_law_octet_row" s__law_octet_row f__law_octet_row fd__law_octet_row
  g__law_octet_row : mg "_law_octet_row" = some (.ref f__law_octet_row)
  b__law_octet_row : Binds K fd__law_octet_row ["_law_store_here", "_law_few", "_law_many"] []
  f__law_big : Addr
  fd__law_big : FuncData
  F__law_big : FnP K "_law_big" s__law_big f__law_big fd__law_big
  g__law_big : mg "_law_big" = some (.ref f__law_big)
  b__law_big : Binds K fd__law_big ["_law_store_here", "_law_taken"] []
  f__law_chars : Addr
  fd__law_chars : FuncData
  F__law_chars : FnP K "_law_chars" s__law_chars f__law_chars fd__law_chars
  g__law_chars : mg "_law_chars" = some (.ref f__law_chars)
  b__law_chars : Binds K fd__law_chars [] []
  f__law_string : Addr
  fd__law_string : FuncData
  F__law_string : FnP K "_law_string" s__law_string f__law_string fd__law_string
  g__law_string : mg "_law_string" = some (.ref f__law_string)
  b__law_string : Binds K fd__law_string ["_law_store_here", "_law_few", "_law_many"] []
  f__law_hex : Addr
  fd__law_hex : FuncData
  F__law_hex : FnP K "_law_hex" s__law_hex f__law_hex fd__law_hex
  g__law_hex : mg "_law_hex" = some (.ref f__law_hex)
  b__law_hex : Binds K fd__law_hex ["_law_row"] []
  f__law_power : Addr
  fd__law_power : FuncData
  F__law_power : FnP K "_law_power" s__law_power f__law_power fd__law_power
  g__law_power : mg "_law_power" = some (.ref f__law_power)
  b__law_power : Binds K fd__law_power ["_law_count_here"] []
  f__law_clamp : Addr
  fd__law_clamp : FuncData
  F__law_clamp : FnP K "_law_clamp" s__law_clamp f__law_clamp fd__law_clamp
  g__law_clamp : mg "_law_clamp" = some (.ref f__law_clamp)
  b__law_clamp : Binds K fd__law_clamp ["_law_number", "_law_low", "_law_high"] []
  f__law_lowest : Addr
  fd__law_lowest : FuncData
  F__law_lowest : FnP K "_law_lowest" s__law_lowest f__law_lowest fd__law_lowest
  g__law_lowest : mg "_law_lowest" = some (.ref f__law_lowest)
  b__law_lowest : Binds K fd__law_lowest [] []
  f__law_highest : Addr
  fd__law_highest : FuncData
  F__law_highest : FnP K "_law_highest" s__law_highest f__law_highest fd__law_highest
  g__law_highest : mg "_law_highest" = some (.ref f__law_highest)
  b__law_highest : Binds K fd__law_highest [] []
  f__law_figure : Addr
  fd__law_figure : FuncData
  F__law_figure : FnP K "_law_figure" s__law_figure f__law_figure fd__law_figure
  g__law_figure : mg "_law_figure" = some (.ref f__law_figure)
  b__law_figure : Binds K fd__law_figure ["_law_store_here"] []
  f__law_long_figure : Addr
  fd__law_long_figure : FuncData
  F__law_long_figure : FnP K "_law_long_figure" s__law_long_figure f__law_long_figure fd__law_long_figure
  g__law_long_figure : mg "_law_long_figure" = some (.ref f__law_long_figure)
  b__law_long_figure : Binds K fd__law_long_figure ["_law_store_here"] []
  f__law_token : Addr
  fd__law_token : FuncData
  F__law_token : FnP K "_law_token" s__law_token f__law_token fd__law_token
  g__law_token : mg "_law_token" = some (.ref f__law_token)
  b__law_token : Binds K fd__law_token ["_law_store_here"] []
  f__law_spot : Addr
  fd__law_spot : FuncData
  F__law_spot : FnP K "_law_spot" s__law_spot f__law_spot fd__law_spot
  g__law_spot : mg "_law_spot" = some (.ref f__law_spot)
  b__law_spot : Binds K fd__law_spot ["_law_text"] []
  f__law_gap : Addr
  fd__law_gap : FuncData
  F__law_gap : FnP K "_law_gap" s__law_gap f__law_gap fd__law_gap
  g__law_gap : mg "_law_gap" = some (.ref f__law_gap)
  b__law_gap : Binds K fd__law_gap ["_law_store_here", "_law_tight"] []
  f__law_laid : Addr
  fd__law_laid : FuncData
  F__law_laid : FnP K "_law_laid" s__law_laid f__law_laid fd__law_laid
  g__law_laid : mg "_law_laid" = some (.ref f__law_laid)
  b__law_laid : Binds K fd__law_laid ["_law_store_here", "_law_words", "_law_plain"] []
  f__law_bad_token : Addr
  fd__law_bad_token : FuncData
  F__law_bad_token : FnP K "_law_bad_token" s__law_bad_token f__law_bad_token fd__law_bad_token
  g__law_bad_token : mg "_law_bad_token" = some (.ref f__law_bad_token)
  b__law_bad_token : Binds K fd__law_bad_token ["_law_store_here"] []
  f__law_spoilt_text : Addr
  fd__law_spoilt_text : FuncData
  F__law_spoilt_text : FnP K "_law_spoilt_text" s__law_spoilt_text f__law_spoilt_text fd__law_spoilt_text
  g__law_spoilt_text : mg "_law_spoilt_text" = some (.ref f__law_spoilt_text)
  b__law_spoilt_text : Binds K fd__law_spoilt_text ["_law_store_here", "_law_words"] []
  f__law_case : Addr
  fd__law_case : FuncData
  F__law_case : FnP K "_law_case" s__law_case f__law_case fd__law_case
  g__law_case : mg "_law_case" = some (.ref f__law_case)
  b__law_case : Binds K fd__law_case ["_law_store_here"] []
  f_run_end : Addr
  fd_run_end : FuncData
  F_run_end : FnP K "run_end" s_run_end f_run_end fd_run_end
  g_run_end : mg "run_end" = some (.ref f_run_end)
  b_run_end : Binds K fd_run_end ["row", "at", "signs"] []
  f_is_figure : Addr
  fd_is_figure : FuncData
  F_is_figure : FnP K "is_figure" s_is_figure f_is_figure fd_is_figure
  g_is_figure : mg "is_figure" = some (.ref f_is_figure)
  b_is_figure : Binds K fd_is_figure ["row", "at"] []
  f_read_figure : Addr
  fd_read_figure : FuncData
  F_read_figure : FnP K "read_figure" s_read_figure f_read_figure fd_read_figure
  g_read_figure : mg "read_figure" = some (.ref f_read_figure)
  b_read_figure : Binds K fd_read_figure ["row", "at", "line"] []
  f_read_string : Addr
  fd_read_string : FuncData
  F_read_string : FnP K "read_string" s_read_string f_read_string fd_read_string
  g_read_string : mg "read_string" = some (.ref f_read_string)
  b_read_string : Binds K fd_read_string ["row", "at", "line"] []
  f_read_quoted : Addr
  fd_read_quoted : FuncData
  F_read_quoted : FnP K "read_quoted" s_read_quoted f_read_quoted fd_read_quoted
  g_read_quoted : mg "read_quoted" = some (.ref f_read_quoted)
  b_read_quoted : Binds K fd_read_quoted ["row", "at", "line"] []
  f_read_token : Addr
  fd_read_token : FuncData
  F_read_token : FnP K "read_token" s_read_token f_read_token fd_read_token
  g_read_token : mg "read_token" = some (.ref f_read_token)
  b_read_token : Binds K fd_read_token ["row", "at", "line"] []
  f_line_tokens : Addr
  fd_line_tokens : FuncData
  F_line_tokens : FnP K "line_tokens" s_line_tokens f_line_tokens fd_line_tokens
  g_line_tokens : mg "line_tokens" = some (.ref f_line_tokens)
  b_line_tokens : Binds K fd_line_tokens ["row", "line"] []
  f_tokens : Addr
  fd_tokens : FuncData
  F_tokens : FnP K "tokens" s_tokens f_tokens fd_tokens
  g_tokens : mg "tokens" = some (.ref f_tokens)
  b_tokens : Binds K fd_tokens ["text"] []
  f_Cursor___init__ : Addr
  fd_Cursor___init__ : FuncData
  F_Cursor___init__ : FunD K "__init__" "Cursor.__init__" (defArgs s_Cursor___init__) (defBody s_Cursor___init__) (defScope s_Cursor___init__) [] [] f_Cursor___init__ fd_Cursor___init__
  b_Cursor___init__ : Binds K fd_Cursor___init__ ["self", "text"] []
  f_parse_schema : Addr
  fd_parse_schema : FuncData
  F_parse_schema : FnP K "parse_schema" s_parse_schema f_parse_schema fd_parse_schema
  g_parse_schema : mg "parse_schema" = some (.ref f_parse_schema)
  b_parse_schema : Binds K fd_parse_schema ["text"] []
  f__law_place : Addr
  fd__law_place : FuncData
  F__law_place : FnP K "_law_place" s__law_place f__law_place fd__law_place
  g__law_place : mg "_law_place" = some (.ref f__law_place)
  b__law_place : Binds K fd__law_place ["_law_text", "_law_whole"] []
  f_law : Addr
  fd_law : FuncData
  F_law : FnP K "law" s_law f_law fd_law
  g_law : mg "law" = some (.ref f_law)
  b_law : Binds K fd_law ["_law_script"] []
  g_Cursor : mg "Cursor" = some (.ref (He.ga K "Cursor"))
  mk_Cursor : Mk K (He.ga K "Cursor") f_Cursor___init__
  c_Cursor : Cls K (He.ga K "Cursor")
  na_Cursor_token_row : NoAttr K (He.ga K "Cursor") "token_row"
  na_Cursor_token_at : NoAttr K (He.ga K "Cursor") "token_at"
  z_len : mg "len" = none
  z_int : mg "int" = none
  z_range : mg "range" = none
  z_tuple : mg "tuple" = none
  z_enumerate : mg "enumerate" = none
  z_list : mg "list" = none
  z_abs : mg "abs" = none
  z_isinstance : mg "isinstance" = none
  z_bool : mg "bool" = none
  z_str : mg "str" = none
  z_max : mg "max" = none
  z_min : mg "min" = none
  g_DIGITS : ∃ t, mg "DIGITS" = some (.str "0123456789" t)
  g_FIGURE_MOST : ∃ t, mg "FIGURE_MOST" = some (.int (60) t)
  g_LETTERS : ∃ t, mg "LETTERS" = some (.str "abcdefghijklmnopqrstuvwxyzABCDEFGHIJKLMNOPQRSTUVWXYZ" t)
  g_HEX : ∃ t, mg "HEX" = some (.str "0123456789abcdef" t)
  v_MARKS : V
  g_MARKS : GDat K mg "MARKS" gd_MARKS v_MARKS
  x_Refused : ∀ (w : World) (base : Heap), XcF P w K mg base "Refused"
  x_Unfit : ∀ (w : World) (base : Heap), XcFN P w K mg base "Unfit" ["path"] W1
  x_Unread : ∀ (w : World) (base : Heap), XcFN P w K mg base "Unread" ["line", "column"] W2
  gx_TagoctetsError : mg "TagoctetsError" = some (.ref (He.ga K "TagoctetsError"))
  gx_Unresolved : mg "Unresolved" = some (.ref (He.ga K "Unresolved"))
  gx_Refused : mg "Refused" = some (.ref (He.ga K "Refused"))
  gx_Unfit : mg "Unfit" = some (.ref (He.ga K "Unfit"))
  gx_Unread : mg "Unread" = some (.ref (He.ga K "Unread"))
  xf_column : ∀ z ∈ (["Unread"] : List Str), XfC K (He.ga K z) ∧ PySem.W.findIn K (.ref (He.ga K z)) "column" = some none
  xf_line : ∀ z ∈ (["Unread"] : List Str), XfC K (He.ga K z) ∧ PySem.W.findIn K (.ref (He.ga K z)) "line" = some none
  t_0 : ∀ c b, t_0.lookup c = some b → PySem.W.exmOne K (.ref (He.ga K c)) (.ref (He.ga K "TagoctetsError")) = some b
  t_1 : ∀ c b, t_1.lookup c = some b → PySem.W.exmOne K (.ref (He.ga K c)) (.ref (He.ga K "Unread")) = some b
  t_2 : IsT K [.ref (He.ga K "Unresolved")] t_2
  t_3 : IsT K [.ref (He.ga K "Refused")] t_3
  t_4 : IsT K [.ref (He.ga K "Unfit")] t_4
section
variable {w : World} {K : PySem.W.Frag} {mg : Str → Option Value} {base : Heap}
theorem ok__law_mix (Z : Zs K mg) : FnOk P w K mg base (L2.CX P w) 1 Z.f__law_mix Z.fd__law_mix ["_law_first", "_law_second"] (spM K 2 false m__law_mix) := fn_ok Z.F__law_mix sc__law_mix rfl 4 rfl fun cdv A outer s H E hr => ⟨_,
    (dss_cons (ds_set 2 sc__law_mix.nd (de_op op_mod (sim_I fun _ _ _ _ => rfl) (de_callTy call_int1 sim_int rfl Z.z_int (by decide +kernel) (da_cons (de_op (op_addK K) sim_add (de_op (op_addK K) sim_add (de_op op_mulA sim_mul (de_var 0) de_int) (de_op op_mulA sim_mul (de_var 1) de_int)) de_int) da_nil)) de_int))
    (dss_cons (ds_set 3 sc__law_mix.nd (de_op op_mod (sim_I fun _ _ _ _ => rfl) (de_callTy call_int1 sim_int rfl Z.z_int (by decide +kernel) (da_cons (de_op (op_addK K) sim_add (de_op (op_addK K) sim_add (de_op (op_addK K) sim_add (de_op op_mulA sim_mul (de_var 2) (de_var 2)) (de_op op_mulA sim_mul (de_op op_fdivW (sim_I fun _ _ _ _ => rfl) (de_var 2) de_int) de_int)) (de_var 1)) de_int) da_nil)) de_int))
    (dss_one (ds_ret (de_op op_mod (sim_I fun _ _ _ _ => rfl) (de_callTy call_int1 sim_int rfl Z.z_int (by decide +kernel) (da_cons (de_op (op_addK K) sim_add (de_op op_mulA sim_mul (de_var 3) de_int) (de_op op_fdivW (sim_I fun _ _ _ _ => rfl) (de_var 2) de_int)) da_nil)) de_int)))))⟩
theorem ok__law_store (Z : Zs K mg) : FnOk P w K mg base (L2.CX P w) 2 Z.f__law_store Z.fd__law_store ["_law_script"] (spM K 1 false m__law_store) := fn_ok Z.F__law_store sc__law_store rfl 3 rfl fun cdv A outer s H E hr => ⟨_,
    (dss_cons (ds_set 1 sc__law_store.nd de_int)
    (dss_cons (ds_for (passes_of rfl) rfl (di_sq K (de_var 0)) (dg_name 2 sc__law_store.nd) (dss_one (ds_set 1 sc__law_store.nd (de_call K (ok__law_mix Z) (takes_of rfl rfl rfl rfl) (hr.mono (by decide)) rfl Z.g__law_mix Z.F__law_mix.kp Z.b__law_mix .nil (fun _ _ => rfl) (da_cons (de_var 1) (da_cons (de_op op_mod (sim_I fun _ _ _ _ => rfl) (de_callTy call_int1 sim_int rfl Z.z_int (by decide +kernel) (da_cons (de_var 2) da_nil)) de_int) da_nil))))))
    (dss_one (ds_ret (de_disp (DPs.cons de_str (de_callTy (call_listK K) sim_list rfl Z.z_list (by decide +kernel) (da_cons (de_var 0) da_nil)) (DPs.cons de_str de_int (DPs.cons de_str de_int (DPs.cons de_str de_int (DPs.cons de_str de_int (DPs.cons de_str de_int (DPs.cons de_str (de_var 1) DPs.nil))))))))))))⟩
theorem ok__law_equal (Z : Zs K mg) : ∀ n : Nat, FnOk P w K mg base (L2.CX P w) (1 + n) Z.f__law_equal Z.fd__law_equal ["_law_first", "_law_second"] (spM K 2 false (m__law_equal n))
  | 0 => FunD.ok Z.F__law_equal sc__law_equal (fun vs H Q E z => z.1) (fun cdv A outer s H vs Q E hr z => by obtain ⟨_, α, hp, ss, R, Xp, _, _, m, _⟩ := z; exact m.elim)
  | n + 1 => fn_ok (k := 1 + n) Z.F__law_equal sc__law_equal rfl 3 rfl fun cdv A outer s H E hr => ⟨_,
    (dss_cons (ds_if (dt_val (de_callB (call_isiK' K) sim_isi rfl Z.z_isinstance (by decide +kernel) (da_cons (de_var 0) (da_cons (de_tup (da_cons (de_ty rfl Z.z_list (by decide +kernel)) (da_cons (de_ty rfl Z.z_tuple (by decide +kernel)) da_nil))) da_nil)))) (dss_cons (ds_if (dt_w (dw_or (dt_cmp (op_neK K hr) sim_ne (de_callB (call_isiK' K) sim_isi rfl Z.z_isinstance (by decide +kernel) (da_cons (de_var 0) (da_cons (de_ty rfl Z.z_list (by decide +kernel)) da_nil))) (de_callB (call_isiK' K) sim_isi rfl Z.z_isinstance (by decide +kernel) (da_cons (de_var 1) (da_cons (de_ty rfl Z.z_list (by decide +kernel)) da_nil))) (nomark _)) (dw_or1 (dt_cmp (op_neK K hr) sim_ne (de_callB (call_isiK' K) sim_isi rfl Z.z_isinstance (by decide +kernel) (da_cons (de_var 0) (da_cons (de_ty rfl Z.z_tuple (by decide +kernel)) da_nil))) (de_callB (call_isiK' K) sim_isi rfl Z.z_isinstance (by decide +kernel) (da_cons (de_var 1) (da_cons (de_ty rfl Z.z_tuple (by decide +kernel)) da_nil))) (nomark _))))) (dss_one (ds_ret de_bl)) dss_nil)
    (dss_cons (ds_if (dt_cmp (op_neK K hr) sim_ne (de_callB (call_lenK K) sim_len rfl Z.z_len (by decide +kernel) (da_cons (de_var 0) da_nil)) (de_callB (call_lenK K) sim_len rfl Z.z_len (by decide +kernel) (da_cons (de_var 1) da_nil)) (nomark _)) (dss_one (ds_ret de_bl)) dss_nil)
    (dss_cons (ds_for (passes_of rfl) rfl (di_r1 rfl Z.z_range (da_cons (de_callB (call_lenK K) sim_len rfl Z.z_len (by decide +kernel) (da_cons (de_var 0) da_nil)) da_nil)) (dg_name 2 sc__law_equal.nd) (dss_one (ds_if (dt_not (dt_val (de_call K (ok__law_equal Z n) (takes_of rfl rfl rfl rfl) (hr.mono (by omega)) rfl Z.g__law_equal Z.F__law_equal.kp Z.b__law_equal .nil (fun _ _ => rfl) (da_cons (de_ix K (de_var 0) (de_var 2)) (da_cons (de_ix K (de_var 1) (de_var 2)) da_nil))))) (dss_one (ds_ret de_bl)) dss_nil)))
    (dss_one (ds_ret de_bl))))) dss_nil)
    (dss_cons (ds_if (dt_val (de_callB (call_isiK' K) sim_isi rfl Z.z_isinstance (by decide +kernel) (da_cons (de_var 1) (da_cons (de_tup (da_cons (de_ty rfl Z.z_list (by decide +kernel)) (da_cons (de_ty rfl Z.z_tuple (by decide +kernel)) da_nil))) da_nil)))) (dss_one (ds_ret de_bl)) dss_nil)
    (dss_cons (ds_if (dt_w (dw_or (dt_cmp op_isN sim_isN (de_var 0) de_non (nomark _)) (dw_or1 (dt_cmp op_isN sim_isN (de_var 1) de_non (nomark _))))) (dss_one (ds_ret (de_and (de_cmp op_isN sim_isN (de_var 0) de_non (nomark _)) (de_one (de_cmp op_isN sim_isN (de_var 1) de_non (nomark _)))))) dss_nil)
    (dss_cons (ds_if (dt_w (dw_or (dt_val (de_callB (call_isiK' K) sim_isi rfl Z.z_isinstance (by decide +kernel) (da_cons (de_var 0) (da_cons (de_ty rfl Z.z_bool (by decide +kernel)) da_nil)))) (dw_or1 (dt_val (de_callB (call_isiK' K) sim_isi rfl Z.z_isinstance (by decide +kernel) (da_cons (de_var 1) (da_cons (de_ty rfl Z.z_bool (by decide +kernel)) da_nil))))))) (dss_one (ds_ret (de_and (de_callB (call_isiK' K) sim_isi rfl Z.z_isinstance (by decide +kernel) (da_cons (de_var 0) (da_cons (de_ty rfl Z.z_bool (by decide +kernel)) da_nil))) (de_and (de_callB (call_isiK' K) sim_isi rfl Z.z_isinstance (by decide +kernel) (da_cons (de_var 1) (da_cons (de_ty rfl Z.z_bool (by decide +kernel)) da_nil))) (de_one (de_cmp (op_eqK K hr) sim_eq (de_var 0) (de_var 1) (nomark _))))))) dss_nil)
    (dss_cons (ds_if (dt_w (dw_or (dt_val (de_callB (call_isiK' K) sim_isi rfl Z.z_isinstance (by decide +kernel) (da_cons (de_var 0) (da_cons (de_ty rfl Z.z_str (by decide +kernel)) da_nil)))) (dw_or1 (dt_val (de_callB (call_isiK' K) sim_isi rfl Z.z_isinstance (by decide +kernel) (da_cons (de_var 1) (da_cons (de_ty rfl Z.z_str (by decide +kernel)) da_nil))))))) (dss_one (ds_ret (de_and (de_callB (call_isiK' K) sim_isi rfl Z.z_isinstance (by decide +kernel) (da_cons (de_var 0) (da_cons (de_ty rfl Z.z_str (by decide +kernel)) da_nil))) (de_and (de_callB (call_isiK' K) sim_isi rfl Z.z_isinstance (by decide +kernel) (da_cons (de_var 1) (da_cons (de_ty rfl Z.z_str (by decide +kernel)) da_nil))) (de_one (de_cmp (op_eqK K hr) sim_eq (de_var 0) (de_var 1) (nomark _))))))) dss_nil)
    (dss_one (ds_ret (de_and (de_callB (call_isiK' K) sim_isi rfl Z.z_isinstance (by decide +kernel) (da_cons (de_var 0) (da_cons (de_ty rfl Z.z_int (by decide +kernel)) da_nil))) (de_and (de_callB (call_isiK' K) sim_isi rfl Z.z_isinstance (by decide +kernel) (da_cons (de_var 1) (da_cons (de_ty rfl Z.z_int (by decide +kernel)) da_nil))) (de_one (de_cmp (op_eqK K hr) sim_eq (de_var 0) (de_var 1) (nomark _))))))))))))⟩
theorem ok__law_take (Z : Zs K mg) : FnOk P w K mg base (L2.CX P w) 2 Z.f__law_take Z.fd__law_take ["_law_store_here", "_law_many"] (spM K 2 false m__law_take) := fn_ok Z.F__law_take sc__law_take rfl 8 rfl fun cdv A outer s H E hr => ⟨_,
    (dss_cons (ds_if (dt_cmp op_lt (sim_I0 fun _ _ _ _ => rfl) (de_var 1) de_int (nomark _)) (dss_one (ds_ret de_int)) dss_nil)
    (dss_cons (ds_if (dt_w (dw_and (dt_cmp (op_eqK K hr) sim_eq (de_dget (u1 hr) (de_var 0) de_str) de_int (nomark _)) (dw_and (dt_cmp (op_eqK K hr) sim_eq (de_dget (u1 hr) (de_var 0) de_str) de_int (nomark _)) (dw_and1 (dt_cmp op_lt (sim_I0 fun _ _ _ _ => rfl) (de_dget (u1 hr) (de_var 0) de_str) (de_callB (call_lenK K) sim_len rfl Z.z_len (by decide +kernel) (da_cons (de_dget (u1 hr) (de_var 0) de_str) da_nil)) (nomark _)))))) (dss_cons (ds_set 2 sc__law_take.nd (de_ix K (de_dget (u1 hr) (de_var 0) de_str) (de_dget (u1 hr) (de_var 0) de_str)))
    (dss_cons (ds_dput (u1 hr) (de_var 0) de_str (de_op (op_addK K) sim_add (de_dget (u1 hr) (de_var 0) de_str) de_int))
    (dss_one (ds_if (dt_cmp op_ge (sim_I0 fun _ _ _ _ => rfl) (de_callB call_abs sim_abs rfl Z.z_abs (by decide +kernel) (da_cons (de_var 2) da_nil)) (de_op op_pow (sim_I fun _ _ _ _ => rfl) de_int de_int) (nomark _)) (dss_one (ds_dput (u1 hr) (de_var 0) de_str (de_callB call_abs sim_abs rfl Z.z_abs (by decide +kernel) (da_cons (de_var 2) da_nil)))) (dss_cons (ds_dput (u1 hr) (de_var 0) de_str (de_var 2))
    (dss_one (ds_dput (u1 hr) (de_var 0) de_str de_int))))))) dss_nil)
    (dss_cons (ds_if (dt_cmp op_gt (sim_I0 fun _ _ _ _ => rfl) (de_dget (u1 hr) (de_var 0) de_str) de_int (nomark _)) (dss_cons (ds_set 3 sc__law_take.nd (de_dget (u1 hr) (de_var 0) de_str))
    (dss_cons (ds_dput (u1 hr) (de_var 0) de_str (de_op op_fdivW (sim_I fun _ _ _ _ => rfl) (de_var 3) (de_var 1)))
    (dss_one (ds_ret (de_op op_mod (sim_I fun _ _ _ _ => rfl) (de_callTy call_int1 sim_int rfl Z.z_int (by decide +kernel) (da_cons (de_var 3) da_nil)) (de_var 1)))))) dss_nil)
    (dss_cons (ds_set 4 sc__law_take.nd (de_dget (u1 hr) (de_var 0) de_str))
    (dss_cons (ds_if (dt_cmp op_gt (sim_I0 fun _ _ _ _ => rfl) (de_dget (u1 hr) (de_var 0) de_str) de_int (nomark _)) (dss_cons (ds_dput (u1 hr) (de_var 0) de_str (de_op op_sub (sim_I0 fun _ _ _ _ => rfl) (de_dget (u1 hr) (de_var 0) de_str) de_int))
    (dss_one (ds_set 4 sc__law_take.nd (de_dget (u1 hr) (de_var 0) de_str)))) dss_nil)
    (dss_cons (ds_set 5 sc__law_take.nd de_int)
    (dss_cons (ds_set 6 sc__law_take.nd de_int)
    (dss_cons (ds_if (dt_cmp op_gt (sim_I0 fun _ _ _ _ => rfl) (de_var 1) (de_op op_pow (sim_I fun _ _ _ _ => rfl) de_int de_int) (nomark _)) (dss_one (ds_set 6 sc__law_take.nd de_int)) dss_nil)
    (dss_cons (ds_for (passes_of rfl) rfl (di_r1 rfl Z.z_range (da_cons (de_var 6) da_nil)) (dg_name 7 sc__law_take.nd) (dss_cons (ds_dput (u1 hr) (de_var 0) de_str (de_op (op_addK K) sim_add (de_dget (u1 hr) (de_var 0) de_str) de_int))
    (dss_one (ds_set 5 sc__law_take.nd (de_op (op_addK K) sim_add (de_op op_mulA sim_mul (de_var 5) de_int) (de_call K (ok__law_mix Z) (takes_of rfl rfl rfl rfl) (hr.mono (by decide)) rfl Z.g__law_mix Z.F__law_mix.kp Z.b__law_mix .nil (fun _ _ => rfl) (da_cons (de_var 4) (da_cons (de_dget (u1 hr) (de_var 0) de_str) da_nil))))))))
    (dss_one (ds_ret (de_op op_mod (sim_I fun _ _ _ _ => rfl) (de_callTy call_int1 sim_int rfl Z.z_int (by decide +kernel) (da_cons (de_var 5) da_nil)) (de_var 1)))))))))))))⟩
theorem ok__law_pick (Z : Zs K mg) : FnOk P w K mg base (L2.CX P w) 3 Z.f__law_pick Z.fd__law_pick ["_law_store_here", "_law_row"] (spM K 2 false m__law_pick) := fn_ok Z.F__law_pick sc__law_pick rfl 2 rfl fun cdv A outer s H E hr => ⟨_,
    (dss_one (ds_ret (de_ix K (de_var 1) (de_call K (ok__law_take Z) (takes_of rfl rfl rfl rfl) (hr.mono (by decide)) rfl Z.g__law_take Z.F__law_take.kp Z.b__law_take .nil (fun _ _ => rfl) (da_cons (de_var 0) (da_cons (de_callB (call_lenK K) sim_len rfl Z.z_len (by decide +kernel) (da_cons (de_var 1) da_nil)) da_nil))))))⟩
theorem ok__law_reserved (Z : Zs K mg) : FnOk P w K mg base (L2.CX P w) 1 Z.f__law_reserved Z.fd__law_reserved [] (spM K 0 false m__law_reserved) := fn_ok Z.F__law_reserved sc__law_reserved rfl 1 rfl fun cdv A outer s H E hr => ⟨_,
    (dss_cons (ds_set 0 sc__law_reserved.nd de_str)
    (dss_cons (ds_set 0 sc__law_reserved.nd (de_op (op_addK K) sim_add (de_var 0) de_str))
    (dss_one (ds_ret (de_split K (de_op (op_addK K) sim_add (de_var 0) de_str) de_str)))))⟩
theorem ok__law_name (Z : Zs K mg) : FnOk P w K mg base (L2.CX P w) 4 Z.f__law_name Z.fd__law_name ["_law_store_here"] (spM K 1 false m__law_name) := fn_ok Z.F__law_name sc__law_name rfl 5 rfl fun cdv A outer s H E hr => ⟨_,
    (dss_cons (ds_set 1 sc__law_name.nd de_str)
    (dss_cons (ds_if (dt_cmp (op_eqK K hr) sim_eq (de_call K (ok__law_take Z) (takes_of rfl rfl rfl rfl) (hr.mono (by decide)) rfl Z.g__law_take Z.F__law_take.kp Z.b__law_take .nil (fun _ _ => rfl) (da_cons (de_var 0) (da_cons de_int da_nil))) de_int (nomark _)) (dss_one (ds_ret (de_op (op_addK K) sim_add (de_call K (ok__law_pick Z) (takes_of rfl rfl rfl rfl) (hr.mono (by decide)) rfl Z.g__law_pick Z.F__law_pick.kp Z.b__law_pick .nil (fun _ _ => rfl) (da_cons (de_var 0) (da_cons (de_call0 K (ok__law_reserved Z) (takes_of rfl rfl rfl rfl) (hr.mono (by decide)) rfl Z.g__law_reserved Z.F__law_reserved.kp Z.b__law_reserved .nil (fun _ _ => rfl)) da_nil))) (de_call K (ok__law_pick Z) (takes_of rfl rfl rfl rfl) (hr.mono (by decide)) rfl Z.g__law_pick Z.F__law_pick.kp Z.b__law_pick .nil (fun _ _ => rfl) (da_cons (de_var 0) (da_cons (de_lst (da_cons de_str (da_cons de_str (da_cons de_str da_nil)))) da_nil)))))) dss_nil)
    (dss_cons (ds_set 2 sc__law_name.nd (de_ix K (de_var 1) (de_call K (ok__law_take Z) (takes_of rfl rfl rfl rfl) (hr.mono (by decide)) rfl Z.g__law_take Z.F__law_take.kp Z.b__law_take .nil (fun _ _ => rfl) (da_cons (de_var 0) (da_cons de_int da_nil)))))
    (dss_cons (ds_set 3 sc__law_name.nd (de_call K (ok__law_pick Z) (takes_of rfl rfl rfl rfl) (hr.mono (by decide)) rfl Z.g__law_pick Z.F__law_pick.kp Z.b__law_pick .nil (fun _ _ => rfl) (da_cons (de_var 0) (da_cons (de_lst (da_cons de_int (da_cons de_int (da_cons de_int (da_cons de_int (da_cons de_int (da_cons de_int (da_cons de_int (da_cons de_int (da_cons de_int da_nil)))))))))) da_nil))))
    (dss_cons (ds_if (dt_cmp op_gt (sim_I0 fun _ _ _ _ => rfl) (de_var 3) de_int (nomark _)) (dss_cons (ds_set 2 sc__law_name.nd (de_op (op_addK K) sim_add (de_var 2) (de_op op_mulA sim_mul (de_ix K (de_var 1) (de_call K (ok__law_take Z) (takes_of rfl rfl rfl rfl) (hr.mono (by decide)) rfl Z.g__law_take Z.F__law_take.kp Z.b__law_take .nil (fun _ _ => rfl) (da_cons (de_var 0) (da_cons de_int da_nil)))) (de_op op_sub (sim_I0 fun _ _ _ _ => rfl) (de_var 3) de_int))))
    (dss_cons (ds_set 4 sc__law_name.nd (de_op (op_addK K) sim_add de_int (de_call K (ok__law_take Z) (takes_of rfl rfl rfl rfl) (hr.mono (by decide)) rfl Z.g__law_take Z.F__law_take.kp Z.b__law_take .nil (fun _ _ => rfl) (da_cons (de_var 0) (da_cons (de_op op_sub (sim_I0 fun _ _ _ _ => rfl) (de_var 3) de_int) da_nil)))))
    (dss_one (ds_set 2 sc__law_name.nd (de_op (op_addK K) sim_add (de_op (op_addK K) sim_add (de_sl K (de_var 2) do_none (do_some (de_var 4))) (de_ix K (de_var 1) (de_call K (ok__law_take Z) (takes_of rfl rfl rfl rfl) (hr.mono (by decide)) rfl Z.g__law_take Z.F__law_take.kp Z.b__law_take .nil (fun _ _ => rfl) (da_cons (de_var 0) (da_cons de_int da_nil))))) (de_sl K (de_var 2) (do_some (de_op (op_addK K) sim_add (de_var 4) de_int)) do_none)))))) dss_nil)
    (dss_cons (ds_if (dt_cmp (op_inK K) sim_in (de_var 2) (de_call0 K (ok__law_reserved Z) (takes_of rfl rfl rfl rfl) (hr.mono (by decide)) rfl Z.g__law_reserved Z.F__law_reserved.kp Z.b__law_reserved .nil (fun _ _ => rfl)) (by rfl)) (dss_one (ds_set 2 sc__law_name.nd (de_op (op_addK K) sim_add (de_var 2) de_str))) dss_nil)
    (dss_one (ds_ret (de_var 2)))))))))⟩
theorem ok__law_span (Z : Zs K mg) : FnOk P w K mg base (L2.CX P w) 3 Z.f__law_span Z.fd__law_span ["_law_store_here", "_law_low", "_law_high"] (spM K 3 false m__law_span) := fn_ok Z.F__law_span sc__law_span rfl 4 rfl fun cdv A outer s H E hr => ⟨_,
    (dss_cons (ds_set 3 sc__law_span.nd (de_call K (ok__law_take Z) (takes_of rfl rfl rfl rfl) (hr.mono (by decide)) rfl Z.g__law_take Z.F__law_take.kp Z.b__law_take .nil (fun _ _ => rfl) (da_cons (de_var 0) (da_cons de_int da_nil))))
    (dss_cons (ds_if (dt_w (dw_or (dt_cmp (op_eqK K hr) sim_eq (de_var 3) de_int (nomark _)) (dw_or1 (dt_cmp op_le (sim_I0 fun _ _ _ _ => rfl) (de_var 2) (de_var 1) (nomark _))))) (dss_one (ds_ret (de_var 1))) dss_nil)
    (dss_cons (ds_if (dt_cmp (op_eqK K hr) sim_eq (de_var 3) de_int (nomark _)) (dss_one (ds_ret (de_var 2))) dss_nil)
    (dss_one (ds_ret (de_op (op_addK K) sim_add (de_var 1) (de_call K (ok__law_take Z) (takes_of rfl rfl rfl rfl) (hr.mono (by decide)) rfl Z.g__law_take Z.F__law_take.kp Z.b__law_take .nil (fun _ _ => rfl) (da_cons (de_var 0) (da_cons (de_op (op_addK K) sim_add (de_op op_sub (sim_I0 fun _ _ _ _ => rfl) (de_var 2) (de_var 1)) de_int) da_nil)))))))))⟩
theorem ok__law_count (Z : Zs K mg) : FnOk P w K mg base (L2.CX P w) 4 Z.f__law_count Z.fd__law_count ["_law_store_here", "_law_few", "_law_many"] (spM K 3 false m__law_count) := fn_ok Z.F__law_count sc__law_count rfl 3 rfl fun cdv A outer s H E hr => ⟨_,
    (dss_cons (ds_if (dt_cmp (op_eqK K hr) sim_eq (de_call K (ok__law_take Z) (takes_of rfl rfl rfl rfl) (hr.mono (by decide)) rfl Z.g__law_take Z.F__law_take.kp Z.b__law_take .nil (fun _ _ => rfl) (da_cons (de_var 0) (da_cons de_int da_nil))) de_int (nomark _)) (dss_one (ds_ret (de_call K (ok__law_span Z) (takes_of rfl rfl rfl rfl) (hr.mono (by decide)) rfl Z.g__law_span Z.F__law_span.kp Z.b__law_span .nil (fun _ _ => rfl) (da_cons (de_var 0) (da_cons de_int (da_cons (de_var 2) da_nil)))))) dss_nil)
    (dss_one (ds_ret (de_call K (ok__law_take Z) (takes_of rfl rfl rfl rfl) (hr.mono (by decide)) rfl Z.g__law_take Z.F__law_take.kp Z.b__law_take .nil (fun _ _ => rfl) (da_cons (de_var 0) (da_cons (de_op (op_addK K) sim_add (de_var 1) de_int) da_nil))))))⟩
theorem ok__law_octet (Z : Zs K mg) : FnOk P w K mg base (L2.CX P w) 4 Z.f__law_octet Z.fd__law_octet ["_law_store_here"] (spM K 1 false m__law_octet) := fn_ok Z.F__law_octet sc__law_octet rfl 1 rfl fun cdv A outer s H E hr => ⟨_,
    (dss_cons (ds_if (dt_cmp (op_eqK K hr) sim_eq (de_call K (ok__law_take Z) (takes_of rfl rfl rfl rfl) (hr.mono (by decide)) rfl Z.g__law_take Z.F__law_take.kp Z.b__law_take .nil (fun _ _ => rfl) (da_cons (de_var 0) (da_cons de_int da_nil))) de_int (nomark _)) (dss_one (ds_ret (de_call K (ok__law_pick Z) (takes_of rfl rfl rfl rfl) (hr.mono (by decide)) rfl Z.g__law_pick Z.F__law_pick.kp Z.b__law_pick .nil (fun _ _ => rfl) (da_cons (de_var 0) (da_cons (de_lst (da_cons de_int (da_cons de_int (da_cons de_int (da_cons de_int (da_cons de_int (da_cons de_int (da_cons de_int (da_cons de_int (da_cons de_int (da_cons de_int (da_cons de_int (da_cons de_int (da_cons de_int (da_cons de_int (da_cons de_int (da_cons de_int (da_cons de_int (da_cons de_int da_nil))))))))))))))))))) da_nil))))) dss_nil)
    (dss_one (ds_ret (de_call K (ok__law_take Z) (takes_of rfl rfl rfl rfl) (hr.mono (by decide)) rfl Z.g__law_take Z.F__law_take.kp Z.b__law_take .nil (fun _ _ => rfl) (da_cons (de_var 0) (da_cons de_int da_nil))))))⟩
theorem ok__law_octet_row (Z : Zs K mg) : FnOk P w K mg base (L2.CX P w) 5 Z.f__law_octet_row Z.fd__law_octet_row ["_law_store_here", "_law_few", "_law_many"] (spM K 3 false m__law_octet_row) := fn_ok Z.F__law_octet_row sc__law_octet_row rfl 6 rfl fun cdv A outer s H E hr => ⟨_,
    (dss_cons (ds_set 3 sc__law_octet_row.nd (de_call K (ok__law_count Z) (takes_of rfl rfl rfl rfl) (hr.mono (by decide)) rfl Z.g__law_count Z.F__law_count.kp Z.b__law_count .nil (fun _ _ => rfl) (da_cons (de_var 0) (da_cons (de_var 1) (da_cons (de_var 2) da_nil)))))
    (dss_cons (ds_if (dt_cmp op_gt (sim_I0 fun _ _ _ _ => rfl) (de_var 3) de_int (nomark _)) (dss_cons (ds_set 4 sc__law_octet_row.nd (de_mulM (de_lst (da_cons (de_call K (ok__law_octet Z) (takes_of rfl rfl rfl rfl) (hr.mono (by decide)) rfl Z.g__law_octet Z.F__law_octet.kp Z.b__law_octet .nil (fun _ _ => rfl) (da_cons (de_var 0) da_nil)) da_nil)) (de_var 3)))
    (dss_cons (ds_asg (de_call K (ok__law_octet Z) (takes_of rfl rfl rfl rfl) (hr.mono (by decide)) rfl Z.g__law_octet Z.F__law_octet.kp Z.b__law_octet .nil (fun _ _ => rfl) (da_cons (de_var 0) da_nil)) (dg_sb (W := W00) (de_var 4) (de_call K (ok__law_take Z) takes0 (hr.mono (by decide)) rfl Z.g__law_take Z.F__law_take.kp Z.b__law_take .nil (fun _ _ => rfl) (da_cons (de_var 0) (da_cons (de_var 3) da_nil)))))
    (dss_one (ds_ret (de_var 4))))) dss_nil)
    (dss_one (ds_ret (de_lc (vs := [5]) [("_law_k", 5)] rfl rfl sc__law_octet_row.nd (di_r1 rfl Z.z_range (da_cons (de_var 3) da_nil)) (blkOk_by (N := n__law_octet_row) (sc := defScope s__law_octet_row) (by decide +kernel)) (fun _ _ _ _ _ => (dg_name 5 sc__law_octet_row.nd)) (fun _ _ _ _ _ => pts_nil) sim_yes (fun _ _ _ _ _ => (de_call K (ok__law_octet Z) takes0 (hr.mono (by decide)) rfl Z.g__law_octet Z.F__law_octet.kp Z.b__law_octet .nil (fun _ _ => rfl) (da_cons (de_var 0) da_nil))) (by decide))))))⟩
theorem ok__law_big (Z : Zs K mg) : FnOk P w K mg base (L2.CX P w) 4 Z.f__law_big Z.fd__law_big ["_law_store_here", "_law_taken"] (spM K 2 false m__law_big) := fn_ok Z.F__law_big sc__law_big rfl 8 rfl fun cdv A outer s H E hr => ⟨_,
    (dss_cons (ds_set 2 sc__law_big.nd de_str)
    (dss_cons (ds_set 3 sc__law_big.nd (de_op (op_addK K) sim_add (de_var 2) de_str))
    (dss_cons (ds_set 4 sc__law_big.nd (de_ix K (de_var 2) (de_call K (ok__law_take Z) (takes_of rfl rfl rfl rfl) (hr.mono (by decide)) rfl Z.g__law_take Z.F__law_take.kp Z.b__law_take .nil (fun _ _ => rfl) (da_cons (de_var 0) (da_cons de_int da_nil)))))
    (dss_cons (ds_set 5 sc__law_big.nd (de_call K (ok__law_pick Z) (takes_of rfl rfl rfl rfl) (hr.mono (by decide)) rfl Z.g__law_pick Z.F__law_pick.kp Z.b__law_pick .nil (fun _ _ => rfl) (da_cons (de_var 0) (da_cons (de_lst (da_cons de_int (da_cons de_int (da_cons de_int (da_cons de_int (da_cons de_int (da_cons de_int da_nil))))))) da_nil))))
    (dss_cons (ds_if (dt_cmp op_gt (sim_I0 fun _ _ _ _ => rfl) (de_var 5) de_int (nomark _)) (dss_cons (ds_set 4 sc__law_big.nd (de_op (op_addK K) sim_add (de_var 4) (de_op op_mulA sim_mul (de_ix K (de_var 3) (de_call K (ok__law_take Z) (takes_of rfl rfl rfl rfl) (hr.mono (by decide)) rfl Z.g__law_take Z.F__law_take.kp Z.b__law_take .nil (fun _ _ => rfl) (da_cons (de_var 0) (da_cons de_int da_nil)))) (de_op op_sub (sim_I0 fun _ _ _ _ => rfl) (de_var 5) de_int))))
    (dss_cons (ds_set 6 sc__law_big.nd (de_op (op_addK K) sim_add de_int (de_call K (ok__law_take Z) (takes_of rfl rfl rfl rfl) (hr.mono (by decide)) rfl Z.g__law_take Z.F__law_take.kp Z.b__law_take .nil (fun _ _ => rfl) (da_cons (de_var 0) (da_cons (de_op op_sub (sim_I0 fun _ _ _ _ => rfl) (de_var 5) de_int) da_nil)))))
    (dss_one (ds_set 4 sc__law_big.nd (de_op (op_addK K) sim_add (de_op (op_addK K) sim_add (de_sl K (de_var 4) do_none (do_some (de_var 6))) (de_ix K (de_var 3) (de_call K (ok__law_take Z) (takes_of rfl rfl rfl rfl) (hr.mono (by decide)) rfl Z.g__law_take Z.F__law_take.kp Z.b__law_take .nil (fun _ _ => rfl) (da_cons (de_var 0) (da_cons de_int da_nil))))) (de_sl K (de_var 4) (do_some (de_op (op_addK K) sim_add (de_var 6) de_int)) do_none)))))) dss_nil)
    (dss_cons (ds_if (dt_cmp (op_notInK K) sim_in (de_var 4) (de_var 1) (by rfl)) (dss_one (ds_ret (de_var 4))) dss_nil)
    (dss_cons (ds_for (passes_of rfl) rfl (di_r1 rfl Z.z_range (da_cons (de_op (op_addK K) sim_add (de_callB (call_lenK K) sim_len rfl Z.z_len (by decide +kernel) (da_cons (de_var 1) da_nil)) de_int) da_nil)) (dg_name 7 sc__law_big.nd) (dss_one (ds_if (dt_cmp (op_notInK K) sim_in (de_op (op_addK K) sim_add (de_sl K (de_var 4) do_none (do_some de_int)) (de_callTy call_strI sim_strI rfl Z.z_str (by decide +kernel) (da_cons (de_var 7) da_nil))) (de_var 1) (by rfl)) (dss_one (ds_ret (de_op (op_addK K) sim_add (de_sl K (de_var 4) do_none (do_some de_int)) (de_callTy call_strI sim_strI rfl Z.z_str (by decide +kernel) (da_cons (de_var 7) da_nil))))) dss_nil)))
    (dss_one (ds_ret (de_var 4))))))))))⟩
theorem ok__law_chars (Z : Zs K mg) : FnOk P w K mg base (L2.CX P w) 1 Z.f__law_chars Z.fd__law_chars [] (spM K 0 false m__law_chars) := fn_ok Z.F__law_chars sc__law_chars rfl 1 rfl fun cdv A outer s H E hr => ⟨_,
    (dss_cons (ds_set 0 sc__law_chars.nd de_str)
    (dss_one (ds_ret (de_op (op_addK K) sim_add (de_var 0) de_str))))⟩
theorem ok__law_string (Z : Zs K mg) : FnOk P w K mg base (L2.CX P w) 5 Z.f__law_string Z.fd__law_string ["_law_store_here", "_law_few", "_law_many"] (spM K 3 false m__law_string) := fn_ok Z.F__law_string sc__law_string rfl 7 rfl fun cdv A outer s H E hr => ⟨_,
    (dss_cons (ds_set 3 sc__law_string.nd (de_call K (ok__law_count Z) (takes_of rfl rfl rfl rfl) (hr.mono (by decide)) rfl Z.g__law_count Z.F__law_count.kp Z.b__law_count .nil (fun _ _ => rfl) (da_cons (de_var 0) (da_cons (de_var 1) (da_cons (de_var 2) da_nil)))))
    (dss_cons (ds_set 4 sc__law_string.nd (de_lst (da_cons de_str (da_cons de_str (da_cons de_str (da_cons de_str (da_cons de_str (da_cons de_str (da_cons de_str (da_cons (de_ix K (de_call0 K (ok__law_chars Z) (takes_of rfl rfl rfl rfl) (hr.mono (by decide)) rfl Z.g__law_chars Z.F__law_chars.kp Z.b__law_chars .nil (fun _ _ => rfl)) (de_call K (ok__law_take Z) (takes_of rfl rfl rfl rfl) (hr.mono (by decide)) rfl Z.g__law_take Z.F__law_take.kp Z.b__law_take .nil (fun _ _ => rfl) (da_cons (de_var 0) (da_cons de_int da_nil)))) da_nil))))))))))
    (dss_cons (ds_set 5 sc__law_string.nd de_str)
    (dss_cons (ds_for (passes_of rfl) rfl (di_r1 rfl Z.z_range (da_cons (de_callB (call_min2 rfl) (sim_MM (g := (fun i j => if j < i then j else i))) rfl Z.z_min (by decide +kernel) (da_cons (de_var 3) (da_cons de_int da_nil))) da_nil)) (dg_name 6 sc__law_string.nd) (dss_one (ds_set 5 sc__law_string.nd (de_op (op_addK K) sim_add (de_var 5) (de_call K (ok__law_pick Z) (takes_of rfl rfl rfl rfl) (hr.mono (by decide)) rfl Z.g__law_pick Z.F__law_pick.kp Z.b__law_pick .nil (fun _ _ => rfl) (da_cons (de_var 0) (da_cons (de_var 4) da_nil)))))))
    (dss_cons (ds_if (dt_cmp op_gt (sim_I0 fun _ _ _ _ => rfl) (de_var 3) de_int (nomark _)) (dss_one (ds_set 5 sc__law_string.nd (de_op (op_addK K) sim_add (de_var 5) (de_op op_mulA sim_mul (de_ix K (de_var 4) de_int) (de_op op_sub (sim_I0 fun _ _ _ _ => rfl) (de_var 3) de_int))))) dss_nil)
    (dss_one (ds_ret (de_var 5))))))))⟩
theorem ok__law_hex (Z : Zs K mg) : FnOk P w K mg base (L2.CX P w) 1 Z.f__law_hex Z.fd__law_hex ["_law_row"] (spM K 1 false m__law_hex) := fn_ok Z.F__law_hex sc__law_hex rfl 3 rfl fun cdv A outer s H E hr => ⟨_,
    (dss_cons (ds_set 1 sc__law_hex.nd de_str)
    (dss_one (ds_ret (de_join K de_str (de_lc (vs := [2]) [("_law_octet_here", 2)] rfl rfl sc__law_hex.nd (di_sq K (de_var 0)) (blkOk_by (N := n__law_hex) (sc := defScope s__law_hex) (by decide +kernel)) (fun _ _ _ _ _ => (dg_name 2 sc__law_hex.nd)) (fun _ _ _ _ _ => pts_nil) sim_yes (fun _ _ _ _ _ => (de_op (op_addK K) sim_add (de_ix K (de_var 1) (de_op op_fdivW (sim_I fun _ _ _ _ => rfl) (de_var 2) de_int)) (de_ix K (de_var 1) (de_op op_mod (sim_I fun _ _ _ _ => rfl) (de_callTy call_int1 sim_int rfl Z.z_int (by decide +kernel) (da_cons (de_var 2) da_nil)) de_int)))) (by decide))))))⟩
theorem ok__law_power (Z : Zs K mg) : FnOk P w K mg base (L2.CX P w) 1 Z.f__law_power Z.fd__law_power ["_law_count_here"] (spM K 1 false m__law_power) := fn_ok Z.F__law_power sc__law_power rfl 3 rfl fun cdv A outer s H E hr => ⟨_,
    (dss_cons (ds_set 1 sc__law_power.nd de_int)
    (dss_cons (ds_for (passes_of rfl) rfl (di_r1 rfl Z.z_range (da_cons (de_var 0) da_nil)) (dg_name 2 sc__law_power.nd) (dss_one (ds_set 1 sc__law_power.nd (de_op op_mulA sim_mul (de_var 1) de_int))))
    (dss_one (ds_ret (de_var 1)))))⟩
theorem ok__law_clamp (Z : Zs K mg) : FnOk P w K mg base (L2.CX P w) 1 Z.f__law_clamp Z.fd__law_clamp ["_law_number", "_law_low", "_law_high"] (spM K 3 false m__law_clamp) := fn_ok Z.F__law_clamp sc__law_clamp rfl 3 rfl fun cdv A outer s H E hr => ⟨_,
    (dss_one (ds_ret (de_callB (call_max2 rfl) (sim_MM (g := (fun i j => if j > i then j else i))) rfl Z.z_max (by decide +kernel) (da_cons (de_var 1) (da_cons (de_callB (call_min2 rfl) (sim_MM (g := (fun i j => if j < i then j else i))) rfl Z.z_min (by decide +kernel) (da_cons (de_var 2) (da_cons (de_var 0) da_nil))) da_nil)))))⟩
theorem ok__law_lowest (Z : Zs K mg) : FnOk P w K mg base (L2.CX P w) 1 Z.f__law_lowest Z.fd__law_lowest [] (spM K 0 false m__law_lowest) := fn_ok Z.F__law_lowest sc__law_lowest rfl 0 rfl fun cdv A outer s H E hr => ⟨_,
    (dss_one (ds_ret (de_op op_mulA sim_mul (de_neg (de_op op_pow (sim_I fun _ _ _ _ => rfl) de_int de_int)) (de_op op_pow (sim_I fun _ _ _ _ => rfl) de_int de_int))))⟩
theorem ok__law_highest (Z : Zs K mg) : FnOk P w K mg base (L2.CX P w) 1 Z.f__law_highest Z.fd__law_highest [] (spM K 0 false m__law_highest) := fn_ok Z.F__law_highest sc__law_highest rfl 0 rfl fun cdv A outer s H E hr => ⟨_,
    (dss_one (ds_ret (de_op op_sub (sim_I0 fun _ _ _ _ => rfl) (de_op op_mulA sim_mul (de_op op_pow (sim_I fun _ _ _ _ => rfl) de_int de_int) (de_op op_pow (sim_I fun _ _ _ _ => rfl) de_int de_int)) de_int)))⟩
theorem ok__law_figure (Z : Zs K mg) : FnOk P w K mg base (L2.CX P w) 4 Z.f__law_figure Z.fd__law_figure ["_law_store_here"] (spM K 1 false m__law_figure) := fn_ok Z.F__law_figure sc__law_figure rfl 4 rfl fun cdv A outer s H E hr => ⟨_,
    (dss_cons (ds_set 1 sc__law_figure.nd (de_call K (ok__law_take Z) (takes_of rfl rfl rfl rfl) (hr.mono (by decide)) rfl Z.g__law_take Z.F__law_take.kp Z.b__law_take .nil (fun _ _ => rfl) (da_cons (de_var 0) (da_cons de_int da_nil))))
    (dss_cons (ds_if (dt_cmp (op_eqK K hr) sim_eq (de_var 1) de_int (nomark _)) (dss_one (ds_ret (de_call K (ok__law_pick Z) (takes_of rfl rfl rfl rfl) (hr.mono (by decide)) rfl Z.g__law_pick Z.F__law_pick.kp Z.b__law_pick .nil (fun _ _ => rfl) (da_cons (de_var 0) (da_cons (de_lst (da_cons de_int (da_cons de_int (da_cons (de_neg de_int) (da_cons de_int (da_cons de_int (da_cons (de_neg de_int) (da_cons (de_neg de_int) (da_cons de_int (da_cons de_int (da_cons de_int (da_cons de_int (da_cons (de_neg de_int) (da_cons (de_neg de_int) da_nil)))))))))))))) da_nil))))) dss_nil)
    (dss_cons (ds_if (dt_cmp (op_eqK K hr) sim_eq (de_var 1) de_int (nomark _)) (dss_cons (ds_set 2 sc__law_figure.nd (de_call K (ok__law_power Z) (takes_of rfl rfl rfl rfl) (hr.mono (by decide)) rfl Z.g__law_power Z.F__law_power.kp Z.b__law_power .nil (fun _ _ => rfl) (da_cons (de_op (op_addK K) sim_add (de_op op_mulA sim_mul de_int (de_call K (ok__law_take Z) (takes_of rfl rfl rfl rfl) (hr.mono (by decide)) rfl Z.g__law_take Z.F__law_take.kp Z.b__law_take .nil (fun _ _ => rfl) (da_cons (de_var 0) (da_cons de_int da_nil)))) de_int) da_nil)))
    (dss_cons (ds_set 3 sc__law_figure.nd (de_call K (ok__law_pick Z) (takes_of rfl rfl rfl rfl) (hr.mono (by decide)) rfl Z.g__law_pick Z.F__law_pick.kp Z.b__law_pick .nil (fun _ _ => rfl) (da_cons (de_var 0) (da_cons (de_lst (da_cons (de_op op_sub (sim_I0 fun _ _ _ _ => rfl) (de_var 2) de_int) (da_cons (de_var 2) (da_cons (de_neg (de_var 2)) (da_cons (de_op op_sub (sim_I0 fun _ _ _ _ => rfl) (de_neg (de_var 2)) de_int) (da_cons (de_op (op_addK K) sim_add (de_var 2) de_int) (da_cons (de_op op_sub (sim_I0 fun _ _ _ _ => rfl) de_int (de_var 2)) da_nil))))))) da_nil))))
    (dss_one (ds_ret (de_call K (ok__law_clamp Z) (takes_of rfl rfl rfl rfl) (hr.mono (by decide)) rfl Z.g__law_clamp Z.F__law_clamp.kp Z.b__law_clamp .nil (fun _ _ => rfl) (da_cons (de_var 3) (da_cons (de_call0 K (ok__law_lowest Z) (takes_of rfl rfl rfl rfl) (hr.mono (by decide)) rfl Z.g__law_lowest Z.F__law_lowest.kp Z.b__law_lowest .nil (fun _ _ => rfl)) (da_cons (de_call0 K (ok__law_highest Z) (takes_of rfl rfl rfl rfl) (hr.mono (by decide)) rfl Z.g__law_highest Z.F__law_highest.kp Z.b__law_highest .nil (fun _ _ => rfl)) da_nil)))))))) dss_nil)
    (dss_cons (ds_if (dt_cmp (op_eqK K hr) sim_eq (de_var 1) de_int (nomark _)) (dss_one (ds_ret (de_op (op_addK K) sim_add (de_call0 K (ok__law_lowest Z) (takes_of rfl rfl rfl rfl) (hr.mono (by decide)) rfl Z.g__law_lowest Z.F__law_lowest.kp Z.b__law_lowest .nil (fun _ _ => rfl)) (de_call K (ok__law_take Z) (takes_of rfl rfl rfl rfl) (hr.mono (by decide)) rfl Z.g__law_take Z.F__law_take.kp Z.b__law_take .nil (fun _ _ => rfl) (da_cons (de_var 0) (da_cons (de_op op_mulA sim_mul (de_op op_pow (sim_I fun _ _ _ _ => rfl) de_int de_int) (de_op op_pow (sim_I fun _ _ _ _ => rfl) de_int de_int)) da_nil)))))) dss_nil)
    (dss_one (ds_ret (de_op op_sub (sim_I0 fun _ _ _ _ => rfl) (de_call K (ok__law_take Z) (takes_of rfl rfl rfl rfl) (hr.mono (by decide)) rfl Z.g__law_take Z.F__law_take.kp Z.b__law_take .nil (fun _ _ => rfl) (da_cons (de_var 0) (da_cons de_int da_nil))) de_int)))))))⟩
theorem ok__law_long_figure (Z : Zs K mg) : FnOk P w K mg base (L2.CX P w) 5 Z.f__law_long_figure Z.fd__law_long_figure ["_law_store_here"] (spM K 1 false m__law_long_figure) := fn_ok Z.F__law_long_figure sc__law_long_figure rfl 2 rfl fun cdv A outer s H E hr => ⟨_,
    (dss_cons (ds_set 1 sc__law_long_figure.nd (de_call K (ok__law_take Z) (takes_of rfl rfl rfl rfl) (hr.mono (by decide)) rfl Z.g__law_take Z.F__law_take.kp Z.b__law_take .nil (fun _ _ => rfl) (da_cons (de_var 0) (da_cons de_int da_nil))))
    (dss_cons (ds_if (dt_cmp (op_eqK K hr) sim_eq (de_var 1) de_int (nomark _)) (dss_one (ds_ret (de_call K (ok__law_pick Z) (takes_of rfl rfl rfl rfl) (hr.mono (by decide)) rfl Z.g__law_pick Z.F__law_pick.kp Z.b__law_pick .nil (fun _ _ => rfl) (da_cons (de_var 0) (da_cons (de_lst (da_cons de_int (da_cons (de_op op_sub (sim_I0 fun _ _ _ _ => rfl) (de_op op_pow (sim_I fun _ _ _ _ => rfl) de_int de_int) de_int) (da_cons (de_op op_sub (sim_I0 fun _ _ _ _ => rfl) de_int (de_op op_pow (sim_I fun _ _ _ _ => rfl) de_int de_int)) (da_cons (de_op op_pow (sim_I fun _ _ _ _ => rfl) de_int de_int) (da_cons (de_neg de_int) (da_cons de_int da_nil))))))) da_nil))))) dss_nil)
    (dss_cons (ds_if (dt_cmp (op_eqK K hr) sim_eq (de_var 1) de_int (nomark _)) (dss_one (ds_ret (de_call K (ok__law_take Z) (takes_of rfl rfl rfl rfl) (hr.mono (by decide)) rfl Z.g__law_take Z.F__law_take.kp Z.b__law_take .nil (fun _ _ => rfl) (da_cons (de_var 0) (da_cons (de_op op_pow (sim_I fun _ _ _ _ => rfl) de_int de_int) da_nil))))) dss_nil)
    (dss_cons (ds_if (dt_cmp (op_eqK K hr) sim_eq (de_var 1) de_int (nomark _)) (dss_one (ds_ret (de_call K (ok__law_figure Z) (takes_of rfl rfl rfl rfl) (hr.mono (by decide)) rfl Z.g__law_figure Z.F__law_figure.kp Z.b__law_figure .nil (fun _ _ => rfl) (da_cons (de_var 0) da_nil)))) dss_nil)
    (dss_one (ds_ret (de_op op_sub (sim_I0 fun _ _ _ _ => rfl) (de_call K (ok__law_take Z) (takes_of rfl rfl rfl rfl) (hr.mono (by decide)) rfl Z.g__law_take Z.F__law_take.kp Z.b__law_take .nil (fun _ _ => rfl) (da_cons (de_var 0) (da_cons de_int da_nil))) de_int)))))))⟩
theorem ok__law_token (Z : Zs K mg) : FnOk P w K mg base (L2.CX P w) 6 Z.f__law_token Z.fd__law_token ["_law_store_here"] (spM K 1 false m__law_token) := fn_ok Z.F__law_token sc__law_token rfl 7 rfl fun cdv A outer s H E hr => ⟨_,
    (dss_cons (ds_set 1 sc__law_token.nd (de_call K (ok__law_take Z) (takes_of rfl rfl rfl rfl) (hr.mono (by decide)) rfl Z.g__law_take Z.F__law_take.kp Z.b__law_take .nil (fun _ _ => rfl) (da_cons (de_var 0) (da_cons de_int da_nil))))
    (dss_cons (ds_if (dt_cmp (op_eqK K hr) sim_eq (de_var 1) de_int (nomark _)) (dss_cons (ds_set 2 sc__law_token.nd (de_call K (ok__law_pick Z) (takes_of rfl rfl rfl rfl) (hr.mono (by decide)) rfl Z.g__law_pick Z.F__law_pick.kp Z.b__law_pick .nil (fun _ _ => rfl) (da_cons (de_var 0) (da_cons (de_lst (da_cons de_str (da_cons de_str (da_cons de_str (da_cons de_str (da_cons (de_op op_mulA sim_mul de_str de_int) (da_cons (de_call K (ok__law_pick Z) (takes_of rfl rfl rfl rfl) (hr.mono (by decide)) rfl Z.g__law_pick Z.F__law_pick.kp Z.b__law_pick .nil (fun _ _ => rfl) (da_cons (de_var 0) (da_cons (de_call0 K (ok__law_reserved Z) (takes_of rfl rfl rfl rfl) (hr.mono (by decide)) rfl Z.g__law_reserved Z.F__law_reserved.kp Z.b__law_reserved .nil (fun _ _ => rfl)) da_nil))) (da_cons (de_call K (ok__law_name Z) (takes_of rfl rfl rfl rfl) (hr.mono (by decide)) rfl Z.g__law_name Z.F__law_name.kp Z.b__law_name .nil (fun _ _ => rfl) (da_cons (de_var 0) da_nil)) da_nil)))))))) da_nil))))
    (dss_one (ds_ret (de_tup (da_cons de_str (da_cons (de_var 2) (da_cons (de_var 2) da_nil))))))) dss_nil)
    (dss_cons (ds_if (dt_cmp (op_eqK K hr) sim_eq (de_var 1) de_int (nomark _)) (dss_cons (ds_set 2 sc__law_token.nd (de_call K (ok__law_big Z) (takes_of rfl rfl rfl rfl) (hr.mono (by decide)) rfl Z.g__law_big Z.F__law_big.kp Z.b__law_big .nil (fun _ _ => rfl) (da_cons (de_var 0) (da_cons (de_lst da_nil) da_nil))))
    (dss_one (ds_ret (de_tup (da_cons de_str (da_cons (de_var 2) (da_cons (de_var 2) da_nil))))))) dss_nil)
    (dss_cons (ds_if (dt_cmp (op_eqK K hr) sim_eq (de_var 1) de_int (nomark _)) (dss_cons (ds_set 3 sc__law_token.nd (de_call K (ok__law_long_figure Z) (takes_of rfl rfl rfl rfl) (hr.mono (by decide)) rfl Z.g__law_long_figure Z.F__law_long_figure.kp Z.b__law_long_figure .nil (fun _ _ => rfl) (da_cons (de_var 0) da_nil)))
    (dss_one (ds_ret (de_tup (da_cons de_str (da_cons (de_var 3) (da_cons (de_callTy call_strI sim_strI rfl Z.z_str (by decide +kernel) (da_cons (de_var 3) da_nil)) da_nil))))))) dss_nil)
    (dss_cons (ds_if (dt_cmp (op_eqK K hr) sim_eq (de_var 1) de_int (nomark _)) (dss_cons (ds_set 4 sc__law_token.nd (de_call K (ok__law_string Z) (takes_of rfl rfl rfl rfl) (hr.mono (by decide)) rfl Z.g__law_string Z.F__law_string.kp Z.b__law_string .nil (fun _ _ => rfl) (da_cons (de_var 0) (da_cons de_int (da_cons de_int da_nil)))))
    (dss_one (ds_ret (de_tup (da_cons de_str (da_cons (de_var 4) (da_cons (de_op (op_addK K) sim_add (de_addRepl K (op_addK K) sim_add (de_var 4)) de_str) da_nil))))))) dss_nil)
    (dss_cons (ds_if (dt_cmp (op_eqK K hr) sim_eq (de_var 1) de_int (nomark _)) (dss_cons (ds_set 4 sc__law_token.nd (de_op op_mulA sim_mul (de_sl K de_str (do_some (de_call K (ok__law_take Z) (takes_of rfl rfl rfl rfl) (hr.mono (by decide)) rfl Z.g__law_take Z.F__law_take.kp Z.b__law_take .nil (fun _ _ => rfl) (da_cons (de_var 0) (da_cons de_int da_nil)))) do_none) (de_call K (ok__law_take Z) (takes_of rfl rfl rfl rfl) (hr.mono (by decide)) rfl Z.g__law_take Z.F__law_take.kp Z.b__law_take .nil (fun _ _ => rfl) (da_cons (de_var 0) (da_cons de_int da_nil)))))
    (dss_one (ds_ret (de_tup (da_cons de_str (da_cons (de_var 4) (da_cons (de_op (op_addK K) sim_add (de_op (op_addK K) sim_add de_str (de_var 4)) de_str) da_nil))))))) dss_nil)
    (dss_cons (ds_if (dt_cmp (op_eqK K hr) sim_eq (de_var 1) de_int (nomark _)) (dss_cons (ds_set 5 sc__law_token.nd (de_call K (ok__law_octet_row Z) (takes_of rfl rfl rfl rfl) (hr.mono (by decide)) rfl Z.g__law_octet_row Z.F__law_octet_row.kp Z.b__law_octet_row .nil (fun _ _ => rfl) (da_cons (de_var 0) (da_cons de_int (da_cons de_int da_nil)))))
    (dss_one (ds_ret (de_tup (da_cons de_str (da_cons (de_callTy (call_tupleK K) sim_tuple rfl Z.z_tuple (by decide +kernel) (da_cons (de_var 5) da_nil)) (da_cons (de_op (op_addK K) sim_add (de_op (op_addK K) sim_add de_str (de_call K (ok__law_hex Z) (takes_of rfl rfl rfl rfl) (hr.mono (by decide)) rfl Z.g__law_hex Z.F__law_hex.kp Z.b__law_hex .nil (fun _ _ => rfl) (da_cons (de_var 5) da_nil))) de_str) da_nil))))))) dss_nil)
    (dss_cons (ds_set 6 sc__law_token.nd (de_lst (da_cons de_str (da_cons de_str (da_cons de_str (da_cons de_str (da_cons de_str (da_cons de_str (da_cons de_str (da_cons de_str (da_cons de_str (da_cons de_str (da_cons de_str (da_cons de_str (da_cons de_str (da_cons de_str (da_cons de_str (da_cons de_str da_nil))))))))))))))))))
    (dss_cons (ds_set 2 sc__law_token.nd (de_call K (ok__law_pick Z) (takes_of rfl rfl rfl rfl) (hr.mono (by decide)) rfl Z.g__law_pick Z.F__law_pick.kp Z.b__law_pick .nil (fun _ _ => rfl) (da_cons (de_var 0) (da_cons (de_var 6) da_nil))))
    (dss_one (ds_ret (de_tup (da_cons de_str (da_cons (de_var 2) (da_cons (de_var 2) da_nil)))))))))))))))⟩
theorem ok__law_spot (Z : Zs K mg) : FnOk P w K mg base (L2.CX P w) 1 Z.f__law_spot Z.fd__law_spot ["_law_text"] (spM K 1 false m__law_spot) := fn_ok Z.F__law_spot sc__law_spot rfl 1 rfl fun cdv A outer s H E hr => ⟨_,
    (dss_one (ds_ret (de_tup (da_cons (de_op (op_addK K) sim_add de_int (de_count K (de_var 0) de_str)) (da_cons (de_op op_sub (sim_I0 fun _ _ _ _ => rfl) (de_callB (call_lenK K) sim_len rfl Z.z_len (by decide +kernel) (da_cons (de_var 0) da_nil)) (de_rfind K (de_var 0) de_str)) da_nil)))))⟩
theorem ok__law_gap (Z : Zs K mg) : FnOk P w K mg base (L2.CX P w) 4 Z.f__law_gap Z.fd__law_gap ["_law_store_here", "_law_tight"] (spM K 2 false m__law_gap) := fn_ok Z.F__law_gap sc__law_gap rfl 3 rfl fun cdv A outer s H E hr => ⟨_,
    (dss_cons (ds_set 2 sc__law_gap.nd (de_call K (ok__law_take Z) (takes_of rfl rfl rfl rfl) (hr.mono (by decide)) rfl Z.g__law_take Z.F__law_take.kp Z.b__law_take .nil (fun _ _ => rfl) (da_cons (de_var 0) (da_cons de_int da_nil))))
    (dss_cons (ds_if (dt_w (dw_and (dt_cmp (op_eqK K hr) sim_eq (de_var 2) de_int (nomark _)) (dw_and1 (dt_val (de_var 1))))) (dss_one (ds_ret de_str)) dss_nil)
    (dss_cons (ds_if (dt_cmp op_lt (sim_I0 fun _ _ _ _ => rfl) (de_var 2) de_int (nomark _)) (dss_one (ds_ret de_str)) dss_nil)
    (dss_one (ds_ret (de_call K (ok__law_pick Z) (takes_of rfl rfl rfl rfl) (hr.mono (by decide)) rfl Z.g__law_pick Z.F__law_pick.kp Z.b__law_pick .nil (fun _ _ => rfl) (da_cons (de_var 0) (da_cons (de_lst (da_cons de_str (da_cons de_str (da_cons de_str (da_cons de_str (da_cons de_str (da_cons de_str (da_cons de_str (da_cons de_str da_nil))))))))) da_nil))))))))⟩
theorem ok__law_laid (Z : Zs K mg) : FnOk P w K mg base (L2.CX P w) 5 Z.f__law_laid Z.fd__law_laid ["_law_store_here", "_law_words", "_law_plain"] (spM K 3 false m__law_laid) := fn_ok Z.F__law_laid sc__law_laid rfl 7 rfl fun cdv A outer s H E hr => ⟨_,
    (dss_cons (ds_set 3 sc__law_laid.nd de_str)
    (dss_cons (ds_set 4 sc__law_laid.nd de_str)
    (dss_cons (ds_set 5 sc__law_laid.nd (de_lstM da_nil))
    (dss_cons (ds_if (dt_not (dt_val (de_var 2))) (dss_one (ds_set 4 sc__law_laid.nd (de_call K (ok__law_pick Z) (takes_of rfl rfl rfl rfl) (hr.mono (by decide)) rfl Z.g__law_pick Z.F__law_pick.kp Z.b__law_pick .nil (fun _ _ => rfl) (da_cons (de_var 0) (da_cons (de_lst (da_cons de_str (da_cons de_str (da_cons de_str (da_cons de_str (da_cons de_str (da_cons de_str da_nil))))))) da_nil))))) dss_nil)
    (dss_cons (ds_for (passes_of rfl) rfl (di_r1 rfl Z.z_range (da_cons (de_callB (call_lenK K) sim_len rfl Z.z_len (by decide +kernel) (da_cons (de_var 1) da_nil)) da_nil)) (dg_name 6 sc__law_laid.nd) (dss_cons (ds_if (dt_w (dw_and (dt_cmp op_gt (sim_I0 fun _ _ _ _ => rfl) (de_var 6) de_int (nomark _)) (dw_and1 (dt_val (de_var 2))))) (dss_one (ds_set 4 sc__law_laid.nd (de_op (op_addK K) sim_add (de_var 4) de_str))) (dss_one (ds_if (dt_cmp op_gt (sim_I0 fun _ _ _ _ => rfl) (de_var 6) de_int (nomark _)) (dss_one (ds_set 4 sc__law_laid.nd (de_op (op_addK K) sim_add (de_var 4) (de_call K (ok__law_gap Z) (takes_of rfl rfl rfl rfl) (hr.mono (by decide)) rfl Z.g__law_gap Z.F__law_gap.kp Z.b__law_gap .nil (fun _ _ => rfl) (da_cons (de_var 0) (da_cons (de_or (de_cmp (op_inK K) sim_in (de_ix K (de_var 1) (de_op op_sub (sim_I0 fun _ _ _ _ => rfl) (de_var 6) de_int)) (de_var 3) (by rfl)) (de_one (de_cmp (op_inK K) sim_in (de_ix K (de_var 1) (de_var 6)) (de_var 3) (by rfl)))) da_nil)))))) dss_nil)))
    (dss_cons (ds_expr (de_bm K PySem.F.plainAttrs_list PySem.F.slot_list_append PySem.F.type_list_append mt_append sim_append (de_var 5) (da_cons (de_call K (ok__law_spot Z) (takes_of rfl rfl rfl rfl) (hr.mono (by decide)) rfl Z.g__law_spot Z.F__law_spot.kp Z.b__law_spot .nil (fun _ _ => rfl) (da_cons (de_var 4) da_nil)) da_nil)))
    (dss_one (ds_set 4 sc__law_laid.nd (de_op (op_addK K) sim_add (de_var 4) (de_ix K (de_var 1) (de_var 6))))))))
    (dss_cons (ds_if (dt_not (dt_val (de_var 2))) (dss_one (ds_set 4 sc__law_laid.nd (de_op (op_addK K) sim_add (de_var 4) (de_call K (ok__law_pick Z) (takes_of rfl rfl rfl rfl) (hr.mono (by decide)) rfl Z.g__law_pick Z.F__law_pick.kp Z.b__law_pick .nil (fun _ _ => rfl) (da_cons (de_var 0) (da_cons (de_lst (da_cons de_str (da_cons de_str (da_cons de_str (da_cons de_str (da_cons de_str (da_cons de_str (da_cons de_str (da_cons de_str da_nil))))))))) da_nil)))))) dss_nil)
    (dss_one (ds_ret (de_tup (da_cons (de_var 4) (da_cons (de_op (op_addK K) sim_add (de_var 5) (de_lst (da_cons (de_call K (ok__law_spot Z) (takes_of rfl rfl rfl rfl) (hr.mono (by decide)) rfl Z.g__law_spot Z.F__law_spot.kp Z.b__law_spot .nil (fun _ _ => rfl) (da_cons (de_var 4) da_nil)) da_nil))) da_nil)))))))))))⟩
theorem ok__law_bad_token (Z : Zs K mg) : FnOk P w K mg base (L2.CX P w) 4 Z.f__law_bad_token Z.fd__law_bad_token ["_law_store_here"] (spM K 1 false m__law_bad_token) := fn_ok Z.F__law_bad_token sc__law_bad_token rfl 2 rfl fun cdv A outer s H E hr => ⟨_,
    (dss_cons (ds_set 1 sc__law_bad_token.nd (de_op op_mulA sim_mul de_str de_int))
    (dss_one (ds_ret (de_call K (ok__law_pick Z) (takes_of rfl rfl rfl rfl) (hr.mono (by decide)) rfl Z.g__law_pick Z.F__law_pick.kp Z.b__law_pick .nil (fun _ _ => rfl) (da_cons (de_var 0) (da_cons (de_lst (da_cons (de_tup (da_cons de_str (da_cons de_int da_nil))) (da_cons (de_tup (da_cons de_str (da_cons de_int da_nil))) (da_cons (de_tup (da_cons de_str (da_cons de_int da_nil))) (da_cons (de_tup (da_cons de_str (da_cons de_int da_nil))) (da_cons (de_tup (da_cons de_str (da_cons de_int da_nil))) (da_cons (de_tup (da_cons de_str (da_cons de_int da_nil))) (da_cons (de_tup (da_cons de_str (da_cons de_int da_nil))) (da_cons (de_tup (da_cons de_str (da_cons de_int da_nil))) (da_cons (de_tup (da_cons de_str (da_cons de_int da_nil))) (da_cons (de_tup (da_cons de_str (da_cons de_int da_nil))) (da_cons (de_tup (da_cons de_str (da_cons de_int da_nil))) (da_cons (de_tup (da_cons de_str (da_cons de_int da_nil))) (da_cons (de_tup (da_cons de_str (da_cons de_int da_nil))) (da_cons (de_tup (da_cons (de_var 1) (da_cons de_int da_nil))) (da_cons (de_tup (da_cons (de_op (op_addK K) sim_add de_str (de_var 1)) (da_cons de_int da_nil))) (da_cons (de_tup (da_cons de_str (da_cons de_int da_nil))) (da_cons (de_tup (da_cons de_str (da_cons de_int da_nil))) (da_cons (de_tup (da_cons de_str (da_cons de_int da_nil))) (da_cons (de_tup (da_cons de_str (da_cons de_int da_nil))) (da_cons (de_tup (da_cons de_str (da_cons de_int da_nil))) (da_cons (de_tup (da_cons de_str (da_cons de_int da_nil))) (da_cons (de_tup (da_cons de_str (da_cons de_int da_nil))) (da_cons (de_tup (da_cons de_str (da_cons de_int da_nil))) (da_cons (de_tup (da_cons de_str (da_cons de_int da_nil))) (da_cons (de_tup (da_cons de_str (da_cons de_int da_nil))) (da_cons (de_tup (da_cons de_str (da_cons de_int da_nil))) (da_cons (de_tup (da_cons de_str (da_cons de_int da_nil))) (da_cons (de_tup (da_cons de_str (da_cons de_int da_nil))) (da_cons (de_tup (da_cons de_str (da_cons de_int da_nil))) (da_cons (de_tup (da_cons de_str (da_cons de_int da_nil))) (da_cons (de_tup (da_cons de_str (da_cons de_int da_nil))) (da_cons (de_tup (da_cons de_str (da_cons de_int da_nil))) (da_cons (de_tup (da_cons de_str (da_cons de_int da_nil))) (da_cons (de_tup (da_cons de_str (da_cons de_int da_nil))) (da_cons (de_tup (da_cons de_str (da_cons de_int da_nil))) (da_cons (de_tup (da_cons de_str (da_cons de_int da_nil))) (da_cons (de_tup (da_cons de_str (da_cons de_int da_nil))) da_nil)))))))))))))))))))))))))))))))))))))) da_nil))))))⟩
theorem ok__law_spoilt_text (Z : Zs K mg) : FnOk P w K mg base (L2.CX P w) 6 Z.f__law_spoilt_text Z.fd__law_spoilt_text ["_law_store_here", "_law_words"] (spM K 2 false m__law_spoilt_text) := fn_ok Z.F__law_spoilt_text sc__law_spoilt_text rfl 11 rfl fun cdv A outer s H E hr => ⟨_,
    (dss_cons (ds_set 2 sc__law_spoilt_text.nd (de_call K (ok__law_take Z) (takes_of rfl rfl rfl rfl) (hr.mono (by decide)) rfl Z.g__law_take Z.F__law_take.kp Z.b__law_take .nil (fun _ _ => rfl) (da_cons (de_var 0) (da_cons (de_op (op_addK K) sim_add (de_callB (call_lenK K) sim_len rfl Z.z_len (by decide +kernel) (da_cons (de_var 1) da_nil)) de_int) da_nil))))
    (dss_cons (ds_asg (de_call K (ok__law_laid Z) (takes_of rfl rfl rfl rfl) (hr.mono (by decide)) rfl Z.g__law_laid Z.F__law_laid.kp Z.b__law_laid .nil (fun _ _ => rfl) (da_cons (de_var 0) (da_cons (de_sl K (de_var 1) do_none (do_some (de_var 2))) (da_cons de_bl da_nil)))) (dg_tup K rfl (dgs_cons (dg_name 3 sc__law_spoilt_text.nd) (dgs_cons (dg_name 4 sc__law_spoilt_text.nd) dgs_nil))))
    (dss_cons (ds_asg (de_call K (ok__law_laid Z) (takes_of rfl rfl rfl rfl) (hr.mono (by decide)) rfl Z.g__law_laid Z.F__law_laid.kp Z.b__law_laid .nil (fun _ _ => rfl) (da_cons (de_var 0) (da_cons (de_sl K (de_var 1) (do_some (de_var 2)) do_none) (da_cons de_bl da_nil)))) (dg_tup K rfl (dgs_cons (dg_name 5 sc__law_spoilt_text.nd) (dgs_cons (dg_name 6 sc__law_spoilt_text.nd) dgs_nil))))
    (dss_cons (ds_asg (de_call K (ok__law_bad_token Z) (takes_of rfl rfl rfl rfl) (hr.mono (by decide)) rfl Z.g__law_bad_token Z.F__law_bad_token.kp Z.b__law_bad_token .nil (fun _ _ => rfl) (da_cons (de_var 0) da_nil)) (dg_tup K rfl (dgs_cons (dg_name 7 sc__law_spoilt_text.nd) (dgs_cons (dg_name 8 sc__law_spoilt_text.nd) dgs_nil))))
    (dss_cons (ds_asg (de_call K (ok__law_spot Z) (takes_of rfl rfl rfl rfl) (hr.mono (by decide)) rfl Z.g__law_spot Z.F__law_spot.kp Z.b__law_spot .nil (fun _ _ => rfl) (da_cons (de_op (op_addK K) sim_add (de_var 3) de_str) da_nil)) (dg_tup K rfl (dgs_cons (dg_name 9 sc__law_spoilt_text.nd) (dgs_cons (dg_name 10 sc__law_spoilt_text.nd) dgs_nil))))
    (dss_one (ds_ret (de_tup (da_cons (de_op (op_addK K) sim_add (de_op (op_addK K) sim_add (de_op (op_addK K) sim_add (de_op (op_addK K) sim_add (de_var 3) de_str) (de_var 7)) de_str) (de_var 5)) (da_cons (de_var 9) (da_cons (de_op (op_addK K) sim_add (de_var 10) (de_var 8)) da_nil)))))))))))⟩
theorem ok__law_case (Z : Zs K mg) : FnOk P w K mg base (L2.CX P w) 7 Z.f__law_case Z.fd__law_case ["_law_store_here"] (spM K 1 false m__law_case) := fn_ok Z.F__law_case sc__law_case rfl 3 rfl fun cdv A outer s H E hr => ⟨_,
    (dss_cons (ds_setLc 1 (vs := [2]) [("_law_k", 2)] rfl rfl sc__law_case.nd (di_r1 rfl Z.z_range (da_cons (de_call K (ok__law_pick Z) (takes_of rfl rfl rfl rfl) (hr.mono (by decide)) rfl Z.g__law_pick Z.F__law_pick.kp Z.b__law_pick .nil (fun _ _ => rfl) (da_cons (de_var 0) (da_cons (de_lst (da_cons de_int (da_cons de_int (da_cons de_int (da_cons de_int (da_cons de_int (da_cons de_int da_nil))))))) da_nil))) da_nil)) (blkOk_by (N := n__law_case) (sc := defScope s__law_case) (by decide +kernel)) (fun _ _ _ _ _ => (dg_name 2 sc__law_case.nd)) (fun _ _ _ _ _ => pts_nil) sim_yes (fun _ _ _ _ _ => (de_ix K (de_call K (ok__law_token Z) takes0 (hr.mono (by decide)) rfl Z.g__law_token Z.F__law_token.kp Z.b__law_token .nil (fun _ _ => rfl) (da_cons (de_var 0) da_nil)) de_int)) (by decide) rfl (sw_true rfl rfl rfl (by decide +kernel)))
    (dss_one (ds_ret (de_call K (ok__law_spoilt_text Z) (takes_of rfl rfl rfl rfl) (hr.mono (by decide)) rfl Z.g__law_spoilt_text Z.F__law_spoilt_text.kp Z.b__law_spoilt_text .nil (fun _ _ => rfl) (da_cons (de_var 0) (da_cons (de_var 1) da_nil))))))⟩
theorem ok_run_end (Z : Zs K mg) : FnOk P w K mg base (L2.CX P w) 1 Z.f_run_end Z.fd_run_end ["row", "at", "signs"] (spM K 3 false m_run_end) := fn_ok Z.F_run_end sc_run_end rfl 3 rfl fun cdv A outer s H E hr => ⟨_,
    (dss_cons (ds_while (passes_of rfl) (dt_w (dw_and (dt_cmp op_lt (sim_I0 fun _ _ _ _ => rfl) (de_var 1) (de_callB (call_lenK K) sim_len rfl Z.z_len (by decide +kernel) (da_cons (de_var 0) da_nil)) (nomark _)) (dw_and1 (dt_cmp (op_inK K) sim_in (de_ix K (de_var 0) (de_var 1)) (de_var 2) (by rfl))))) (dss_one (ds_aug 1 sc_run_end.nd de_int ip_add)))
    (dss_one (ds_ret (de_var 1))))⟩
theorem ok_is_figure (Z : Zs K mg) : FnOk P w K mg base (L2.CX P w) 1 Z.f_is_figure Z.fd_is_figure ["row", "at"] (spM K 2 false m_is_figure) := fn_ok Z.F_is_figure sc_is_figure rfl 2 rfl fun cdv A outer s H E hr => ⟨_,
    (dss_cons (ds_if (dt_cmp (op_eqK K hr) sim_eq (de_ix K (de_var 0) (de_var 1)) de_str (nomark _)) (dss_one (ds_aug 1 sc_is_figure.nd de_int ip_add)) dss_nil)
    (dss_one (ds_ret (de_and (de_cmp op_lt (sim_I0 fun _ _ _ _ => rfl) (de_var 1) (de_callB (call_lenK K) sim_len rfl Z.z_len (by decide +kernel) (da_cons (de_var 0) da_nil)) (nomark _)) (de_one (de_cmp (op_inK K) sim_in (de_ix K (de_var 0) (de_var 1)) (de_gstr rfl Z.g_DIGITS) (by rfl)))))))⟩
theorem ok_read_figure (Z : Zs K mg) : FnOk P w K mg base (L2.CX P w) 3 Z.f_read_figure Z.fd_read_figure ["row", "at", "line"] (spM K 3 false m_read_figure) := fn_ok Z.F_read_figure sc_read_figure rfl 5 rfl fun cdv A outer s H E hr => ⟨_,
    (dss_cons (ds_set 3 sc_read_figure.nd (de_if (dt_cmp (op_eqK K hr) sim_eq (de_ix K (de_var 0) (de_var 1)) de_str (nomark _)) (de_op (op_addK K) sim_add (de_var 1) de_int) (de_var 1)))
    (dss_cons (ds_set 4 sc_read_figure.nd (de_call K (ok_run_end Z) (takes_of rfl rfl rfl rfl) (hr.mono (by decide)) rfl Z.g_run_end Z.F_run_end.kp Z.b_run_end .nil (fun _ _ => rfl) (da_cons (de_var 0) (da_cons (de_var 3) (da_cons (de_gstr rfl Z.g_DIGITS) da_nil)))))
    (dss_cons (ds_if (dt_w (dw_or (dt_cmp op_gt (sim_I0 fun _ _ _ _ => rfl) (de_op op_sub (sim_I0 fun _ _ _ _ => rfl) (de_var 4) (de_var 3)) (de_gint rfl Z.g_FIGURE_MOST) (nomark _)) (dw_or1 (dt_w (dw_and (dt_cmp (op_eqK K hr) sim_eq (de_ix K (de_var 0) (de_var 3)) de_str (nomark _)) (dw_and1 (dt_w (dw_or (dt_cmp op_gt (sim_I0 fun _ _ _ _ => rfl) (de_op op_sub (sim_I0 fun _ _ _ _ => rfl) (de_var 4) (de_var 3)) de_int (nomark _)) (dw_or1 (dt_cmp op_gt (sim_I0 fun _ _ _ _ => rfl) (de_var 3) (de_var 1) (nomark _))))))))))) (dss_one (ds_raiseN K (Z.x_Unread w base) wdI2_of (by simp) rfl (takes_of rfl rfl rfl rfl) (hr.mono (by decide)) rfl (da_cons (de_var 2) (da_cons (de_op (op_addK K) sim_add (de_var 1) de_int) da_nil)))) dss_nil)
    (dss_cons (ds_if (dt_w (dw_and (dt_cmp op_lt (sim_I0 fun _ _ _ _ => rfl) (de_var 4) (de_callB (call_lenK K) sim_len rfl Z.z_len (by decide +kernel) (da_cons (de_var 0) da_nil)) (nomark _)) (dw_and1 (dt_cmp (op_inK K) sim_in (de_ix K (de_var 0) (de_var 4)) (de_gstr rfl Z.g_LETTERS) (by rfl))))) (dss_one (ds_raiseN K (Z.x_Unread w base) wdI2_of (by simp) rfl (takes_of rfl rfl rfl rfl) (hr.mono (by decide)) rfl (da_cons (de_var 2) (da_cons (de_op (op_addK K) sim_add (de_var 4) de_int) da_nil)))) dss_nil)
    (dss_one (ds_ret (de_tup (da_cons de_str (da_cons (de_callTy call_intS sim_intS rfl Z.z_int (by decide +kernel) (da_cons (de_sl K (de_var 0) (do_some (de_var 1)) (do_some (de_var 4))) da_nil)) (da_cons (de_var 4) da_nil))))))))))⟩
theorem ok_read_string (Z : Zs K mg) : FnOk P w K mg base (L2.CX P w) 3 Z.f_read_string Z.fd_read_string ["row", "at", "line"] (spM K 3 false m_read_string) := fn_ok Z.F_read_string sc_read_string rfl 5 rfl fun cdv A outer s H E hr => ⟨_,
    (dss_cons (ds_set 3 sc_read_string.nd (de_lstM da_nil))
    (dss_cons (ds_set 4 sc_read_string.nd (de_op (op_addK K) sim_add (de_var 1) de_int))
    (dss_cons (ds_while (passes_of rfl) (dt_cmp op_lt (sim_I0 fun _ _ _ _ => rfl) (de_var 4) (de_callB (call_lenK K) sim_len rfl Z.z_len (by decide +kernel) (da_cons (de_var 0) da_nil)) (nomark _)) (dss_one (ds_if (dt_cmp (op_neK K hr) sim_ne (de_ix K (de_var 0) (de_var 4)) de_str (nomark _)) (dss_cons (ds_expr (de_bm K PySem.F.plainAttrs_list PySem.F.slot_list_append PySem.F.type_list_append mt_append sim_append (de_var 3) (da_cons (de_ix K (de_var 0) (de_var 4)) da_nil)))
    (dss_one (ds_aug 4 sc_read_string.nd de_int ip_add))) (dss_one (ds_if (dt_cmp (op_eqK K hr) sim_eq (de_sl K (de_var 0) (do_some (de_op (op_addK K) sim_add (de_var 4) de_int)) (do_some (de_op (op_addK K) sim_add (de_var 4) de_int))) de_str (nomark _)) (dss_cons (ds_expr (de_bm K PySem.F.plainAttrs_list PySem.F.slot_list_append PySem.F.type_list_append mt_append sim_append (de_var 3) (da_cons de_str da_nil)))
    (dss_one (ds_aug 4 sc_read_string.nd de_int ip_add))) (dss_one (ds_ret (de_tup (da_cons de_str (da_cons (de_join K de_str (de_var 3)) (da_cons (de_op (op_addK K) sim_add (de_var 4) de_int) da_nil)))))))))))
    (dss_one (ds_raiseN K (Z.x_Unread w base) wdI2_of (by simp) rfl (takes_of rfl rfl rfl rfl) (hr.mono (by decide)) rfl (da_cons (de_var 2) (da_cons (de_op (op_addK K) sim_add (de_var 1) de_int) da_nil)))))))⟩
theorem ok_read_quoted (Z : Zs K mg) : FnOk P w K mg base (L2.CX P w) 3 Z.f_read_quoted Z.fd_read_quoted ["row", "at", "line"] (spM K 3 false m_read_quoted) := fn_ok Z.F_read_quoted sc_read_quoted rfl 10 rfl fun cdv A outer s H E hr => ⟨_,
    (dss_cons (ds_set 3 sc_read_quoted.nd (de_if (dt_cmp (op_eqK K hr) sim_eq (de_ix K (de_var 0) (de_var 1)) de_str (nomark _)) de_str (de_gstr rfl Z.g_HEX)))
    (dss_cons (ds_set 4 sc_read_quoted.nd (de_call K (ok_run_end Z) (takes_of rfl rfl rfl rfl) (hr.mono (by decide)) rfl Z.g_run_end Z.F_run_end.kp Z.b_run_end .nil (fun _ _ => rfl) (da_cons (de_var 0) (da_cons (de_op (op_addK K) sim_add (de_var 1) de_int) (da_cons (de_var 3) da_nil)))))
    (dss_cons (ds_set 5 sc_read_quoted.nd (de_sl K (de_var 0) (do_some (de_op (op_addK K) sim_add (de_var 1) de_int)) (do_some (de_var 4))))
    (dss_cons (ds_if (dt_w (dw_or (dt_cmp (op_eqK K hr) sim_eq (de_var 4) (de_callB (call_lenK K) sim_len rfl Z.z_len (by decide +kernel) (da_cons (de_var 0) da_nil)) (nomark _)) (dw_or1 (dt_cmp (op_neK K hr) sim_ne (de_ix K (de_var 0) (de_var 4)) de_str (nomark _))))) (dss_one (ds_raiseN K (Z.x_Unread w base) wdI2_of (by simp) rfl (takes_of rfl rfl rfl rfl) (hr.mono (by decide)) rfl (da_cons (de_var 2) (da_cons (de_op (op_addK K) sim_add (de_var 1) de_int) da_nil)))) dss_nil)
    (dss_cons (ds_if (dt_cmp (op_eqK K hr) sim_eq (de_ix K (de_var 0) (de_var 1)) de_str (nomark _)) (dss_one (ds_ret (de_tup (da_cons de_str (da_cons (de_var 5) (da_cons (de_op (op_addK K) sim_add (de_var 4) de_int) da_nil)))))) dss_nil)
    (dss_cons (ds_if (dt_cmp (op_eqK K hr) sim_eq (de_op op_mod (sim_I fun _ _ _ _ => rfl) (de_callB (call_lenK K) sim_len rfl Z.z_len (by decide +kernel) (da_cons (de_var 5) da_nil)) de_int) de_int (nomark _)) (dss_one (ds_raiseN K (Z.x_Unread w base) wdI2_of (by simp) rfl (takes_of rfl rfl rfl rfl) (hr.mono (by decide)) rfl (da_cons (de_var 2) (da_cons (de_op (op_addK K) sim_add (de_var 1) de_int) da_nil)))) dss_nil)
    (dss_cons (ds_set 6 sc_read_quoted.nd (de_lc (vs := [7]) [("sign", 7)] rfl rfl sc_read_quoted.nd (di_str (de_var 5)) (blkOk_by (N := n_read_quoted) (sc := defScope s_read_quoted) (by decide +kernel)) (fun _ _ _ _ _ => (dg_name 7 sc_read_quoted.nd)) (fun _ _ _ _ _ => pts_nil) sim_yes (fun _ _ _ _ _ => (de_indexS K (de_gstr rfl Z.g_HEX) (de_var 7))) (by decide)))
    (dss_cons (ds_setLc 8 (vs := [9]) [("place", 9)] rfl rfl sc_read_quoted.nd (di_r3 rfl Z.z_range (da_cons de_int (da_cons (de_callB (call_lenK K) sim_len rfl Z.z_len (by decide +kernel) (da_cons (de_var 6) da_nil)) (da_cons de_int da_nil)))) (blkOk_by (N := n_read_quoted) (sc := defScope s_read_quoted) (by decide +kernel)) (fun _ _ _ _ _ => (dg_name 9 sc_read_quoted.nd)) (fun _ _ _ _ _ => pts_nil) sim_yes (fun _ _ _ _ _ => (de_op (op_addK K) sim_add (de_op op_mulA sim_mul de_int (de_ix K (de_var 6) (de_var 9))) (de_ix K (de_var 6) (de_op (op_addK K) sim_add (de_var 9) de_int)))) (by decide) rfl (sw_true rfl rfl rfl (by decide +kernel)))
    (dss_one (ds_ret (de_tup (da_cons de_str (da_cons (de_callTy (call_tupleK K) sim_tuple rfl Z.z_tuple (by decide +kernel) (da_cons (de_var 8) da_nil)) (da_cons (de_op (op_addK K) sim_add (de_var 4) de_int) da_nil))))))))))))))⟩
theorem ok_read_token (Z : Zs K mg) : FnOk P w K mg base (L2.CX P w) 4 Z.f_read_token Z.fd_read_token ["row", "at", "line"] (spM K 3 false m_read_token) := fn_ok Z.F_read_token sc_read_token rfl 6 rfl fun cdv A outer s H E hr => ⟨_,
    (dss_cons (ds_if (dt_cmp (op_inK K) sim_in (de_ix K (de_var 0) (de_var 1)) (de_gstr rfl Z.g_LETTERS) (by rfl)) (dss_cons (ds_set 3 sc_read_token.nd (de_call K (ok_run_end Z) (takes_of rfl rfl rfl rfl) (hr.mono (by decide)) rfl Z.g_run_end Z.F_run_end.kp Z.b_run_end .nil (fun _ _ => rfl) (da_cons (de_var 0) (da_cons (de_var 1) (da_cons (de_op (op_addK K) sim_add (de_gstr rfl Z.g_LETTERS) (de_gstr rfl Z.g_DIGITS)) da_nil)))))
    (dss_cons (ds_set 4 sc_read_token.nd (de_sl K (de_var 0) (do_some (de_var 1)) (do_some (de_var 3))))
    (dss_cons (ds_if (dt_w (dw_and (dt_w (dw_or (dt_cmp (op_eqK K hr) sim_eq (de_var 4) de_str (nomark _)) (dw_or1 (dt_cmp (op_eqK K hr) sim_eq (de_var 4) de_str (nomark _))))) (dw_and1 (dt_cmp (op_eqK K hr) sim_eq (de_sl K (de_var 0) (do_some (de_var 3)) (do_some (de_op (op_addK K) sim_add (de_var 3) de_int))) de_str (nomark _))))) (dss_one (ds_ret (de_call K (ok_read_quoted Z) (takes_of rfl rfl rfl rfl) (hr.mono (by decide)) rfl Z.g_read_quoted Z.F_read_quoted.kp Z.b_read_quoted .nil (fun _ _ => rfl) (da_cons (de_var 0) (da_cons (de_var 1) (da_cons (de_var 2) da_nil)))))) dss_nil)
    (dss_one (ds_ret (de_tup (da_cons de_str (da_cons (de_var 4) (da_cons (de_var 3) da_nil))))))))) dss_nil)
    (dss_cons (ds_if (dt_val (de_call K (ok_is_figure Z) (takes_of rfl rfl rfl rfl) (hr.mono (by decide)) rfl Z.g_is_figure Z.F_is_figure.kp Z.b_is_figure .nil (fun _ _ => rfl) (da_cons (de_var 0) (da_cons (de_var 1) da_nil)))) (dss_one (ds_ret (de_call K (ok_read_figure Z) (takes_of rfl rfl rfl rfl) (hr.mono (by decide)) rfl Z.g_read_figure Z.F_read_figure.kp Z.b_read_figure .nil (fun _ _ => rfl) (da_cons (de_var 0) (da_cons (de_var 1) (da_cons (de_var 2) da_nil)))))) dss_nil)
    (dss_cons (ds_if (dt_cmp (op_eqK K hr) sim_eq (de_ix K (de_var 0) (de_var 1)) de_str (nomark _)) (dss_one (ds_ret (de_call K (ok_read_string Z) (takes_of rfl rfl rfl rfl) (hr.mono (by decide)) rfl Z.g_read_string Z.F_read_string.kp Z.b_read_string .nil (fun _ _ => rfl) (da_cons (de_var 0) (da_cons (de_var 1) (da_cons (de_var 2) da_nil)))))) dss_nil)
    (dss_cons (ds_for (passes_of rfl) rfl (di_sq K (de_gdat K rfl Z.g_MARKS)) (dg_name 5 sc_read_token.nd) (dss_one (ds_if (dt_val (de_sw3 K (de_var 0) (de_var 5) (de_var 1))) (dss_one (ds_ret (de_tup (da_cons de_str (da_cons (de_var 5) (da_cons (de_op (op_addK K) sim_add (de_var 1) (de_callB (call_lenK K) sim_len rfl Z.z_len (by decide +kernel) (da_cons (de_var 5) da_nil))) da_nil)))))) dss_nil)))
    (dss_one (ds_raiseN K (Z.x_Unread w base) wdI2_of (by simp) rfl (takes_of rfl rfl rfl rfl) (hr.mono (by decide)) rfl (da_cons (de_var 2) (da_cons (de_op (op_addK K) sim_add (de_var 1) de_int) da_nil))))))))⟩
theorem ok_line_tokens (Z : Zs K mg) : FnOk P w K mg base (L2.CX P w) 5 Z.f_line_tokens Z.fd_line_tokens ["row", "line"] (spM K 2 true m_line_tokens) := fn_ok Z.F_line_tokens sc_line_tokens rfl 7 rfl fun cdv A outer s H E hr => ⟨_,
    (dss_cons (ds_set 2 sc_line_tokens.nd (de_lstM da_nil))
    (dss_cons (ds_set 3 sc_line_tokens.nd de_int)
    (dss_cons (ds_while (passes_of rfl) (dt_w (dw_and (dt_cmp op_lt (sim_I0 fun _ _ _ _ => rfl) (de_var 3) (de_callB (call_lenK K) sim_len rfl Z.z_len (by decide +kernel) (da_cons (de_var 0) da_nil)) (nomark _)) (dw_and1 (dt_cmp (op_neK K hr) sim_ne (de_ix K (de_var 0) (de_var 3)) de_str (nomark _))))) (dss_one (ds_if (dt_cmp (op_eqK K hr) sim_eq (de_ix K (de_var 0) (de_var 3)) de_str (nomark _)) (dss_one (ds_aug 3 sc_line_tokens.nd de_int ip_add)) (dss_cons (ds_asg (de_call K (ok_read_token Z) (takes_of rfl rfl rfl rfl) (hr.mono (by decide)) rfl Z.g_read_token Z.F_read_token.kp Z.b_read_token .nil (fun _ _ => rfl) (da_cons (de_var 0) (da_cons (de_var 3) (da_cons (de_var 1) da_nil)))) (dg_tup K rfl (dgs_cons (dg_name 4 sc_line_tokens.nd) (dgs_cons (dg_name 5 sc_line_tokens.nd) (dgs_cons (dg_name 6 sc_line_tokens.nd) dgs_nil)))))
    (dss_cons (ds_expr (de_bm K PySem.F.plainAttrs_list PySem.F.slot_list_append PySem.F.type_list_append mt_append sim_append (de_var 2) (da_cons (de_tup (da_cons (de_var 4) (da_cons (de_var 5) (da_cons (de_var 1) (da_cons (de_op (op_addK K) sim_add (de_var 3) de_int) da_nil))))) da_nil)))
    (dss_one (ds_set 3 sc_line_tokens.nd (de_var 6))))))))
    (dss_one (ds_ret (de_var 2))))))⟩
theorem ok_tokens (Z : Zs K mg) : FnOk P w K mg base (L2.CX P w) 6 Z.f_tokens Z.fd_tokens ["text"] (spM K 1 true m_tokens) := fn_ok Z.F_tokens sc_tokens rfl 5 rfl fun cdv A outer s H E hr => ⟨_,
    (dss_cons (ds_set 1 sc_tokens.nd (de_split K (de_var 0) de_str))
    (dss_cons (ds_set 2 sc_tokens.nd (de_lstM da_nil))
    (dss_cons (ds_for (passes_of rfl) rfl (di_enum K rfl Z.z_enumerate (da_cons (de_var 1) da_nil)) (dg_tup K rfl (dgs_cons (dg_name 3 sc_tokens.nd) (dgs_cons (dg_name 4 sc_tokens.nd) dgs_nil))) (dss_one (ds_expr (de_bm K PySem.F.plainAttrs_list PySem.F.slot_list_extend PySem.F.type_list_extend mt_extend sim_extend (de_var 2) (da_cons (de_call K (ok_line_tokens Z) (takes_of rfl rfl rfl rfl) (hr.mono (by decide)) rfl Z.g_line_tokens Z.F_line_tokens.kp Z.b_line_tokens .nil (fun _ _ => rfl) (da_cons (de_var 4) (da_cons (de_op (op_addK K) sim_add (de_var 3) de_int) da_nil))) da_nil)))))
    (dss_cons (ds_expr (de_bm K PySem.F.plainAttrs_list PySem.F.slot_list_append PySem.F.type_list_append mt_append sim_append (de_var 2) (da_cons (de_tup (da_cons de_str (da_cons de_str (da_cons (de_callB (call_lenK K) sim_len rfl Z.z_len (by decide +kernel) (da_cons (de_var 1) da_nil)) (da_cons (de_op (op_addK K) sim_add (de_callB (call_lenK K) sim_len rfl Z.z_len (by decide +kernel) (da_cons (de_ix K (de_var 1) (de_neg de_int)) da_nil)) de_int) da_nil))))) da_nil)))
    (dss_one (ds_ret (de_var 2)))))))⟩
theorem ok_Cursor___init__ (Z : Zs K mg) : FnOk P w K mg base (L2.CX P w) 7 Z.f_Cursor___init__ Z.fd_Cursor___init__ ["self", "text"] (spM K 2 false m_Cursor___init__) := fn_ok Z.F_Cursor___init__ sc_Cursor___init__ rfl 2 rfl fun cdv A outer s H E hr => ⟨_,
    (dss_cons (ds_setF K (f := "token_row") Z.c_Cursor Z.na_Cursor_token_row (de_var 0) (de_call K (ok_tokens Z) (takes_of rfl rfl rfl rfl) (hr.mono (by decide)) rfl Z.g_tokens Z.F_tokens.kp Z.b_tokens .nil (fun _ _ => rfl) (da_cons (de_var 1) da_nil)) rfl)
    (dss_one (ds_setF K (f := "token_at") Z.c_Cursor Z.na_Cursor_token_at (de_var 0) de_int rfl)))⟩
theorem ok_parse_schema (Z : Zs K mg) : FnOk P w K mg base (L2.CX P w) 9 Z.f_parse_schema Z.fd_parse_schema ["text"] (spM K 1 false m_parse_schema) := fn_ok Z.F_parse_schema sc_parse_schema rfl 3 rfl fun cdv A outer s H E hr => ⟨_,
    (dss_cons (ds_set 1 sc_parse_schema.nd (de_makeX K Z.mk_Cursor (ok_Cursor___init__ Z) (takes_of rfl rfl rfl rfl) (hr.mono (by decide)) rfl Z.g_Cursor Z.b_Cursor___init__ .nil (fun _ _ => rfl) (da_cons (de_var 0) da_nil)))
    (dss_cons (ds_set 2 sc_parse_schema.nd (de_lstM da_nil))
    (dss_cons ds_nev
    (dss_one (ds_ret (de_callTy (call_tupleK K) sim_tuple rfl Z.z_tuple (by decide +kernel) (da_cons (de_var 2) da_nil)))))))⟩
theorem ok__law_place (Z : Zs K mg) : FnOk P w K mg base (L2.CX P w) 10 Z.f__law_place Z.fd__law_place ["_law_text", "_law_whole"] (spM K 2 false m__law_place) := fn_ok Z.F__law_place sc__law_place rfl 3 rfl fun cdv A outer s H E hr => ⟨_,
    (dss_cons (ds_try rfl rfl sc__law_place.nd (takes_of rfl rfl rfl rfl) (fun W pn xe tk po => (dss_one (ds_if (dt_val (de_var 1)) (dss_one (ds_expr (de_call K (ok_parse_schema Z) tk (hr.mono (by decide)) rfl Z.g_parse_schema Z.F_parse_schema.kp Z.b_parse_schema .nil (fun _ _ => rfl) (da_cons (de_var 0) da_nil)))) (dss_one (ds_expr (de_call K (ok_tokens Z) tk (hr.mono (by decide)) rfl Z.g_tokens Z.F_tokens.kp Z.b_tokens .nil (fun _ _ => rfl) (da_cons (de_var 0) da_nil))))))) (HsD.cons (mt := fun cls => PySem.W.exmOne K cls (.ref (He.ga K "Unread"))) (i := 2) (tbl := t_1) (ms := fun xa xc xd => (mSeq (mIfS (mOr (mTest (mIsX 2 xa xc xd t_2)) (mOr (mTest (mIsX 2 xa xc xd t_3)) (mTest (mIsX 2 xa xc xd t_4)))) (mRet (mC .non)) mNext)
    (mRet (mTup (mCons (mXf 2 xa xc xd ["Unread"] "line") (mCons (mXf 2 xa xc xd ["Unread"] "column") mNil)))))) rfl rfl (by (refine tst_name ?_); (exact ⟨rfl, by decide, .inl Z.gx_Unread⟩)) Z.t_1 (fun xa oe xc xd pn hz hf => (dss_cons (ds_if (dt_w (dw_or (dt_val (de_isX1 (X := (cxOf (L2.CX P w) P w K mg base n__law_place "_law_place" (defScope s__law_place) Z.f__law_place cdv A outer s H E)) (a := xa) (pn := pn) K Z.t_2 hz hf rfl Z.z_isinstance (pe_glob (X := Cx.suite (cxOf (L2.CX P w) P w K mg base n__law_place "_law_place" (defScope s__law_place) Z.f__law_place cdv A outer s H E) xa ((xa, oe) :: pn)) (x := "Unresolved") (v := V.ref (He.ga K "Unresolved")) rfl Z.gx_Unresolved rfl) (.own _) 2)) (dw_or (dt_val (de_isX1 (X := (cxOf (L2.CX P w) P w K mg base n__law_place "_law_place" (defScope s__law_place) Z.f__law_place cdv A outer s H E)) (a := xa) (pn := pn) K Z.t_3 hz hf rfl Z.z_isinstance (pe_glob (X := Cx.suite (cxOf (L2.CX P w) P w K mg base n__law_place "_law_place" (defScope s__law_place) Z.f__law_place cdv A outer s H E) xa ((xa, oe) :: pn)) (x := "Refused") (v := V.ref (He.ga K "Refused")) rfl Z.gx_Refused rfl) (.own _) 2)) (dw_or1 (dt_val (de_isX1 (X := (cxOf (L2.CX P w) P w K mg base n__law_place "_law_place" (defScope s__law_place) Z.f__law_place cdv A outer s H E)) (a := xa) (pn := pn) K Z.t_4 hz hf rfl Z.z_isinstance (pe_glob (X := Cx.suite (cxOf (L2.CX P w) P w K mg base n__law_place "_law_place" (defScope s__law_place) Z.f__law_place cdv A outer s H E) xa ((xa, oe) :: pn)) (x := "Unfit") (v := V.ref (He.ga K "Unfit")) rfl Z.gx_Unfit rfl) (.own _) 2)))))) (dss_one (ds_ret de_non)) dss_nil)
    (dss_one (ds_ret (de_tup (da_cons (de_xv (X := (cxOf (L2.CX P w) P w K mg base n__law_place "_law_place" (defScope s__law_place) Z.f__law_place cdv A outer s H E)) (a := xa) (pn := pn) K Z.xf_line hz hf 2) (da_cons (de_xv (X := (cxOf (L2.CX P w) P w K mg base n__law_place "_law_place" (defScope s__law_place) Z.f__law_place cdv A outer s H E)) (a := xa) (pn := pn) K Z.xf_column hz hf 2) da_nil)))))))
    (HsD.anon (mt := fun cls => PySem.W.exmOne K cls (.ref (He.ga K "TagoctetsError"))) (tbl := t_0) (ms := fun xa xc xd => (mRet (mC .non))) (by (refine tst_name ?_); (exact ⟨rfl, by decide, .inl Z.gx_TagoctetsError⟩)) Z.t_0 (fun xa oe xc xd pn hz hf => (dss_one (ds_ret de_non)))
    HsD.nil)))
    (dss_one (ds_ret de_str)))⟩
theorem ok_law (Z : Zs K mg) : FnOk P w K mg base (L2.CX P w) 11 Z.f_law Z.fd_law ["_law_script"] (spM K 1 false m_law) := fn_ok Z.F_law sc_law rfl 10 rfl fun cdv A outer s H E hr => ⟨_,
    (dss_cons (ds_set 1 sc_law.nd (de_call K (ok__law_store Z) (takes_of rfl rfl rfl rfl) (hr.mono (by decide)) rfl Z.g__law_store Z.F__law_store.kp Z.b__law_store .nil (fun _ _ => rfl) (da_cons (de_var 0) da_nil)))
    (dss_cons (ds_set 2 sc_law.nd (de_lst (da_cons (de_call K (ok__law_case Z) (takes_of rfl rfl rfl rfl) (hr.mono (by decide)) rfl Z.g__law_case Z.F__law_case.kp Z.b__law_case .nil (fun _ _ => rfl) (da_cons (de_var 1) da_nil)) (da_cons (de_call K (ok__law_case Z) (takes_of rfl rfl rfl rfl) (hr.mono (by decide)) rfl Z.g__law_case Z.F__law_case.kp Z.b__law_case .nil (fun _ _ => rfl) (da_cons (de_var 1) da_nil)) da_nil))))
    (dss_cons (ds_set 3 sc_law.nd (de_lst (da_cons (de_ix K (de_call K (ok__law_laid Z) (takes_of rfl rfl rfl rfl) (hr.mono (by decide)) rfl Z.g__law_laid Z.F__law_laid.kp Z.b__law_laid .nil (fun _ _ => rfl) (da_cons (de_var 1) (da_cons (de_lc (vs := [4]) [("_law_k", 4)] rfl rfl sc_law.nd (di_r1 rfl Z.z_range (da_cons de_int da_nil)) (blkOk_by (N := n_law) (sc := defScope s_law) (by decide +kernel)) (fun _ _ _ _ _ => (dg_name 4 sc_law.nd)) (fun _ _ _ _ _ => pts_nil) sim_yes (fun _ _ _ _ _ => (de_ix K (de_call K (ok__law_token Z) takes0 (hr.mono (by decide)) rfl Z.g__law_token Z.F__law_token.kp Z.b__law_token .nil (fun _ _ => rfl) (da_cons (de_var 1) da_nil)) de_int)) (by decide)) (da_cons de_bl da_nil)))) de_int) (da_cons de_str da_nil))))
    (dss_cons (ds_for (passes_of rfl) rfl (di_sq K (de_op (op_addK K) sim_add (de_var 2) (de_sl K (de_var 2) do_none (do_some de_int)))) (dg_tup K rfl (dgs_cons (dg_name 5 sc_law.nd) (dgs_cons (dg_name 6 sc_law.nd) (dgs_cons (dg_name 7 sc_law.nd) dgs_nil)))) (dss_cons (ds_for (passes_of rfl) rfl (di_sq K (de_lst (da_cons de_bl (da_cons de_bl (da_cons de_bl da_nil))))) (dg_name 8 sc_law.nd) (dss_one (ds_if (dt_not (dt_val (de_call K (ok__law_equal Z 8) (takes_of rfl rfl rfl rfl) (hr.mono (by decide)) rfl Z.g__law_equal Z.F__law_equal.kp Z.b__law_equal .nil (fun _ _ => rfl) (da_cons (de_call K (ok__law_place Z) (takes_of rfl rfl rfl rfl) (hr.mono (by decide)) rfl Z.g__law_place Z.F__law_place.kp Z.b__law_place .nil (fun _ _ => rfl) (da_cons (de_var 5) (da_cons (de_var 8) da_nil))) (da_cons (de_tup (da_cons (de_var 6) (da_cons (de_var 7) da_nil))) da_nil))))) (dss_one (ds_ret de_bl)) dss_nil)))
    (dss_one (ds_for (passes_of rfl) rfl (di_sq K (de_var 3)) (dg_name 9 sc_law.nd) (dss_one (ds_if (dt_cmp (op_neK K hr) sim_ne (de_call K (ok__law_place Z) (takes_of rfl rfl rfl rfl) (hr.mono (by decide)) rfl Z.g__law_place Z.F__law_place.kp Z.b__law_place .nil (fun _ _ => rfl) (da_cons (de_var 9) (da_cons de_bl da_nil))) de_str (nomark _)) (dss_one (ds_ret de_bl)) dss_nil))))))
    (dss_one (ds_ret de_bl))))))⟩
end
def d__law_mix : He.DefD := ⟨("_law_mix", none), "_law_mix", "_law_mix", defArgs s__law_mix, defBody s__law_mix, defScope s__law_mix, [], []⟩
def d__law_store : He.DefD := ⟨("_law_store", none), "_law_store", "_law_store", defArgs s__law_store, defBody s__law_store, defScope s__law_store, [], []⟩
def d__law_equal : He.DefD := ⟨("_law_equal", none), "_law_equal", "_law_equal", defArgs s__law_equal, defBody s__law_equal, defScope s__law_equal, [], []⟩
def d__law_take : He.DefD := ⟨("_law_take", none), "_law_take", "_law_take", defArgs s__law_take, defBody s__law_take, defScope s__law_take, [], []⟩
def d__law_pick : He.DefD := ⟨("_law_pick", none), "_law_pick", "_law_pick", defArgs s__law_pick, defBody s__law_pick, defScope s__law_pick, [], []⟩
def d__law_reserved : He.DefD := ⟨("_law_reserved", none), "_law_reserved", "_law_reserved", defArgs s__law_reserved, defBody s__law_reserved, defScope s__law_reserved, [], []⟩
def d__law_name : He.DefD := ⟨("_law_name", none), "_law_name", "_law_name", defArgs s__law_name, defBody s__law_name, defScope s__law_name, [], []⟩
def d__law_span : He.DefD := ⟨("_law_span", none), "_law_span", "_law_span", defArgs s__law_span, defBody s__law_span, defScope s__law_span, [], []⟩
def d__law_count : He.DefD := ⟨("_law_count", none), "_law_count", "_law_count", defArgs s__law_count, defBody s__law_count, defScope s__law_count, [], []⟩
def d__law_octet : He.DefD := ⟨("_law_octet", none), "_law_octet", "_law_octet", defArgs s__law_octet, defBody s__law_octet, defScope s__law_octet, [], []⟩
def d__law_octet_row : He.DefD := ⟨("_law_octet_row", none), "_law_octet_row", "_law_octet_row", defArgs s__law_octet_row, defBody s__law_octet_row, defScope s__law_octet_row, [], []⟩
def d__law_big : He.DefD := ⟨("_law_big", none), "_law_big", "_law_big", defArgs s__law_big, defBody s__law_big, defScope s__law_big, [], []⟩
def d__law_chars : He.DefD := ⟨("_law_chars", none), "_law_chars", "_law_chars", defArgs s__law_chars, defBody s__law_chars, defScope s__law_chars, [], []⟩
def d__law_string : He.DefD := ⟨("_law_string", none), "_law_string", "_law_string", defArgs s__law_string, defBody s__law_string, defScope s__law_string, [], []⟩
def d__law_hex : He.DefD := ⟨("_law_hex", none), "_law_hex", "_law_hex", defArgs s__law_hex, defBody s__law_hex, defScope s__law_hex, [], []⟩
def d__law_power : He.DefD := ⟨("_law_power", none), "_law_power", "_law_power", defArgs s__law_power, defBody s__law_power, defScope s__law_power, [], []⟩
def d__law_clamp : He.DefD := ⟨("_law_clamp", none), "_law_clamp", "_law_clamp", defArgs s__law_clamp, defBody s__law_clamp, defScope s__law_clamp, [], []⟩
def d__law_lowest : He.DefD := ⟨("_law_lowest", none), "_law_lowest", "_law_lowest", defArgs s__law_lowest, defBody s__law_lowest, defScope s__law_lowest, [], []⟩
def d__law_highest : He.DefD := ⟨("_law_highest", none), "_law_highest", "_law_highest", defArgs s__law_highest, defBody s__law_highest, defScope s__law_highest, [], []⟩
def d__law_figure : He.DefD := ⟨("_law_figure", none), "_law_figure", "_law_figure", defArgs s__law_figure, defBody s__law_figure, defScope s__law_figure, [], []⟩
def d__law_long_figure : He.DefD := ⟨("_law_long_figure", none), "_law_long_figure", "_law_long_figure", defArgs s__law_long_figure, defBody s__law_long_figure, defScope s__law_long_figure, [], []⟩
def d__law_token : He.DefD := ⟨("_law_token", none), "_law_token", "_law_token", defArgs s__law_token, defBody s__law_token, defScope s__law_token, [], []⟩
def d__law_spot : He.DefD := ⟨("_law_spot", none), "_law_spot", "_law_spot", defArgs s__law_spot, defBody s__law_spot, defScope s__law_spot, [], []⟩
def d__law_gap : He.DefD := ⟨("_law_gap", none), "_law_gap", "_law_gap", defArgs s__law_gap, defBody s__law_gap, defScope s__law_gap, [], []⟩
def d__law_laid : He.DefD := ⟨("_law_laid", none), "_law_laid", "_law_laid", defArgs s__law_laid, defBody s__law_laid, defScope s__law_laid, [], []⟩
def d__law_bad_token : He.DefD := ⟨("_law_bad_token", none), "_law_bad_token", "_law_bad_token", defArgs s__law_bad_token, defBody s__law_bad_token, defScope s__law_bad_token, [], []⟩
def d__law_spoilt_text : He.DefD := ⟨("_law_spoilt_text", none), "_law_spoilt_text", "_law_spoilt_text", defArgs s__law_spoilt_text, defBody s__law_spoilt_text, defScope s__law_spoilt_text, [], []⟩
def d__law_case : He.DefD := ⟨("_law_case", none), "_law_case", "_law_case", defArgs s__law_case, defBody s__law_case, defScope s__law_case, [], []⟩
def d_run_end : He.DefD := ⟨("run_end", none), "run_end", "run_end", defArgs s_run_end, defBody s_run_end, defScope s_run_end, [], []⟩
def d_is_figure : He.DefD := ⟨("is_figure", none), "is_figure", "is_figure", defArgs s_is_figure, defBody s_is_figure, defScope s_is_figure, [], []⟩
def d_read_figure : He.DefD := ⟨("read_figure", none), "read_figure", "read_figure", defArgs s_read_figure, defBody s_read_figure, defScope s_read_figure, [], []⟩
def d_read_string : He.DefD := ⟨("read_string", none), "read_string", "read_string", defArgs s_read_string, defBody s_read_string, defScope s_read_string, [], []⟩
def d_read_quoted : He.DefD := ⟨("read_quoted", none), "read_quoted", "read_quoted", defArgs s_read_quoted, defBody s_read_quoted, defScope s_read_quoted, [], []⟩
def d_read_token : He.DefD := ⟨("read_token", none), "read_token", "read_token", defArgs s_read_token, defBody s_read_token, defScope s_read_token, [], []⟩
def d_line_tokens : He.DefD := ⟨("line_tokens", none), "line_tokens", "line_tokens", defArgs s_line_tokens, defBody s_line_tokens, defScope s_line_tokens, [], []⟩
def d_tokens : He.DefD := ⟨("tokens", none), "tokens", "tokens", defArgs s_tokens, defBody s_tokens, defScope s_tokens, [], []⟩
def d_Cursor___init__ : He.DefD := ⟨("Cursor", some "__init__"), "__init__", "Cursor.__init__", defArgs s_Cursor___init__, defBody s_Cursor___init__, defScope s_Cursor___init__, [], []⟩
def d_parse_schema : He.DefD := ⟨("parse_schema", none), "parse_schema", "parse_schema", defArgs s_parse_schema, defBody s_parse_schema, defScope s_parse_schema, [], []⟩
def d__law_place : He.DefD := ⟨("_law_place", none), "_law_place", "_law_place", defArgs s__law_place, defBody s__law_place, defScope s__law_place, [], []⟩
def d_law : He.DefD := ⟨("law", none), "law", "law", defArgs s_law, defBody s_law, defScope s_law, [], []⟩
def fn : List He.DefD := [d__law_mix, d__law_store, d__law_equal, d__law_take, d__law_pick, d__law_reserved, d__law_name, d__law_span, d__law_count, d__law_octet, d__law_octet_row, d__law_big, d__law_chars, d__law_string, d__law_hex, d__law_power, d__law_clamp, d__law_lowest, d__law_highest, d__law_figure, d__law_long_figure, d__law_token, d__law_spot, d__law_gap, d__law_laid, d__law_bad_token, d__law_spoilt_text, d__law_case, d_run_end, d_is_figure, d_read_figure, d_read_string, d_read_quoted, d_read_token, d_line_tokens, d_tokens, d_Cursor___init__, d_parse_schema, d__law_place, d_law]
theorem scx_Refused : XcSc P (defArgs (inClass (top 2) 0)) (defScope (inClass (top 2) 0)) ["place"] := ⟨rfl, rfl, rfl, by decide +kernel, by decide +kernel, rfl, by decide +kernel, by decide +kernel, rfl, rfl, ⟨_, rfl, rfl⟩, by decide +kernel⟩
theorem scx_Unfit : XcSc P (defArgs (inClass (top 3) 0)) (defScope (inClass (top 3) 0)) ["path"] := ⟨rfl, rfl, rfl, by decide +kernel, by decide +kernel, rfl, by decide +kernel, by decide +kernel, rfl, rfl, ⟨_, rfl, rfl⟩, by decide +kernel⟩
theorem scx_Unread : XcSc P (defArgs (inClass (top 4) 0)) (defScope (inClass (top 4) 0)) ["line", "column"] := ⟨rfl, rfl, rfl, by decide +kernel, by decide +kernel, rfl, by decide +kernel, by decide +kernel, rfl, rfl, ⟨_, rfl, rfl⟩, by decide +kernel⟩
def fa : List He.Fa := [.glo "_law_mix", .glo "_law_store", .glo "_law_equal", .glo "_law_take", .glo "_law_pick", .glo "_law_reserved", .glo "_law_name", .glo "_law_span", .glo "_law_count", .glo "_law_octet", .glo "_law_octet_row", .glo "_law_big", .glo "_law_chars", .glo "_law_string", .glo "_law_hex", .glo "_law_power", .glo "_law_clamp", .glo "_law_lowest", .glo "_law_highest", .glo "_law_figure", .glo "_law_long_figure", .glo "_law_token", .glo "_law_spot", .glo "_law_gap", .glo "_law_laid", .glo "_law_bad_token", .glo "_law_spoilt_text", .glo "_law_case", .glo "run_end", .glo "is_figure", .glo "read_figure", .glo "read_string", .glo "read_quoted", .glo "read_token", .glo "line_tokens", .glo "tokens", .glo "parse_schema", .glo "_law_place", .glo "law", .glo "Cursor", .mkr "Cursor", .cls "Cursor", .noat "Cursor" "token_row", .noat "Cursor" "token_at", .free "len", .free "int", .free "range", .free "tuple", .free "enumerate", .free "list", .free "abs", .free "isinstance", .free "bool", .free "str", .free "max", .free "min", .str "DIGITS" "0123456789", .int "FIGURE_MOST" (60), .str "LETTERS" "abcdefghijklmnopqrstuvwxyzABCDEFGHIJKLMNOPQRSTUVWXYZ", .str "HEX" "0123456789abcdef", .glo "TagoctetsError", .glo "Unresolved", .glo "Refused", .glo "Unfit", .glo "Unread", .free "super"]
def prs : List PrD := []
theorem zs {w : World} {K : PySem.W.Frag} {h : Heap} {mg : Str → Option Value} (X : K.In h) (G : h.Ns mainGlobals mg) (c : SaysZ P fa fn xs bs prs tabs w K) : ∃ Z : Zs K mg, True := by
  have cz := c
  replace c := c.y
  have cp := c
  replace c := c.x
  obtain ⟨v_MARKS, h_MARKS⟩ := gdB_ok X G (x := "MARKS") (d := gd_MARKS) (c.test 5 (b := gdB "MARKS" gd_MARKS) rfl)
  obtain ⟨fd__law_mix, F__law_mix⟩ := c.def_ 0 (d := d__law_mix) rfl
  have b__law_mix : Binds K fd__law_mix ["_law_first", "_law_second"] [] := FunD.bindsN F__law_mix fun _ _ _ _ _ _ us hl => match us, hl with | [_, _], _ => rfl
  obtain ⟨fd__law_store, F__law_store⟩ := c.def_ 1 (d := d__law_store) rfl
  have b__law_store : Binds K fd__law_store ["_law_script"] [] := FunD.bindsN F__law_store fun _ _ _ _ _ _ us hl => match us, hl with | [_], _ => rfl
  obtain ⟨fd__law_equal, F__law_equal⟩ := c.def_ 2 (d := d__law_equal) rfl
  have b__law_equal : Binds K fd__law_equal ["_law_first", "_law_second"] [] := FunD.bindsN F__law_equal fun _ _ _ _ _ _ us hl => match us, hl with | [_, _], _ => rfl
  obtain ⟨fd__law_take, F__law_take⟩ := c.def_ 3 (d := d__law_take) rfl
  have b__law_take : Binds K fd__law_take ["_law_store_here", "_law_many"] [] := FunD.bindsN F__law_take fun _ _ _ _ _ _ us hl => match us, hl with | [_, _], _ => rfl
  obtain ⟨fd__law_pick, F__law_pick⟩ := c.def_ 4 (d := d__law_pick) rfl
  have b__law_pick : Binds K fd__law_pick ["_law_store_here", "_law_row"] [] := FunD.bindsN F__law_pick fun _ _ _ _ _ _ us hl => match us, hl with | [_, _], _ => rfl
  obtain ⟨fd__law_reserved, F__law_reserved⟩ := c.def_ 5 (d := d__law_reserved) rfl
  have b__law_reserved : Binds K fd__law_reserved [] [] := FunD.bindsN F__law_reserved fun _ _ _ _ _ _ us hl => match us, hl with | [], _ => rfl
  obtain ⟨fd__law_name, F__law_name⟩ := c.def_ 6 (d := d__law_name) rfl
  have b__law_name : Binds K fd__law_name ["_law_store_here"] [] := FunD.bindsN F__law_name fun _ _ _ _ _ _ us hl => match us, hl with | [_], _ => rfl
  obtain ⟨fd__law_span, F__law_span⟩ := c.def_ 7 (d := d__law_span) rfl
  have b__law_span : Binds K fd__law_span ["_law_store_here", "_law_low", "_law_high"] [] := FunD.bindsN F__law_span fun _ _ _ _ _ _ us hl => match us, hl with | [_, _, _], _ => rfl
  obtain ⟨fd__law_count, F__law_count⟩ := c.def_ 8 (d := d__law_count) rfl
  have b__law_count : Binds K fd__law_count ["_law_store_here", "_law_few", "_law_many"] [] := FunD.bindsN F__law_count fun _ _ _ _ _ _ us hl => match us, hl with | [_, _, _], _ => rfl
  obtain ⟨fd__law_octet, F__law_octet⟩ := c.def_ 9 (d := d__law_octet) rfl
  have b__law_octet : Binds K fd__law_octet ["_law_store_here"] [] := FunD.bindsN F__law_octet fun _ _ _ _ _ _ us hl => match us, hl with | [_], _ => rfl
  obtain ⟨fd__law_octet_row, F__law_octet_row⟩ := c.def_ 10 (d := d__law_octet_row) rfl
  have b__law_octet_row : Binds K fd__law_octet_row ["_law_store_here", "_law_few", "_law_many"] [] := FunD.bindsN F__law_octet_row fun _ _ _ _ _ _ us hl => match us, hl with | [_, _, _], _ => rfl
  obtain ⟨fd__law_big, F__law_big⟩ := c.def_ 11 (d := d__law_big) rfl
  have b__law_big : Binds K fd__law_big ["_law_store_here", "_law_taken"] [] := FunD.bindsN F__law_big fun _ _ _ _ _ _ us hl => match us, hl with | [_, _], _ => rfl
  obtain ⟨fd__law_chars, F__law_chars⟩ := c.def_ 12 (d := d__law_chars) rfl
  have b__law_chars : Binds K fd__law_chars [] [] := FunD.bindsN F__law_chars fun _ _ _ _ _ _ us hl => match us, hl with | [], _ => rfl
  obtain ⟨fd__law_string, F__law_string⟩ := c.def_ 13 (d := d__law_string) rfl
  have b__law_string : Binds K fd__law_string ["_law_store_here", "_law_few", "_law_many"] [] := FunD.bindsN F__law_string fun _ _ _ _ _ _ us hl => match us, hl with | [_, _, _], _ => rfl
  obtain ⟨fd__law_hex, F__law_hex⟩ := c.def_ 14 (d := d__law_hex) rfl
  have b__law_hex : Binds K fd__law_hex ["_law_row"] [] := FunD.bindsN F__law_hex fun _ _ _ _ _ _ us hl => match us, hl with | [_], _ => rfl
  obtain ⟨fd__law_power, F__law_power⟩ := c.def_ 15 (d := d__law_power) rfl
  have b__law_power : Binds K fd__law_power ["_law_count_here"] [] := FunD.bindsN F__law_power fun _ _ _ _ _ _ us hl => match us, hl with | [_], _ => rfl
  obtain ⟨fd__law_clamp, F__law_clamp⟩ := c.def_ 16 (d := d__law_clamp) rfl
  have b__law_clamp : Binds K fd__law_clamp ["_law_number", "_law_low", "_law_high"] [] := FunD.bindsN F__law_clamp fun _ _ _ _ _ _ us hl => match us, hl with | [_, _, _], _ => rfl
  obtain ⟨fd__law_lowest, F__law_lowest⟩ := c.def_ 17 (d := d__law_lowest) rfl
  have b__law_lowest : Binds K fd__law_lowest [] [] := FunD.bindsN F__law_lowest fun _ _ _ _ _ _ us hl => match us, hl with | [], _ => rfl
  obtain ⟨fd__law_highest, F__law_highest⟩ := c.def_ 18 (d := d__law_highest) rfl
  have b__law_highest : Binds K fd__law_highest [] [] := FunD.bindsN F__law_highest fun _ _ _ _ _ _ us hl => match us, hl with | [], _ => rfl
  obtain ⟨fd__law_figure, F__law_figure⟩ := c.def_ 19 (d := d__law_figure) rfl
  have b__law_figure : Binds K fd__law_figure ["_law_store_here"] [] := FunD.bindsN F__law_figure fun _ _ _ _ _ _ us hl => match us, hl with | [_], _ => rfl
  obtain ⟨fd__law_long_figure, F__law_long_figure⟩ := c.def_ 20 (d := d__law_long_figure) rfl
  have b__law_long_figure : Binds K fd__law_long_figure ["_law_store_here"] [] := FunD.bindsN F__law_long_figure fun _ _ _ _ _ _ us hl => match us, hl with | [_], _ => rfl
  obtain ⟨fd__law_token, F__law_token⟩ := c.def_ 21 (d := d__law_token) rfl
  have b__law_token : Binds K fd__law_token ["_law_store_here"] [] := FunD.bindsN F__law_token fun _ _ _ _ _ _ us hl => match us, hl with | [_], _ => rfl
  obtain ⟨fd__law_spot, F__law_spot⟩ := c.def_ 22 (d := d__law_spot) rfl
  have b__law_spot : Binds K fd__law_spot ["_law_text"] [] := FunD.bindsN F__law_spot fun _ _ _ _ _ _ us hl => match us, hl with | [_], _ => rfl
  obtain ⟨fd__law_gap, F__law_gap⟩ := c.def_ 23 (d := d__law_gap) rfl
  have b__law_gap : Binds K fd__law_gap ["_law_store_here", "_law_tight"] [] := FunD.bindsN F__law_gap fun _ _ _ _ _ _ us hl => match us, hl with | [_, _], _ => rfl
  obtain ⟨fd__law_laid, F__law_laid⟩ := c.def_ 24 (d := d__law_laid) rfl
  have b__law_laid : Binds K fd__law_laid ["_law_store_here", "_law_words", "_law_plain"] [] := FunD.bindsN F__law_laid fun _ _ _ _ _ _ us hl => match us, hl with | [_, _, _], _ => rfl
  obtain ⟨fd__law_bad_token, F__law_bad_token⟩ := c.def_ 25 (d := d__law_bad_token) rfl
  have b__law_bad_token : Binds K fd__law_bad_token ["_law_store_here"] [] := FunD.bindsN F__law_bad_token fun _ _ _ _ _ _ us hl => match us, hl with | [_], _ => rfl
  obtain ⟨fd__law_spoilt_text, F__law_spoilt_text⟩ := c.def_ 26 (d := d__law_spoilt_text) rfl
  have b__law_spoilt_text : Binds K fd__law_spoilt_text ["_law_store_here", "_law_words"] [] := FunD.bindsN F__law_spoilt_text fun _ _ _ _ _ _ us hl => match us, hl with | [_, _], _ => rfl
  obtain ⟨fd__law_case, F__law_case⟩ := c.def_ 27 (d := d__law_case) rfl
  have b__law_case : Binds K fd__law_case ["_law_store_here"] [] := FunD.bindsN F__law_case fun _ _ _ _ _ _ us hl => match us, hl with | [_], _ => rfl
  obtain ⟨fd_run_end, F_run_end⟩ := c.def_ 28 (d := d_run_end) rfl
  have b_run_end : Binds K fd_run_end ["row", "at", "signs"] [] := FunD.bindsN F_run_end fun _ _ _ _ _ _ us hl => match us, hl with | [_, _, _], _ => rfl
  obtain ⟨fd_is_figure, F_is_figure⟩ := c.def_ 29 (d := d_is_figure) rfl
  have b_is_figure : Binds K fd_is_figure ["row", "at"] [] := FunD.bindsN F_is_figure fun _ _ _ _ _ _ us hl => match us, hl with | [_, _], _ => rfl
  obtain ⟨fd_read_figure, F_read_figure⟩ := c.def_ 30 (d := d_read_figure) rfl
  have b_read_figure : Binds K fd_read_figure ["row", "at", "line"] [] := FunD.bindsN F_read_figure fun _ _ _ _ _ _ us hl => match us, hl with | [_, _, _], _ => rfl
  obtain ⟨fd_read_string, F_read_string⟩ := c.def_ 31 (d := d_read_string) rfl
  have b_read_string : Binds K fd_read_string ["row", "at", "line"] [] := FunD.bindsN F_read_string fun _ _ _ _ _ _ us hl => match us, hl with | [_, _, _], _ => rfl
  obtain ⟨fd_read_quoted, F_read_quoted⟩ := c.def_ 32 (d := d_read_quoted) rfl
  have b_read_quoted : Binds K fd_read_quoted ["row", "at", "line"] [] := FunD.bindsN F_read_quoted fun _ _ _ _ _ _ us hl => match us, hl with | [_, _, _], _ => rfl
  obtain ⟨fd_read_token, F_read_token⟩ := c.def_ 33 (d := d_read_token) rfl
  have b_read_token : Binds K fd_read_token ["row", "at", "line"] [] := FunD.bindsN F_read_token fun _ _ _ _ _ _ us hl => match us, hl with | [_, _, _], _ => rfl
  obtain ⟨fd_line_tokens, F_line_tokens⟩ := c.def_ 34 (d := d_line_tokens) rfl
  have b_line_tokens : Binds K fd_line_tokens ["row", "line"] [] := FunD.bindsN F_line_tokens fun _ _ _ _ _ _ us hl => match us, hl with | [_, _], _ => rfl
  obtain ⟨fd_tokens, F_tokens⟩ := c.def_ 35 (d := d_tokens) rfl
  have b_tokens : Binds K fd_tokens ["text"] [] := FunD.bindsN F_tokens fun _ _ _ _ _ _ us hl => match us, hl with | [_], _ => rfl
  obtain ⟨fd_Cursor___init__, F_Cursor___init__⟩ := c.def_ 36 (d := d_Cursor___init__) rfl
  have b_Cursor___init__ : Binds K fd_Cursor___init__ ["self", "text"] [] := FunD.bindsN F_Cursor___init__ fun _ _ _ _ _ _ us hl => match us, hl with | [_, _], _ => rfl
  obtain ⟨fd_parse_schema, F_parse_schema⟩ := c.def_ 37 (d := d_parse_schema) rfl
  have b_parse_schema : Binds K fd_parse_schema ["text"] [] := FunD.bindsN F_parse_schema fun _ _ _ _ _ _ us hl => match us, hl with | [_], _ => rfl
  obtain ⟨fd__law_place, F__law_place⟩ := c.def_ 38 (d := d__law_place) rfl
  have b__law_place : Binds K fd__law_place ["_law_text", "_law_whole"] [] := FunD.bindsN F__law_place fun _ _ _ _ _ _ us hl => match us, hl with | [_, _], _ => rfl
  obtain ⟨fd_law, F_law⟩ := c.def_ 39 (d := d_law) rfl
  have b_law : Binds K fd_law ["_law_script"] [] := FunD.bindsN F_law fun _ _ _ _ _ _ us hl => match us, hl with | [_], _ => rfl
  have hsup : mg "super" = none := He.free_ok X G (c.fact 65 (f := .free "super") rfl)
  have q_Refused := fun (w : World) (base : Heap) => xc_fN (P := P) (w := w) (base := base) (d := dx_Refused) (Wp := W1) X G (c.xc 0 (d := dx_Refused) rfl).1 (c.xc 0 (d := dx_Refused) rfl).2 scx_Refused rfl hsup (fun _ => rfl) (fun _ => rfl) (fun _ => rfl) (fun f cda cc A outer s H E hr0 => pa_cons (pe_joined (.cons pe_str (.cons (pe_fmt (pe_var (i := 1) (by rfl) (.inl rfl))) .nil))) pa_nil) (fun a ws H hl hw => xj_int (by decide +kernel) a ws H hw) (fun f cda cc A outer s H E => pss_one (ps_ost (pe_var (i := 0) (by rfl) (.inl rfl)) (pe_var (i := 1) (by rfl) (.inl rfl)) rfl)) (fun ox pl a ws H Q hl ha hq => xr_one ox pl a ws H Q hl ha hq) (fun _ _ _ _ _ _ _ us hl => match us, hl with | [_, _], _ => rfl)
  have q_Unfit := fun (w : World) (base : Heap) => xc_fN (P := P) (w := w) (base := base) (d := dx_Unfit) (Wp := W1) X G (c.xc 1 (d := dx_Unfit) rfl).1 (c.xc 1 (d := dx_Unfit) rfl).2 scx_Unfit rfl hsup (fun _ => rfl) (fun _ => rfl) (fun _ => rfl) (fun f cda cc A outer s H E hr0 => pa_cons (pe_joined (.cons pe_str (.cons (pe_fmtR (pe_var (i := 1) (by rfl) (.inl rfl))) .nil))) pa_nil) (fun a ws H hl hw => xj_intR (by decide +kernel) a ws H hw) (fun f cda cc A outer s H E => pss_one (ps_ost (pe_var (i := 0) (by rfl) (.inl rfl)) (pe_var (i := 1) (by rfl) (.inl rfl)) rfl)) (fun ox pl a ws H Q hl ha hq => xr_one ox pl a ws H Q hl ha hq) (fun _ _ _ _ _ _ _ us hl => match us, hl with | [_, _], _ => rfl)
  have q_Unread := fun (w : World) (base : Heap) => xc_fN (P := P) (w := w) (base := base) (d := dx_Unread) (Wp := W2) X G (c.xc 2 (d := dx_Unread) rfl).1 (c.xc 2 (d := dx_Unread) rfl).2 scx_Unread rfl hsup (fun _ => rfl) (fun _ => rfl) (fun _ => rfl) (fun f cda cc A outer s H E hr0 => pa_cons (pe_joined (.cons pe_str (.cons (pe_fmt (pe_var (i := 1) (by rfl) (.inl rfl))) (.cons pe_str (.cons (pe_fmt (pe_var (i := 2) (by rfl) (.inl rfl))) .nil))))) pa_nil) (fun a ws H hl hw => xj_intB (by decide +kernel) (by decide +kernel) a ws H hw) (fun f cda cc A outer s H E => pss_cons (ps_ost (pe_var (i := 0) (by rfl) (.inl rfl)) (pe_var (i := 1) (by rfl) (.inl rfl)) rfl) (pss_one (ps_ost (pe_var (i := 0) (by rfl) (.inl rfl)) (pe_var (i := 2) (by rfl) (.inl rfl)) rfl))) (fun ox pl a ws H Q hl ha hq => xr_two ox pl a ws H Q hl ha hq) (fun _ _ _ _ _ _ _ us hl => match us, hl with | [_, _, _], _ => rfl)
  have p_Refused := xc_p (d := dx_Refused) (c.xc 0 (d := dx_Refused) rfl).1 (c.xc 0 (d := dx_Refused) rfl).2
  have p_Unfit := xc_p (d := dx_Unfit) (c.xc 1 (d := dx_Unfit) rfl).1 (c.xc 1 (d := dx_Unfit) rfl).2
  have p_Unread := xc_p (d := dx_Unread) (c.xc 2 (d := dx_Unread) rfl).1 (c.xc 2 (d := dx_Unread) rfl).2
  have p_Unresolved := xc_p (d := dx_Unresolved) (c.xc 3 (d := dx_Unresolved) rfl).1 (c.xc 3 (d := dx_Unresolved) rfl).2
  have hxf_column : ∀ z ∈ (["Unread"] : List Str), XfC K (He.ga K z) ∧ PySem.W.findIn K (.ref (He.ga K z)) "column" = some none := fun z hz => by
    simp only [List.mem_cons, List.not_mem_nil, or_false] at hz
    rcases hz with rfl
    · exact ⟨p_Unread.1.1, p_Unread.1.2 _ (by simp [dx_Unread])⟩
  have hxf_line : ∀ z ∈ (["Unread"] : List Str), XfC K (He.ga K z) ∧ PySem.W.findIn K (.ref (He.ga K z)) "line" = some none := fun z hz => by
    simp only [List.mem_cons, List.not_mem_nil, or_false] at hz
    rcases hz with rfl
    · exact ⟨p_Unread.1.1, p_Unread.1.2 _ (by simp [dx_Unread])⟩
  have hx_2 : ∀ z b, t_2.lookup z = some b → L2.ExcC K (He.ga K z) := fun z b e => by
    have m := mem_look e
    simp only [t_2, List.mem_cons, Prod.mk.injEq, List.not_mem_nil, or_false] at m
    rcases m with ⟨rfl, _⟩ | ⟨rfl, _⟩ | ⟨rfl, _⟩ | ⟨rfl, _⟩
    · exact p_Refused.2
    · exact p_Unfit.2
    · exact p_Unread.2
    · exact p_Unresolved.2
  have hx_3 : ∀ z b, t_3.lookup z = some b → L2.ExcC K (He.ga K z) := fun z b e => by
    have m := mem_look e
    simp only [t_3, List.mem_cons, Prod.mk.injEq, List.not_mem_nil, or_false] at m
    rcases m with ⟨rfl, _⟩ | ⟨rfl, _⟩ | ⟨rfl, _⟩ | ⟨rfl, _⟩
    · exact p_Refused.2
    · exact p_Unfit.2
    · exact p_Unread.2
    · exact p_Unresolved.2
  have hx_4 : ∀ z b, t_4.lookup z = some b → L2.ExcC K (He.ga K z) := fun z b e => by
    have m := mem_look e
    simp only [t_4, List.mem_cons, Prod.mk.injEq, List.not_mem_nil, or_false] at m
    rcases m with ⟨rfl, _⟩ | ⟨rfl, _⟩ | ⟨rfl, _⟩ | ⟨rfl, _⟩
    · exact p_Refused.2
    · exact p_Unfit.2
    · exact p_Unread.2
    · exact p_Unresolved.2
  exact ⟨⟨_, fd__law_mix, F__law_mix, He.glo_ok X G (c.fact 0 (f := .glo "_law_mix") rfl), b__law_mix, _, fd__law_store, F__law_store, He.glo_ok X G (c.fact 1 (f := .glo "_law_store") rfl), b__law_store, _, fd__law_equal, F__law_equal, He.glo_ok X G (c.fact 2 (f := .glo "_law_equal") rfl), b__law_equal, _, fd__law_take, F__law_take, He.glo_ok X G (c.fact 3 (f := .glo "_law_take") rfl), b__law_take, _, fd__law_pick, F__law_pick, He.glo_ok X G (c.fact 4 (f := .glo "_law_pick") rfl), b__law_pick, _, fd__law_reserved, F__law_reserved, He.glo_ok X G (c.fact 5 (f := .glo "_law_reserved") rfl), b__law_reserved, _, fd__law_name, F__law_name, He.glo_ok X G (c.fact 6 (f := .glo "_law_name") rfl), b__law_name, _, fd__law_span, F__law_span, He.glo_ok X G (c.fact 7 (f := .glo "_law_span") rfl), b__law_span, _, fd__law_count, F__law_count, He.glo_ok X G (c.fact 8 (f := .glo "_law_count") rfl), b__law_count, _, fd__law_octet, F__law_octet, He.glo_ok X G (c.fact 9 (f := .glo "_law_octet") rfl), b__law_octet, _, fd__law_octet_row, F__law_octet_row, He.glo_ok X G (c.fact 10 (f := .glo "_law_octet_row") rfl), b__law_octet_row, _, fd__law_big, F__law_big, He.glo_ok X G (c.fact 11 (f := .glo "_law_big") rfl), b__law_big, _, fd__law_chars, F__law_chars, He.glo_ok X G (c.fact 12 (f := .glo "_law_chars") rfl), b__law_chars, _, fd__law_string, F__law_string, He.glo_ok X G (c.fact 13 (f := .glo "_law_string") rfl), b__law_string, _, fd__law_hex, F__law_hex, He.glo_ok X G (c.fact 14 (f := .glo "_law_hex") rfl), b__law_hex, _, fd__law_power, F__law_power, He.glo_ok X G (c.fact 15 (f := .glo "_law_power") rfl), b__law_power, _, fd__law_clamp, F__law_clamp, He.glo_ok X G (c.fact 16 (f := .glo "_law_clamp") rfl), b__law_clamp, _, fd__law_lowest, F__law_lowest, He.glo_ok X G (c.fact 17 (f := .glo "_law_lowest") rfl), b__law_lowest, _, fd__law_highest, F__law_highest, He.glo_ok X G (c.fact 18 (f := .glo "_law_highest") rfl), b__law_highest, _, fd__law_figure, F__law_figure, He.glo_ok X G (c.fact 19 (f := .glo "_law_figure") rfl), b__law_figure, _, fd__law_long_figure, F__law_long_figure, He.glo_ok X G (c.fact 20 (f := .glo "_law_long_figure") rfl), b__law_long_figure, _, fd__law_token, F__law_token, He.glo_ok X G (c.fact 21 (f := .glo "_law_token") rfl), b__law_token, _, fd__law_spot, F__law_spot, He.glo_ok X G (c.fact 22 (f := .glo "_law_spot") rfl), b__law_spot, _, fd__law_gap, F__law_gap, He.glo_ok X G (c.fact 23 (f := .glo "_law_gap") rfl), b__law_gap, _, fd__law_laid, F__law_laid, He.glo_ok X G (c.fact 24 (f := .glo "_law_laid") rfl), b__law_laid, _, fd__law_bad_token, F__law_bad_token, He.glo_ok X G (c.fact 25 (f := .glo "_law_bad_token") rfl), b__law_bad_token, _, fd__law_spoilt_text, F__law_spoilt_text, He.glo_ok X G (c.fact 26 (f := .glo "_law_spoilt_text") rfl), b__law_spoilt_text, _, fd__law_case, F__law_case, He.glo_ok X G (c.fact 27 (f := .glo "_law_case") rfl), b__law_case, _, fd_run_end, F_run_end, He.glo_ok X G (c.fact 28 (f := .glo "run_end") rfl), b_run_end, _, fd_is_figure, F_is_figure, He.glo_ok X G (c.fact 29 (f := .glo "is_figure") rfl), b_is_figure, _, fd_read_figure, F_read_figure, He.glo_ok X G (c.fact 30 (f := .glo "read_figure") rfl), b_read_figure, _, fd_read_string, F_read_string, He.glo_ok X G (c.fact 31 (f := .glo "read_string") rfl), b_read_string, _, fd_read_quoted, F_read_quoted, He.glo_ok X G (c.fact 32 (f := .glo "read_quoted") rfl), b_read_quoted, _, fd_read_token, F_read_token, He.glo_ok X G (c.fact 33 (f := .glo "read_token") rfl), b_read_token, _, fd_line_tokens, F_line_tokens, He.glo_ok X G (c.fact 34 (f := .glo "line_tokens") rfl), b_line_tokens, _, fd_tokens, F_tokens, He.glo_ok X G (c.fact 35 (f := .glo "tokens") rfl), b_tokens, _, fd_Cursor___init__, F_Cursor___init__, b_Cursor___init__, _, fd_parse_schema, F_parse_schema, He.glo_ok X G (c.fact 36 (f := .glo "parse_schema") rfl), b_parse_schema, _, fd__law_place, F__law_place, He.glo_ok X G (c.fact 37 (f := .glo "_law_place") rfl), b__law_place, _, fd_law, F_law, He.glo_ok X G (c.fact 38 (f := .glo "law") rfl), b_law, He.glo_ok X G (c.fact 39 (f := .glo "Cursor") rfl), He.mkr_ok (c.fact 40 (f := .mkr "Cursor") rfl), He.cls_ok (c.fact 41 (f := .cls "Cursor") rfl), He.noat_ok (c.fact 42 (f := .noat "Cursor" "token_row") rfl), He.noat_ok (c.fact 43 (f := .noat "Cursor" "token_at") rfl), He.free_ok X G (c.fact 44 (f := .free "len") rfl), He.free_ok X G (c.fact 45 (f := .free "int") rfl), He.free_ok X G (c.fact 46 (f := .free "range") rfl), He.free_ok X G (c.fact 47 (f := .free "tuple") rfl), He.free_ok X G (c.fact 48 (f := .free "enumerate") rfl), He.free_ok X G (c.fact 49 (f := .free "list") rfl), He.free_ok X G (c.fact 50 (f := .free "abs") rfl), He.free_ok X G (c.fact 51 (f := .free "isinstance") rfl), He.free_ok X G (c.fact 52 (f := .free "bool") rfl), He.free_ok X G (c.fact 53 (f := .free "str") rfl), He.free_ok X G (c.fact 54 (f := .free "max") rfl), He.free_ok X G (c.fact 55 (f := .free "min") rfl), He.str_ok X G (c.fact 56 (f := .str "DIGITS" "0123456789") rfl), He.int_ok X G (c.fact 57 (f := .int "FIGURE_MOST" (60)) rfl), He.str_ok X G (c.fact 58 (f := .str "LETTERS" "abcdefghijklmnopqrstuvwxyzABCDEFGHIJKLMNOPQRSTUVWXYZ") rfl), He.str_ok X G (c.fact 59 (f := .str "HEX" "0123456789abcdef") rfl), v_MARKS, h_MARKS, fun w base => q_Refused w base, fun w base => q_Unfit w base, fun w base => q_Unread w base, He.glo_ok X G (c.fact 60 (f := .glo "TagoctetsError") rfl), He.glo_ok X G (c.fact 61 (f := .glo "Unresolved") rfl), He.glo_ok X G (c.fact 62 (f := .glo "Refused") rfl), He.glo_ok X G (c.fact 63 (f := .glo "Unfit") rfl), He.glo_ok X G (c.fact 64 (f := .glo "Unread") rfl), hxf_column, hxf_line, exT_ok (c.test 0 (b := exT "TagoctetsError" t_0) rfl), exT_ok (c.test 1 (b := exT "Unread" t_1) rfl), isT_ok (cs := [.own "Unresolved"]) (c.test 2 (b := isT [.own "Unresolved"] t_2) rfl) hx_2, isT_ok (cs := [.own "Refused"]) (c.test 3 (b := isT [.own "Refused"] t_3) rfl) hx_3, isT_ok (cs := [.own "Unfit"]) (c.test 4 (b := isT [.own "Unfit"] t_4) rfl) hx_4⟩, trivial⟩
end Qk35
set_option Elab.async false
set_option linter.all false
set_option maxRecDepth 100000
set_option maxHeartbeats 1000000
namespace Mp
open PySem PySem.Spec PyProof.Rows L2 Pl
def digC (c : Nat) : Bool := decide (48 ≤ c) && decide (c ≤ 57)
end Mp
set_option Elab.async false
set_option linter.all false
set_option maxRecDepth 100000
set_option maxHeartbeats 4000000
namespace Mp
open PySem PySem.Spec PyProof.Rows L2 PySem.Calls
section
variable {prog : Program} {w : World} {A : Around} {E : Value → Shared → Prop} {s : Shared} {a kS : Addr} {b : Bool} {vs : List Value} {e1 : Nat} {P : PySem.Fin → Shared → Prop} {kz : List PyData} {f : Value}
end
end Mp
set_option Elab.async false
set_option linter.all false
set_option maxRecDepth 100000
set_option maxHeartbeats 4000000
namespace Mp
open PySem PySem.Spec PyProof.Rows L2 PySem.Calls
def FpC (X : Cx) (pins : List (Addr × Obj)) (b : Addr) : Prop := b ≠ X.env.locals ∧ b ∉ X.fs ∧ (b ∈ X.ex ∨ X.s_0.heap.objs.size ≤ b) ∧ (∀ (x : Str) (c : Addr), List.lookup x X.env.cells = some c → c ≠ b) ∧ ∀ p ∈ X.pn ++ pins, p.1 ≠ b
theorem FpC.ok {X : Cx} {pins : List (Addr × Obj)} {b : Addr} {H : Hp} (h : FpC X pins b) (hb : H b = none) : FpOk X pins H b := ⟨hb, h.1, h.2.1, h.2.2.1, h.2.2.2.1, h.2.2.2.2⟩
theorem FpC.of {X : Cx} {pins : List (Addr × Obj)} {b : Addr} {H : Hp} (h : FpOk X pins H b) : FpC X pins b := ⟨h.2.1, h.2.2.1, h.2.2.2.1, h.2.2.2.2.1, h.2.2.2.2.2⟩
end Mp
set_option Elab.async false
set_option linter.all false
set_option maxRecDepth 100000
set_option maxHeartbeats 4000000
namespace Mp
open PySem PySem.Spec PyProof.Rows L2 PySem.Calls LamX
end Mp
set_option Elab.async false
set_option linter.all false
set_option maxRecDepth 100000
set_option maxHeartbeats 4000000
namespace Mp
open PySem PySem.Spec PyProof.Rows L2 PySem.Calls LamX
section
variable {X : Cx} {pins : List (Addr × Obj)} {σ : L2.St} {H : Hp} {s : Shared}
end
end Mp
set_option Elab.async false
set_option linter.all false
set_option maxRecDepth 100000
set_option maxHeartbeats 4000000
namespace Mp
open PySem PySem.Spec PyProof.Rows L2 LamX
end Mp
set_option Elab.async false
set_option linter.all false
set_option maxRecDepth 100000
set_option maxHeartbeats 4000000
namespace Mp
open PySem PySem.Spec PyProof.Rows L2 LamX
section
variable {hp : List O} {env : List (Option S)} {n : Nat} {R : S → List O → Prop} {Xp : MX} {Ma Mb : ME} {f : Str} {ti nN : Nat} {js : List Nat}
end
end Mp
set_option Elab.async false
set_option linter.all false
set_option maxRecDepth 100000
set_option maxHeartbeats 4000000
namespace Mp
open PySem PySem.Spec PyProof.Rows L2
end Mp
set_option Elab.async false
set_option linter.all false
set_option maxRecDepth 100000
set_option maxHeartbeats 4000000
namespace Mp
open PySem PySem.Spec PyProof.Rows L2
end Mp
set_option Elab.async false
set_option linter.all false
set_option maxRecDepth 100000
set_option maxHeartbeats 4000000
namespace Mp
open PySem PySem.Spec PyProof.Rows L2
structure SaysQ (fa : List He.Fa) (fn : List He.DefD) (tf : List He.Defn) (h : Heap) (K : Frag) : Prop where
  d : He.SaysD fa fn K
  hd : ∀ p ∈ tf, PySem.W.codeHdIn K (He.cT K p).1 (He.cT K p).2 = true
  out : ∀ p ∈ tf, K.lookup (He.cT K p).2 = none
  empty : ∀ p ∈ tf, h.get? (He.cT K p).2 = some { cls := .none, data := .fields #[] }
end Mp
set_option Elab.async false
set_option linter.all false
set_option maxRecDepth 100000
set_option maxHeartbeats 4000000
namespace Mp
open PySem PySem.Spec PyProof.Rows L2
structure FnG (P : Program) (w : World) (K : Frag) (mg : Str → Option Value) (base : Heap) (CX : CXT) (k : Nat) (f : Addr) (fd : FuncData) (ps : List Str) (sp : Sp) : Prop where
  len : ∀ xs G Z Y, sp xs G Z Y → xs.length = ps.length
  go : ∀ {A : Around} {fs : List Env} {st : Shared} {G : Hp} {as : Args} {ys : List Value} {xs : List V} {Z : VK} {Y : XK}, A.guards = some [] → Room k A → Env0 P w K mg base A fs st G → BindsTo st fd as (ps.zip ys) → Vals xs ys → sp xs G Z Y →
    codeAny (model P w) A (.call (.ref f) as) (CR CX fs P w G st Z Y) st
section
variable {P : Program} {w : World} {K : Frag} {mg : Str → Option Value} {base : Heap} {CX : CXT} {k : Nat} {f : Addr} {fd : FuncData} {ps : List Str} {sp : Sp}
theorem FnG.of (F : FnOk P w K mg base CX k f fd ps sp) : FnG P w K mg base CX k f fd ps sp := ⟨F.len, fun _ h1 h2 h3 h4 h5 => F.run _ _ _ _ _ _ _ _ _ h1 h2 h3 h4 h5⟩
theorem FnG.mono {j : Nat} (F : FnG P w K mg base CX j f fd ps sp) (h : j ≤ k) : FnG P w K mg base CX k f fd ps sp := ⟨F.len, fun g h1 h2 h3 h4 h5 => F.go g (h1.mono h) h2 h3 h4 h5⟩
variable {nm qual : Str} {params : Arguments} {body : List Stmt} {scope : Scope} {dvs : List V} {kws : List (Str × V)} {N : List Str}
end
section
variable {X : Cx} {W : WX} {e : Expr} {es : List Expr} {tA : TA} {MA' : MA} {pos : Pos} {CX : CXT} {k : Nat} {f : Addr} {fd : FuncData} {ps : List Str} {sp : Sp} {dvs : List V} {ds : List Value} {E : L2.St → XK} {x : Str} {p : Pos}
end
end Mp
set_option Elab.async false
set_option linter.all false
set_option maxRecDepth 100000
set_option maxHeartbeats 4000000
namespace Mp
open PySem PySem.Spec PyProof.Rows L2
end Mp
set_option Elab.async false
set_option linter.all false
set_option maxRecDepth 100000
set_option maxHeartbeats 4000000
namespace Mp
open PySem PySem.Spec PyProof.Rows L2 Pl
mutual
def D.sz : D → Nat
  | .non => 4
  | .bl _ => 5
  | .int _ => 1921
  | .str x => 10 * x.length + 2
  | .ty _ => 0
  | .obj _ _ _ => 0
  | .tup ds => D.szL ds + 4
  | .lst ds => D.szL ds + 4
  | .fl ds => D.szL ds + 4
def D.szL : List D → Nat
  | [] => 0
  | d :: ds => D.sz d + 2 + D.szL ds
end
def gD : Nat → D → Bool
  | 0, _ => false
  | _ + 1, .int i => decide (i.natAbs.log2 < 1920)
  | _ + 1, .bl _ => true
  | _ + 1, .str x => PyData.strOk x
  | _ + 1, .non => true
  | k + 1, .tup ds => decide (ds.length ≤ 1000000) && ds.all (gD k)
  | k + 1, .lst ds => decide (ds.length ≤ 1000000) && ds.all (gD k)
  | k + 1, .fl ds => decide (ds.length ≤ 1000000) && ds.all (gD k)
  | _ + 1, .ty _ => false
  | _ + 1, .obj _ _ _ => false
theorem gD.mono : ∀ {k m : Nat} {d : D}, gD k d = true → k ≤ m → gD m d = true
  | 0, _, _, h, _ => by cases h
  | k + 1, 0, _, _, h => by omega
  | k + 1, m + 1, d, h, hm => by
    have many : ∀ {xs : List D}, (decide (xs.length ≤ 1000000) && xs.all (gD k)) = true → (decide (xs.length ≤ 1000000) && xs.all (gD m)) = true := fun {xs} z => by
      obtain ⟨a, b⟩ := He.ba z
      rw [a, Bool.true_and]
      exact List.all_eq_true.mpr fun x hx => gD.mono (List.all_eq_true.mp b x hx) (by omega)
    cases d with
    | tup xs => exact many h
    | lst xs => exact many h
    | fl xs => exact many h
    | _ => exact h
structure Shows (k : Nat) (d : D) : Prop where
  lay : d.py.canLay0 = true
  dep : d.py.depth ≤ k
  sho : d.py.showable = true
  len : d.py.shown.length ≤ d.sz
end Mp
set_option Elab.async false
set_option linter.all false
set_option maxRecDepth 100000
set_option maxHeartbeats 400000
namespace Mp
open PySem PySem.Spec PyProof.Rows L2
theorem chars_inj : ∀ {xs ys : List Char}, xs.map Char.toNat = ys.map Char.toNat → xs = ys
  | [], [], _ => rfl
  | [], _ :: _, h => by cases h
  | _ :: _, [], h => by cases h
  | x :: xs, y :: ys, h => by
    simp only [List.map_cons, List.cons.injEq] at h
    rw [chars_inj h.2, Char.toNat_inj.mp h.1]
theorem ofS_inj {a b : String} : Str.ofString a = Str.ofString b ↔ a = b := by
  constructor
  · intro h
    rw [Str.ofString_eq_toList, Str.ofString_eq_toList] at h
    have h1 := congrArg (fun z : Str => z.cps.toList) h
    simp only at h1
    exact String.ext (chars_inj h1)
  · intro h; rw [h]
@[simp] theorem ofS_beq {a b : String} : (Str.ofString a == Str.ofString b) = decide (a = b) := by
  by_cases h : a = b
  · subst h; simp
  · simp [h, ofS_inj]
theorem shD_s {s : Str} : shD (.str s) = PyData.strOk s := by simp [shD, SeqAt.shaped, D.py, PyData.canLay0, PyData.depth]
@[simp] theorem ofS_ok {a : String} : PyData.strOk (Str.ofString a) = true := by
  rw [Str.ofString_eq_toList]
  simp only [PyData.strOk, List.all_toArray, List.all_map, List.all_eq_true]
  intro c _
  have := c.valid
  simp only [Function.comp, decide_eq_true_eq]
  rcases this with h | h
  · show c.val.toNat < _; omega
  · show c.val.toNat < _; omega
@[simp] theorem shD_str {a : String} : shD (.str (Str.ofString a)) = true := by rw [shD_s]; exact ofS_ok
@[simp] theorem isNon_non : isNon .non = true := rfl
@[simp] theorem isNon_tup {x : List D} : isNon (.tup x) = false := rfl
@[simp] theorem isNon_lst {x : List D} : isNon (.lst x) = false := rfl
@[simp] theorem isNon_int {x : Int} : isNon (.int x) = false := rfl
@[simp] theorem isNon_str {x : Str} : isNon (.str x) = false := rfl
@[simp] theorem isNon_bl {x : Bool} : isNon (.bl x) = false := rfl
@[simp] theorem eqF_str {a b : Str} : eqF (.str a) (.str b) = (a == b) := rfl
@[simp] theorem eqF_int {a b : Int} : eqF (.int a) (.int b) = (a == b) := rfl
end Mp
namespace Tb
open PySem PySem.Spec PyProof.Rows L2 Mp Pl
abbrev T2 := Int × Int
structure Prt where
  nm : Str
  ix : Nat
  w : Str
  df : D
inductive UK | boolean | nothing
inductive SK | bits | octets | path
inductive RK | sequence | set
inductive WK | row | bag
def UK.s : UK → Str | .boolean => "boolean" | .nothing => "nothing"
def SK.s : SK → Str | .bits => "bits" | .octets => "octets" | .path => "path"
def RK.s : RK → Str | .sequence => "sequence" | .set => "set"
def WK.s : WK → Str | .row => "row" | .bag => "bag"
inductive Nod where
  | un (k : UK) (t : T2)
  | nu (t : T2) (rs : List (Int × Int))
  | na (t : T2) (root : List (Str × Int)) (added : Option (List (Str × Int)))
  | si (k : SK) (t : T2) (sz : List (Int × Int))
  | te (t : T2) (ls : Str) (sz : List (Int × Int))
  | rc (k : RK) (t : T2) (ps : List Prt) (gs : Option (List (List Prt)))
  | rw (k : WK) (t : T2) (e : Nat) (sz : List (Int × Int))
  | ch (as : List (Str × Nat)) (ad : Option (List (Str × Nat)))
  | wr (t : T2) (e : Nat)
def allP (ps : List Prt) (gs : Option (List (List Prt))) : List Prt := ps ++ (gs.getD []).flatten
def refs : Nod → List Nat
  | .rc _ _ ps gs => (allP ps gs).map (·.ix)
  | .rw _ _ e _ => [e]
  | .ch as ad => (as ++ ad.getD []).map (·.2)
  | .wr _ e => [e]
  | _ => []
def tg : Nod → Option T2
  | .un _ t => some t
  | .nu t _ => some t
  | .na t _ _ => some t
  | .si _ t _ => some t
  | .te t _ _ => some t
  | .rc _ t _ _ => some t
  | .rw _ t _ _ => some t
  | .ch _ _ => none
  | .wr t _ => some t
def small : Nod → Prop
  | .rc _ _ ps gs => ps.length ≤ 1000 ∧ (gs.getD []).length ≤ 1000 ∧ (allP ps gs).length ≤ 1000
  | .ch as ad => (as ++ ad.getD []).length ≤ 1000
  | _ => True
structure NodOk (n : Nat) (x : Nod) : Prop where
  ref : ∀ i ∈ refs x, i < n
  tag : ∀ t, tg x = some t → (0 ≤ t.1 ∧ t.1 ≤ 3) ∧ 0 ≤ t.2 ∧ t.2 ≤ 16383
  sm : small x
section
variable {hp : List O} {i n : Nat} {o : O} {R : S → List O → Prop} {Xp : MX} {T : List Nod}
end
end Tb
set_option Elab.async false
set_option linter.all false
set_option maxRecDepth 100000
set_option maxHeartbeats 4000000
namespace Pl
open PySem PySem.Spec PyProof.Rows L2 Mp
end Pl
set_option Elab.async false
set_option linter.all false
set_option maxRecDepth 100000
set_option maxHeartbeats 400000
namespace Tb
open PySem PySem.Spec PyProof.Rows L2 Mp Pl
inductive Rch (nx : Nat → List Nat) (st : List Nat) : Nat → Prop
  | base {s : Nat} (h : s ∈ st) : Rch nx st s
  | step {x y : Nat} (h : Rch nx st x) (g : y ∈ nx x) : Rch nx st y
structure Dfs (nx : Nat → List Nat) (st : List Nat) (n : Nat) (W : List Nat) (M : List Bool) : Prop where
  len : M.length = n
  wlt : ∀ x ∈ W, x < n
  wr : ∀ x ∈ W, Rch nx st x
  mr : ∀ x, M[x]? = some true → Rch nx st x
  st : ∀ s ∈ st, s ∈ W ∨ M[s]? = some true
  cl : ∀ x, M[x]? = some true → ∀ y ∈ nx x, y ∈ W ∨ M[y]? = some true
section
variable {nx : Nat → List Nat} {st : List Nat} {n : Nat} {W : List Nat} {M : List Bool} {a : Nat}
theorem Dfs.start (h : ∀ s ∈ st, s < n) : Dfs nx st n st (List.replicate n false) where
  len := List.length_replicate ..
  wlt := h
  wr := fun x hx => .base hx
  mr := fun x hx => by
    rw [List.getElem?_replicate] at hx
    split at hx <;> simp at hx
  st := fun s hs => .inl hs
  cl := fun x hx => by
    rw [List.getElem?_replicate] at hx
    split at hx <;> simp at hx
theorem Dfs.old (D : Dfs nx st n (W ++ [a]) M) (h : M[a]? = some true) : Dfs nx st n W M where
  len := D.len
  wlt := fun x hx => D.wlt x (List.mem_append_left _ hx)
  wr := fun x hx => D.wr x (List.mem_append_left _ hx)
  mr := D.mr
  st := fun s hs => by
    rcases D.st s hs with q | q
    · rcases List.mem_append.mp q with q | q
      · exact .inl q
      · rw [List.mem_singleton.mp q]; exact .inr h
    · exact .inr q
  cl := fun x hx y hy => by
    rcases D.cl x hx y hy with q | q
    · rcases List.mem_append.mp q with q | q
      · exact .inl q
      · rw [List.mem_singleton.mp q]; exact .inr h
    · exact .inr q
theorem set_true {x : Nat} (h : (M.set a true)[x]? = some true) : x = a ∨ M[x]? = some true := by
  by_cases e : a = x
  · exact .inl e.symm
  · rw [List.getElem?_set_ne e] at h; exact .inr h
theorem set_keep {x : Nat} (h : M[x]? = some true) : (M.set a true)[x]? = some true := by
  by_cases e : a = x
  · subst e
    rw [List.getElem?_set_self (List.getElem?_eq_some_iff.mp h).1]
  · rw [List.getElem?_set_ne e]; exact h
theorem Dfs.new (D : Dfs nx st n (W ++ [a]) M) (hn : ∀ y ∈ nx a, y < n) : Dfs nx st n (W ++ nx a) (M.set a true) := by
  have ha : a < n := D.wlt a (by simp)
  have hs : (M.set a true)[a]? = some true := by rw [List.getElem?_set_self (by rw [D.len]; exact ha)]
  have hr : Rch nx st a := D.wr a (by simp)
  refine ⟨by rw [List.length_set]; exact D.len, fun x hx => ?_, fun x hx => ?_, fun x hx => ?_, fun s hs' => ?_, fun x hx y hy => ?_⟩
  · rcases List.mem_append.mp hx with q | q
    · exact D.wlt x (List.mem_append_left _ q)
    · exact hn x q
  · rcases List.mem_append.mp hx with q | q
    · exact D.wr x (List.mem_append_left _ q)
    · exact .step hr q
  · rcases set_true hx with rfl | q
    · exact hr
    · exact D.mr x q
  · rcases D.st s hs' with q | q
    · rcases List.mem_append.mp q with q | q
      · exact .inl (List.mem_append_left _ q)
      · rw [List.mem_singleton.mp q]; exact .inr hs
    · exact .inr (set_keep q)
  · rcases set_true hx with rfl | q
    · exact .inl (List.mem_append_right _ hy)
    · rcases D.cl x q y hy with q | q
      · rcases List.mem_append.mp q with q | q
        · exact .inl (List.mem_append_left _ q)
        · rw [List.mem_singleton.mp q]; exact .inr hs
      · exact .inr (set_keep q)
theorem Dfs.fin (D : Dfs nx st n [] M) {x : Nat} : M[x]? = some true ↔ Rch nx st x := by
  refine ⟨D.mr x, fun h => ?_⟩
  induction h with
  | base h => exact (D.st _ h).elim (fun q => by cases q) id
  | step h g ih => exact (D.cl _ ih _ g).elim (fun q => by cases q) id
inductive RchN (nx : Nat → List Nat) (st : List Nat) : Nat → Nat → Prop
  | base {s d : Nat} (h : s ∈ st) : RchN nx st d s
  | step {x y d : Nat} (h : RchN nx st d x) (g : y ∈ nx x) : RchN nx st (d + 1) y
theorem RchN.mono {d e x : Nat} (h : RchN nx st d x) (le : d ≤ e) : RchN nx st e x := by
  induction h generalizing e with
  | base h => exact .base h
  | step h g ih =>
    obtain ⟨e', rfl⟩ : ∃ e', e = e' + 1 := ⟨e - 1, by omega⟩
    exact .step (ih (by omega)) g
end
section
variable {τ : Type} [DecidableEq τ]
end
theorem strict_eq {τ : Type} {lt : τ → τ → Prop} (irr : ∀ a, ¬ lt a a) (tr : ∀ a b c, lt a b → lt b c → lt a c) : ∀ {l m : List τ}, l.Pairwise lt → m.Pairwise lt → (∀ x, x ∈ l ↔ x ∈ m) → l = m
  | [], [], _, _, _ => rfl
  | [], y :: m, _, _, h => absurd ((h y).mpr (by simp)) (by simp)
  | x :: l, [], _, _, h => absurd ((h x).mp (by simp)) (by simp)
  | x :: l, y :: m, hl, hm, h => by
    obtain ⟨h1, h2⟩ := List.pairwise_cons.mp hl
    obtain ⟨h3, h4⟩ := List.pairwise_cons.mp hm
    have exy : x = y := by
      rcases List.mem_cons.mp ((h x).mp (by simp)) with q | q
      · exact q
      · rcases List.mem_cons.mp ((h y).mpr (by simp)) with r | r
        · exact r.symm
        · exact absurd (tr _ _ _ (h3 x q) (h1 y r)) (irr y)
    subst exy
    rw [strict_eq irr tr h2 h4 fun z => ?_]
    constructor
    · intro hz
      rcases List.mem_cons.mp ((h z).mp (List.mem_cons_of_mem _ hz)) with q | q
      · subst q; exact absurd (h1 z hz) (irr z)
      · exact q
    · intro hz
      rcases List.mem_cons.mp ((h z).mpr (List.mem_cons_of_mem _ hz)) with q | q
      · subst q; exact absurd (h3 z hz) (irr z)
      · exact q
def tlt (a b : T2) : Prop := a.1 < b.1 ∨ (a.1 = b.1 ∧ a.2 < b.2)
theorem tlt_irr (a : T2) : ¬ tlt a a := by unfold tlt; omega
theorem tlt_tr (a b c : T2) : tlt a b → tlt b c → tlt a c := by unfold tlt; omega
def Sd (l : List T2) : Prop := l.Pairwise tlt
theorem sd_eq {l m : List T2} (h1 : Sd l) (h2 : Sd m) (h : ∀ x, x ∈ l ↔ x ∈ m) : l = m := strict_eq tlt_irr tlt_tr h1 h2 h
end Tb
set_option Elab.async false
set_option linter.all false
set_option maxRecDepth 100000
set_option maxHeartbeats 400000
namespace Tb
open PySem PySem.Spec PyProof.Rows L2 Mp Pl
def nxC (T : List Nod) (x : Nat) : List Nat := match T[x]? with
  | some (.ch as ad) => refs (.ch as ad)
  | _ => []
def tgN (T : List Nod) (x : Nat) : Option T2 := T[x]?.bind tg
def TagsOf (T : List Nod) (st : List Nat) (l : List T2) : Prop := Sd l ∧ ∀ t, t ∈ l ↔ ∃ x, Rch (nxC T) st x ∧ tgN T x = some t
theorem TagsOf.eq {T : List Nod} {st : List Nat} {l m : List T2} (h1 : TagsOf T st l) (h2 : TagsOf T st m) : l = m := sd_eq h1.1 h2.1 fun t => (h1.2 t).trans (h2.2 t).symm
section
variable {hp : List O} {i n : Nat} {o : O} {R : S → List O → Prop} {Xp : MX} {T : List Nod}
end
end Tb
set_option Elab.async false
set_option linter.all false
set_option maxRecDepth 100000
set_option maxHeartbeats 400000
namespace Tb
open PySem PySem.Spec PyProof.Rows L2 Mp Pl
section
variable {hp : List O} {i n : Nat} {o : O} {R : S → List O → Prop} {Xp : MX} {T : List Nod}
end
end Tb
set_option Elab.async false
set_option linter.all false
set_option maxRecDepth 100000
set_option maxHeartbeats 400000
namespace Tb
open PySem PySem.Spec PyProof.Rows L2 Mp Pl
structure Apt {τ : Type} [DecidableEq τ] (f : τ → D) : Prop where
  eq : ∀ a b, eqD (f a) (f b) = decide (a = b)
  sh : ∀ a, shD (f a) = true
  al : ∀ a b, PySem.W.alike (f a).py (f b).py = true
  so : (∀ a, ∃ x r, (f a).py = .tuple (x :: r)) ∨ ∀ a, (f a).py ≠ .none ∧ ∀ xs, (f a).py ≠ .tuple xs
section
variable {τ : Type} [DecidableEq τ] {f : τ → D}
variable {hp : List O} {i n : Nat} {o : O} {R : S → List O → Prop} {Xp : MX} {T : List Nod}
end
end Tb
set_option Elab.async false
set_option linter.all false
set_option maxRecDepth 100000
set_option maxHeartbeats 400000
namespace Tb
open PySem PySem.Spec PyProof.Rows L2 Mp Pl
inductive Kd | u (k : UK) | nu | na | s (k : SK) | te | r (k : RK) | w (k : WK) | ch | wr
def Kd.str : Kd → Str
  | .u k => k.s
  | .nu => "number"
  | .na => "names"
  | .s k => k.s
  | .te => "text"
  | .r k => k.s
  | .w k => k.s
  | .ch => "choice"
  | .wr => "wrapped"
def Kd.all : List Kd := [.u .boolean, .u .nothing, .nu, .na, .s .bits, .s .octets, .s .path, .te, .r .sequence, .r .set, .w .row, .w .bag, .ch, .wr]
theorem Kd.mem (k : Kd) : k ∈ Kd.all := by
  rcases k with (_ | _) | _ | _ | (_ | _ | _) | _ | (_ | _) | (_ | _) | _ | _ <;> simp [Kd.all]
instance : DecidableEq UK := fun a b => by cases a <;> cases b <;> first | exact isTrue rfl | exact isFalse (fun h => by cases h)
instance : DecidableEq SK := fun a b => by cases a <;> cases b <;> first | exact isTrue rfl | exact isFalse (fun h => by cases h)
instance : DecidableEq RK := fun a b => by cases a <;> cases b <;> first | exact isTrue rfl | exact isFalse (fun h => by cases h)
instance : DecidableEq WK := fun a b => by cases a <;> cases b <;> first | exact isTrue rfl | exact isFalse (fun h => by cases h)
instance : DecidableEq Kd := fun a b => by
  rcases a with (_ | _) | _ | _ | (_ | _ | _) | _ | (_ | _) | (_ | _) | _ | _ <;> rcases b with (_ | _) | _ | _ | (_ | _ | _) | _ | (_ | _) | (_ | _) | _ | _ <;> first | exact isTrue rfl | exact isFalse (fun h => by cases h)
section
variable {hp : List O} {i n : Nat} {o : O} {R : S → List O → Prop} {Xp : MX} {T : List Nod}
def TagB (t : T2) : Prop := (0 ≤ t.1 ∧ t.1 ≤ 3) ∧ 0 ≤ t.2 ∧ t.2 ≤ 16383
structure TsOk (ks : List Kd) (ts : List (Option T2)) : Prop where
  len : ts.length = ks.length
  ch : ∀ k : Nat, (ks[k]? = some Kd.ch ↔ ts[k]? = some none)
  bd : ∀ (k : Nat) (t : T2), ts[k]? = some (some t) → TagB t
end
end Tb
set_option Elab.async false
set_option linter.all false
set_option maxRecDepth 100000
set_option maxHeartbeats 400000
namespace Tb
open PySem PySem.Spec PyProof.Rows L2 Mp Pl
structure SOk (s : Str) : Prop where
  ok : PyData.strOk s = true
  len : s.length ≤ 1000
theorem strOk_app {a b : Str} : PyData.strOk (a ++ b) = (PyData.strOk a && PyData.strOk b) := by
  show PyData.strOk ⟨a.cps ++ b.cps⟩ = _
  simp [PyData.strOk]
section
variable {hp : List O} {i n : Nat} {o : O} {R : S → List O → Prop} {Xp : MX} {T : List Nod}
def apart (l m : List T2) : Bool := l.all fun t => !decide (t ∈ m)
end
end Tb
set_option Elab.async false
set_option linter.all false
set_option maxRecDepth 100000
set_option maxHeartbeats 1000000
namespace Tb
open PySem PySem.Spec PyProof.Rows L2 Mp Pl TL
def mids : List (List Nat) := [[], [113], [120, 49], List.replicate 16 97]
def WdK (k : Nat) (s : Str) : Prop := ∃ c m, m ∈ mids ∧ s.cps.toList = c :: (m ++ numL k)
theorem numL_split (k : Nat) : ∃ x xs, numL k = x :: xs ∧ 48 ≤ x ∧ x ≤ 57 := by
  cases e : numL k with
  | nil => exact absurd e (numL_ne k)
  | cons x xs =>
    have := numL_digits k x (by rw [e]; simp)
    exact ⟨x, xs, rfl, this.1, this.2⟩
theorem WdK.inj {j k : Nat} {s : Str} (h : WdK j s) (g : WdK k s) : j = k := by
  obtain ⟨c, m, hm, e⟩ := h
  obtain ⟨c2, m2, hm2, e2⟩ := g
  rw [e] at e2
  obtain ⟨x, xs, q1, q2, q3⟩ := numL_split j
  obtain ⟨y, ys, p1, p2, p3⟩ := numL_split k
  have e3 : m ++ numL j = m2 ++ numL k := (List.cons.inj e2).2
  have key : numL j = numL k := by
    simp only [mids, List.mem_cons, List.not_mem_nil, or_false] at hm hm2
    rcases hm with rfl | rfl | rfl | rfl <;> rcases hm2 with rfl | rfl | rfl | rfl
    all_goals
      first
      | (simpa using e3)
      | (exfalso; rw [q1, p1] at e3; simp [List.replicate] at e3; omega)
  exact numL_inj key
theorem WdK.last {k : Nat} {s : Str} (h : WdK k s) : ∃ pre x, s.cps.toList = pre ++ [x] ∧ x ≤ 57 := by
  obtain ⟨c, m, hm, e⟩ := h
  have hne := numL_ne k
  refine ⟨c :: (m ++ (numL k).dropLast), (numL k).getLast hne, ?_, ?_⟩
  · rw [e, List.cons_append, List.append_assoc, List.dropLast_concat_getLast]
  · exact (numL_digits k _ (List.getLast_mem hne)).2
theorem WdK.ne {k : Nat} {s t : Str} (h : WdK k s) (ht : ∃ pre x, t.cps.toList = pre ++ [x] ∧ 57 < x) : s ≠ t := by
  rintro rfl
  obtain ⟨p, x, e, hx⟩ := h.last
  obtain ⟨q, y, e2, hy⟩ := ht
  rw [e] at e2
  have := congrArg List.getLast? e2
  simp at this
  omega
section
variable {hp : List O} {i n : Nat} {o : O} {R : S → List O → Prop} {Xp : MX} {T : List Nod}
def InW (i : Int) : Prop := -170141183460469231731687303715884105728 ≤ i ∧ i ≤ 170141183460469231731687303715884105727
inductive DfOk : D → Prop where
  | non : DfOk .non
  | bl (b : Bool) : DfOk (.tup [.str "boolean", .bl b])
  | nu (i : Int) (h : InW i) : DfOk (.tup [.str "number", .int i])
  | un (i : Int) (h : 5000 ≤ i ∧ i < 5050) : DfOk (.tup [.str "unnamed", .int i])
  | na (s : Str) (h : SOk s) : DfOk (.tup [.str "name", .str s])
theorem DfOk.pl {d : D} (h : DfOk d) : plD 3 d = true := by
  cases h with
  | na s h => have := h.ok; simp [plD, shD_s, this]
  | _ => simp [plD]
end
end Tb
set_option Elab.async false
set_option linter.all false
set_option maxRecDepth 100000
set_option maxHeartbeats 1000000
namespace Tb
open PySem PySem.Spec PyProof.Rows L2 Mp Pl TL
def RgOk (lo hi : Int) (rs : List (Int × Int)) : Prop := rs ≠ [] ∧ rs.length ≤ 2 ∧ (∀ p ∈ rs, lo ≤ p.1 ∧ p.1 ≤ p.2 ∧ p.2 ≤ hi) ∧ rs.Pairwise fun p q => p.2 + 2 ≤ q.1
theorem rg2 {lo hi a b c d : Int} (h1 : lo ≤ a) (h2 : a ≤ b) (h3 : b + 2 ≤ c) (h4 : c ≤ d) (h5 : d ≤ hi) : RgOk lo hi [(a, b), (c, d)] :=
  ⟨by simp, by simp, by simp; exact ⟨⟨h1, h2, by omega⟩, by omega, h4, h5⟩, by simp; exact h3⟩
theorem RgOk.mono {lo hi lo' hi' : Int} {rs : List (Int × Int)} (h : RgOk lo hi rs) (h1 : lo' ≤ lo) (h2 : hi ≤ hi') : RgOk lo' hi' rs :=
  ⟨h.1, h.2.1, fun p hp => by obtain ⟨a, b, c⟩ := h.2.2.1 p hp; exact ⟨by omega, b, by omega⟩, h.2.2.2⟩
section
variable {hp : List O} {i n : Nat} {o : O} {R : S → List O → Prop} {Xp : MX} {T : List Nod}
def letterSets : List Str := [" !\"#$&'()*+,-./0123456789:;<=>?@ABCDEFGHIJKLMNOPQRSTUVWXYZ[\\]^_`abcdefghijklmnopqrstuvwxyz{|}~", "a", "01", " ~", "\"\\", "0123456789abcdef"]
def PlOk : Nod → Prop
  | .nu _ rs => RgOk (-170141183460469231731687303715884105728) 170141183460469231731687303715884105727 rs
  | .na _ r a => r ≠ [] ∧ (r ++ a.getD []).length ≤ 4 ∧ ∀ (i : Nat) (e : Str × Int), (r ++ a.getD [])[i]? = some e → SOk e.1 ∧ WdK i e.1 ∧ -300 ≤ e.2 ∧ e.2 < 900
  | .si _ _ sz => RgOk 0 200 sz
  | .te _ ls sz => RgOk 0 200 sz ∧ ls ∈ letterSets
  | _ => True
end
end Tb
set_option Elab.async false
set_option linter.all false
set_option maxRecDepth 100000
set_option maxHeartbeats 2000000
namespace Tb
open PySem PySem.Spec PyProof.Rows L2 Mp Pl TL
theorem reps_ok {c : Array Nat} (hc : c.all (fun x => decide (x < 1114112)) = true) : ∀ (k : Nat) (acc : Array Nat), acc.all (fun x => decide (x < 1114112)) = true → ((List.replicate k c).foldl (· ++ ·) acc).all (fun x => decide (x < 1114112)) = true ∧ ((List.replicate k c).foldl (· ++ ·) acc).size = acc.size + k * c.size
  | 0, acc, h => ⟨h, by simp⟩
  | k + 1, acc, h => by
    rw [List.replicate_succ, List.foldl_cons]
    obtain ⟨a, b⟩ := reps_ok hc k (acc ++ c) (by rw [Array.all_append, h, hc]; rfl)
    refine ⟨a, ?_⟩
    rw [b, Array.size_append, Nat.succ_mul]
    omega
theorem mul_ok {x : Str} {n : Int} (hx : PyData.strOk x = true) (hl : x.length ≤ 1000) (h1 : -1000 ≤ n) (h2 : n ≤ 1000) : MulOk x n ∧ PyData.strOk (Txt.mul x n) = true ∧ (Txt.mul x n).length ≤ x.length * n.toNat := by
  have hx' : x.cps.all (fun x => decide (x < 1114112)) = true := hx
  have b : ∀ (_ : ¬ n < 1), x.length * n.toNat ≤ 1000 * 1000 := fun c => Nat.mul_le_mul hl (by omega)
  refine ⟨⟨by rw [decide_eq_false (by omega), decide_eq_false (by omega)]; rfl, fun c _ z => ?_, fun c _ => ?_⟩, ?_⟩
  · have h3 : (2 ^ 63 - 1 : Int) / n ≥ 1000 := by
      have : (1000 : Int) * n ≤ 2 ^ 63 - 1 := by omega
      exact (Int.le_ediv_iff_mul_le (by omega)).mpr this
    omega
  · have := b c
    simp [Builtin.Str.tooLong, sizeLine]
    omega
  · unfold Txt.mul
    by_cases c : n < 1
    · rw [if_pos c]
      exact ⟨by decide +kernel, Nat.zero_le _⟩
    · rw [if_neg c]
      split
      · rename_i e
        simp at e
        refine ⟨hx, ?_⟩
        rcases e with e | e
        · rw [e]; simp
        · omega
      · obtain ⟨q1, q2⟩ := reps_ok hx' n.toNat #[] (by decide +kernel)
        refine ⟨q1, ?_⟩
        show ((List.replicate n.toNat x.cps).foldl (· ++ ·) #[]).size ≤ x.cps.size * n.toNat
        rw [q2, Nat.mul_comm]
        simp
theorem cutS_ok {z : Str} {lo hi : Option Int} (h : PyData.strOk z = true) : PyData.strOk (cutS z lo hi) = true := by
  have h' : z.cps.all (fun x => decide (x < 1114112)) = true := h
  show ((z.cps.toList.drop _).take _).toArray.all (fun x => decide (x < 1114112)) = true
  rw [List.all_toArray]
  rw [← Array.all_toList] at h'
  exact List.all_eq_true.mpr fun x hx => List.all_eq_true.mp h' x (List.mem_of_mem_drop (List.mem_of_mem_take hx))
section
variable {hp : List O} {i n : Nat} {o : O} {R : S → List O → Prop} {Xp : MX} {T T' : List Nod}
end
end Tb
set_option Elab.async false
set_option linter.all false
set_option maxRecDepth 100000
set_option maxHeartbeats 1000000
namespace Lxr
open PySem PySem.Spec PyProof.Rows L2 Mp Pl
abbrev cs (x : Str) : List Nat := x.cps.toList
def mkS (l : List Nat) : Str := ⟨l.toArray⟩
theorem len_cs {x : Str} : (cs x).length = x.length := by rw [Array.length_toList]; rfl
@[simp] theorem cs_mk {l : List Nat} : cs (mkS l) = l := rfl
theorem mk_cs {x : Str} : mkS (cs x) = x := rfl
theorem mk_inj {x : Str} {l : List Nat} (h : cs x = l) : x = mkS l := by rw [← h]; rfl
theorem cs_app {x y : Str} : cs (x ++ y) = cs x ++ cs y := by
  show (x.cps ++ y.cps).toList = _
  rw [Array.toList_append]
theorem mk_app {a b : List Nat} : mkS a ++ mkS b = mkS (a ++ b) := mk_inj (by rw [cs_app]; rfl)
theorem in_sg (L : Str) (c : Nat) : (Builtin.Str.occurrences L ⟨#[c]⟩ 0 L.length 1).isEmpty = !decide (c ∈ cs L) := by
  have := StrLaws.found_one L c
  rw [← this, Bool.not_not]
def letC (c : Nat) : Bool := (decide (97 ≤ c) && decide (c ≤ 122)) || (decide (65 ≤ c) && decide (c ≤ 90))
abbrev LETS : Str := Str.ofString "abcdefghijklmnopqrstuvwxyzABCDEFGHIJKLMNOPQRSTUVWXYZ"
abbrev DIGS : Str := Str.ofString "0123456789"
abbrev HEXS : Str := Str.ofString "0123456789abcdef"
theorem small {p : Nat → Bool} {L : List Nat} (hb : L.all (fun c => decide (c < 128)) = true) (hp : ∀ c, p c = true → c < 128) (h : ∀ c : Fin 128, decide (c.val ∈ L) = p c.val) (c : Nat) : decide (c ∈ L) = p c := by
  by_cases z : c < 128
  · exact h ⟨c, z⟩
  · have h1 : c ∉ L := fun y => z (of_decide_eq_true (List.all_eq_true.mp hb c y))
    have h2 : p c = false := by cases e : p c with
      | false => rfl
      | true => exact absurd (hp c e) z
    rw [h2]
    exact decide_eq_false h1
theorem mem_let (c : Nat) : decide (c ∈ cs LETS) = letC c := small (by decide +kernel) (fun c h => by simp [letC] at h; omega) (by decide +kernel) c
theorem mem_dig (c : Nat) : decide (c ∈ cs DIGS) = digC c := small (by decide +kernel) (fun c h => by simp [digC] at h; omega) (by decide +kernel) c
def hexC (c : Nat) : Bool := digC c || (decide (97 ≤ c) && decide (c ≤ 102))
theorem mem_hex (c : Nat) : decide (c ∈ cs HEXS) = hexC c := small (by decide +kernel) (fun c h => by simp [hexC, digC] at h; omega) (by decide +kernel) c
theorem mem_ld (c : Nat) : decide (c ∈ cs (LETS ++ DIGS)) = (letC c || digC c) := by
  rw [cs_app, ← mem_let, ← mem_dig, ← Bool.decide_or]
  exact decide_eq_decide.mpr List.mem_append
section
variable {hp : List O} {n : Nat} {R : S → List O → Prop} {Xp : MX}
def memC (L : Str) (c : Nat) : Bool := decide (c ∈ cs L)
@[simp] theorem memC_let (c : Nat) : memC LETS c = letC c := mem_let c
@[simp] theorem memC_dig (c : Nat) : memC DIGS c = digC c := mem_dig c
@[simp] theorem memC_hex (c : Nat) : memC HEXS c = hexC c := mem_hex c
@[simp] theorem memC_ld (c : Nat) : memC (LETS ++ DIGS) c = (letC c || digC c) := mem_ld c
@[simp] theorem xfInC {L : Str} {c : Nat} {P : D → Prop} : fIn false (.str ⟨#[c]⟩) (.str L) P = P (.bl (memC L c)) := by
  have e : fIn false (.str ⟨#[c]⟩) (.str L) P = (P (.bl (!(Builtin.Str.occurrences L ⟨#[c]⟩ 0 L.length 1).isEmpty)) ∨ False) := rfl
  rw [e, in_sg, Bool.not_not, or_false]
  rfl
theorem compH_l {G : MG} {Me : ME} {env : List (Option S)} {R2 : List D → List O → Prop} {v : Option Wk} {t : Tg (G, mYes, Me, R2)} {α : Type} {f : α → D} (g : α → D) {l : List α} (hst : still v (l.map f) hp) (hb : l.length ≤ 16777216)
    (hs : ∀ x ∈ l, ∀ N : D → List O → Prop, N (g x) hp → G (.d (f x)) ⟨hp, env, hp.length⟩ fun s1 => Me s1 (fun y hp3 => onH (isD y) (fun dy => N dy hp3) .mk) noX) (hn : R2 (l.map g) hp) : compH v (l.map f) G mYes Me env hp R2 t := by
  refine compH_of (fun acc rest hp' => hp' = hp ∧ ∃ dn rs : List α, l = dn ++ rs ∧ rest = rs.map f ∧ acc = dn.map g) (by show (l.map f).length ≤ 16777216; rw [List.length_map]; exact hb) ⟨rfl, [], l, rfl, rfl, rfl⟩ ?_ ?_
  · rintro acc d r hp' N ⟨e0, dn, rs, h1, h2, rfl⟩ hN
    subst e0
    cases rs with
    | nil => cases h2
    | cons x rs =>
      cases h2
      exact hs x (by rw [h1]; simp) N (hN _ _ hst ⟨rfl, dn ++ [x], rs, by rw [h1]; simp, rfl, by simp⟩)
  · rintro acc _ ⟨rfl, dn, rs, h1, h2, rfl⟩
    have e : rs = [] := by cases rs with | nil => rfl | cons => cases h2
    subst e
    rw [List.append_nil] at h1
    rw [← h1]
    exact hn
theorem at_mid {pre r : List Nat} {c i : Nat} {row : Str} (h : cs row = pre ++ c :: r) (hi : i = pre.length) : atI row.cps.toList (i : Int) = some c := by
  show atI (cs row) _ = _
  rw [h, hi, atI_nat (by omega) (by simp; omega)]
  simp
theorem at_midI {pre r : List Nat} {c : Nat} {k : Int} {row : Str} (h : cs row = pre ++ c :: r) (hk : k = (pre.length : Int)) : atI row.cps.toList k = some c := by
  rw [hk]
  exact at_mid h rfl
theorem sh_mem {row : Str} {c : Nat} (ok : PyData.strOk row = true) (h : c ∈ cs row) : shD (.str ⟨#[c]⟩) = true := by
  rw [shD_s]
  have h2 : ∀ i (hi : i < row.cps.size), row.cps[i] < 1114112 := by
    simp only [PyData.strOk, Array.all_eq_true] at ok
    intro i hi
    simpa using ok i hi
  obtain ⟨i, hi, e⟩ := Array.mem_iff_getElem.mp (Array.mem_toList_iff.mp h)
  have := h2 i hi
  rw [e] at this
  simpa [PyData.strOk] using this
theorem sp_run_end {row sg : Str} {pre t r : List Nat} {i j : Nat} {tg : Tg (m_run_end, R, Xp)} (hr : cs row = pre ++ (t ++ r)) (hi : i = pre.length) (hj : j = i + t.length) (ht : ∀ c ∈ t, memC sg c = true) (hn : ∀ c r', r = c :: r' → memC sg c = false) (hz : row.length ≤ 16777216) (h : R (.d (.int j)) hp) :
    mfH m_run_end hp [.d (.str row), .d (.int i), .d (.str sg)] R Xp tg := by
  refine mfH_of ?_
  unfold m_run_end
  simp
  have hl := len_cs (x := row)
  rw [hr] at hl
  refine whileH_of (fun m hp' env' => ∃ (a b : List Nat) (p : Nat), t = a ++ b ∧ p = i + a.length ∧ m = b.length ∧ hp' = hp ∧ env' = [some (.d (.str row)), some (.d (.int p)), some (.d (.str sg))]) t.length ⟨[], t, i, rfl, rfl, rfl, rfl, rfl⟩ ?_
  rintro m _ _ N ⟨a, b, p, e, ep, rfl, rfl, rfl⟩ hN
  have pl : p = (pre ++ a).length := by rw [List.length_append]; omega
  rw [e] at hl
  simp at hl
  have hr2 : cs row = (pre ++ a) ++ (b ++ r) := by rw [hr, e]; simp
  cases b with
  | nil =>
    have ej : j = p := by rw [hj, e, List.append_nil]; omega
    rw [ej] at h
    simp at hl
    cases r with
    | nil =>
      have c1 : ¬ (p : Int) < row.length := by simp at hl; omega
      simp [c1, hz]
      exact h
    | cons c r =>
      have c1 : (p : Int) < row.length := by simp at hl; omega
      have at_ := at_mid (pre := pre ++ a) (c := c) (r := r) (row := row) (by rw [hr2]; rfl) pl
      have nc := hn c r rfl
      simp [c1, hz, at_, in_sg, nc]
      exact h
  | cons c b =>
    have c1 : (p : Int) < row.length := by simp at hl; omega
    have at_ := at_mid (pre := pre ++ a) (c := c) (r := b ++ r) (row := row) (by rw [hr2]; rfl) pl
    have nc := ht c (by rw [e]; simp)
    simp [c1, hz, at_, in_sg, nc]
    exact hN b.length _ _ (by simp) ⟨a ++ [c], b, p + 1, by simp [e], by simp; omega, rfl, rfl, rfl⟩
end
end Lxr
set_option Elab.async false
set_option linter.all false
set_option maxRecDepth 100000
set_option maxHeartbeats 1000000
namespace Lxr
open PySem PySem.Spec PyProof.Rows L2 Mp Pl
inductive Tk
  | word (s : List Nat)
  | fig (x : Int)
  | str (s : List Nat)
  | bits (s : List Nat)
  | hex (g : List Nat)
  | mark (s : List Nat)
def figL (x : Int) : List Nat := if x < 0 then 45 :: TL.numL x.natAbs else TL.numL x.natAbs
theorem figL_eq (x : Int) : cs (Str.ofString (toString x)) = figL x := by
  unfold figL
  by_cases h : x < 0
  · rw [if_pos h]
    obtain ⟨n, rfl⟩ : ∃ n : Nat, x = Int.negSucc n := by
      cases x with
      | ofNat n => exact absurd h (by simp)
      | negSucc n => exact ⟨n, rfl⟩
    show (Str.ofString ("-" ++ Nat.repr (n + 1))).cps.toList = _
    have e2 : (Str.ofString (Nat.repr (n + 1))).cps.toList = TL.numL (n + 1) := TL.tl_num (n + 1)
    rw [signs_ofString] at e2 ⊢
    rw [String.toList_append, List.map_append, e2]
    rfl
  · rw [if_neg h]
    have : x = ((x.natAbs : Nat) : Int) := by omega
    generalize x.natAbs = n at *
    subst this
    exact TL.tl_num n
theorem numL_head : ∀ (n : Nat), 0 < n → ∀ c r, TL.numL n = c :: r → c ≠ 48 := by
  intro n
  induction n using Nat.strongRecOn with
  | _ n ih =>
    intro hn c r e
    by_cases h : n < 10
    · rw [TL.numL_lt h] at e
      cases e
      omega
    · rw [TL.numL_step (by omega)] at e
      cases e2 : TL.numL (n / 10) with
      | nil => exact absurd e2 (TL.numL_ne _)
      | cons d t =>
        rw [e2] at e
        cases e
        exact ih (n / 10) (by omega) (by omega) _ _ e2
def hd (k : Nat) : Nat := if k < 10 then 48 + k else 87 + k
def hexL (g : List Nat) : List Nat := g.flatMap fun o => [hd (o / 16), hd (o % 16)]
def Tk.txt : Tk → List Nat
  | .word s => s
  | .fig x => figL x
  | .str s => 34 :: (StrLaws.dbl 34 s ++ [34])
  | .bits s => 98 :: 34 :: (s ++ [34])
  | .hex g => 104 :: 34 :: (hexL g ++ [34])
  | .mark s => s
def Tk.con : Tk → D
  | .word s => .str (mkS s)
  | .fig x => .int x
  | .str s => .str (mkS s)
  | .bits s => .str (mkS s)
  | .hex g => .tup (g.map fun o : Nat => .int o)
  | .mark s => .str (mkS s)
def Tk.sort : Tk → Str
  | .word _ => Str.ofString "word"
  | .fig _ => Str.ofString "figure"
  | .str _ => Str.ofString "string"
  | .bits _ => Str.ofString "bits"
  | .hex _ => Str.ofString "hex"
  | .mark _ => Str.ofString "mark"
def marks : List (List Nat) := [[46, 46, 46], [46, 46], [46], [123], [125], [40], [41], [91], [93], [60], [62], [44], [59], [58], [61], [124]]
def Tk.ok : Tk → Prop
  | .word s => (∃ c r, s = c :: r ∧ letC c = true) ∧ ∀ c ∈ s, (letC c || digC c) = true
  | .fig x => x.natAbs < 10 ^ 60
  | .str s => 10 ∉ s
  | .bits s => ∀ c ∈ s, c = 48 ∨ c = 49
  | .hex g => ∀ o ∈ g, o < 256
  | .mark s => s ∈ marks
def Tk.fol : Tk → Nat → Bool
  | .word s, c => !(letC c || digC c) && !((s == [98] || s == [104]) && c == 34)
  | .fig _, c => !(letC c || digC c)
  | .str _, c => c != 34
  | .bits _, _ => true
  | .hex _, _ => true
  | .mark s, c => !((s == [46] || s == [46, 46]) && c == 46)
def Tk.folL (t : Tk) (r : List Nat) : Prop := ∀ c r', r = c :: r' → t.fol c = true
theorem cut_mid {row : Str} {pre t r : List Nat} {i j : Nat} (hr : cs row = pre ++ (t ++ r)) (hi : i = pre.length) (hj : j = i + t.length) : cutS row (some (i : Int)) (some (j : Int)) = mkS t := by
  have hl := len_cs (x := row)
  rw [hr] at hl
  simp at hl
  refine mk_inj ?_
  show (((row.cps.toList.drop (HT.sIx row.length 0 (some (i : Int)))).take (HT.sIx row.length row.length (some (j : Int)) - HT.sIx row.length 0 (some (i : Int)))).toArray).toList = t
  rw [HT.sIx_nat, HT.sIx_nat, Nat.min_eq_left (by omega), Nat.min_eq_left (by omega), show row.cps.toList = _ from hr, hi, List.drop_left]
  show List.take (j - pre.length) (t ++ r) = t
  rw [show j - pre.length = t.length by omega, List.take_left]
theorem cut_1 {row : Str} {pre r : List Nat} {i : Nat} (hr : cs row = pre ++ r) (hi : i = pre.length) : cutS row (some (i : Int)) (some ((i + 1 : Nat) : Int)) = mkS (r.take 1) := by
  cases r with
  | nil =>
    have hl := len_cs (x := row)
    rw [hr, List.append_nil] at hl
    refine mk_inj ?_
    show (((row.cps.toList.drop (HT.sIx row.length 0 (some (i : Int)))).take _).toArray).toList = []
    rw [HT.sIx_nat, HT.sIx_nat, List.drop_of_length_le (by show (cs row).length ≤ _; rw [hr, List.append_nil]; omega)]
    simp
  | cons c r => exact cut_mid (t := [c]) (by rw [hr]; rfl) hi rfl
def isC (c k : Nat) : Bool := decide (c = k)
theorem isC_y {c k : Nat} (h : c = k) : isC c k = true := decide_eq_true h
theorem isC_n {c k : Nat} (h : c ≠ k) : isC c k = false := decide_eq_false h
theorem str1 {c k : Nat} {w : String} (h : Str.ofString w = mkS [k]) : ((⟨#[c]⟩ : Str) == Str.ofString w) = isC c k := by
  rw [h]
  by_cases z : c = k
  · rw [z, isC_y rfl]
    exact beq_self_eq_true _
  · rw [isC_n z]
    refine beq_false_of_ne fun e => z ?_
    have := congrArg cs e
    simpa [cs, mkS] using this
@[simp] theorem eq45 {c : Nat} : ((⟨#[c]⟩ : Str) == Str.ofString "-") = isC c 45 := str1 (by rfl)
@[simp] theorem eq48 {c : Nat} : ((⟨#[c]⟩ : Str) == Str.ofString "0") = isC c 48 := str1 (by rfl)
@[simp] theorem eq34 {c : Nat} : ((⟨#[c]⟩ : Str) == Str.ofString "\"") = isC c 34 := str1 (by rfl)
@[simp] theorem eq98 {c : Nat} : ((⟨#[c]⟩ : Str) == Str.ofString "b") = isC c 98 := str1 (by rfl)
@[simp] theorem eq35 {c : Nat} : ((⟨#[c]⟩ : Str) == Str.ofString "#") = isC c 35 := str1 (by rfl)
@[simp] theorem eq32 {c : Nat} : ((⟨#[c]⟩ : Str) == Str.ofString " ") = isC c 32 := str1 (by rfl)
def hdQ : List Nat → Bool
  | [] => false
  | c :: _ => c == 34
theorem one_q {r : List Nat} : (mkS (r.take 1) == Str.ofString "\"") = hdQ r := by
  cases r with
  | nil => decide
  | cons c r =>
    show ((⟨#[c]⟩ : Str) == _) = _
    rw [eq34]
    rfl
theorem int_fig {x : Int} (h : x.natAbs < 10 ^ 60) : PySem.intText? (mkS (figL x)) = some x := by
  have hl := TL.numL_len (n := x.natAbs) (k := 60) (by decide) h
  unfold figL
  by_cases z : x < 0
  · rw [if_pos z, PySem.intText_neg (cs := TL.numL x.natAbs) rfl (TL.numL_digits _) (TL.numL_ne _) (by show (45 :: TL.numL x.natAbs).toArray.size ≤ _; simp; omega), TL.numL_val]
    congr 1
    omega
  · rw [if_neg z, PySem.intText_digits (x := mkS (TL.numL x.natAbs)) (TL.numL_digits _) (TL.numL_ne _) (by show (TL.numL x.natAbs).toArray.size ≤ _; simp; omega)]
    show some ((NumText.digitsVal (TL.numL x.natAbs) : Nat) : Int) = _
    rw [TL.numL_val]
    congr 1
    omega
end Lxr
set_option Elab.async false
set_option linter.all false
set_option maxRecDepth 100000
set_option maxHeartbeats 1000000
namespace Lxr
open PySem PySem.Spec PyProof.Rows L2 Mp Pl
section
variable {hp : List O} {n : Nat} {R : S → List O → Prop} {Xp : MX}
structure Pc (row : Str) (pre t r : List Nat) (i j : Nat) : Prop where
  e : cs row = pre ++ (t ++ r)
  hi : i = pre.length
  hj : j = i + t.length
  hz : row.length ≤ 1000000
  ok : PyData.strOk row = true
theorem Pc.len {row : Str} {pre t r : List Nat} {i j : Nat} (h : Pc row pre t r i j) : j + r.length = row.length := by
  have hl := len_cs (x := row)
  rw [h.e] at hl
  simp at hl
  have := h.hi
  have := h.hj
  omega
theorem Pc.cut {row : Str} {pre t r : List Nat} {i j : Nat} (h : Pc row pre t r i j) : cutS row (some (i : Int)) (some (j : Int)) = mkS t := cut_mid h.e h.hi h.hj
theorem Pc.at0 {row : Str} {pre t r : List Nat} {c i j : Nat} (h : Pc row pre (c :: t) r i j) : atI row.cps.toList (i : Int) = some c := at_mid (r := t ++ r) h.e h.hi
theorem Pc.atr {row : Str} {pre t r : List Nat} {c i j : Nat} (h : Pc row pre t (c :: r) i j) : atI row.cps.toList (j : Int) = some c := at_mid (pre := pre ++ t) (r := r) (by rw [h.e]; simp) (by have := h.hi; have := h.hj; simp; omega)
theorem Pc.sh0 {row : Str} {pre t r : List Nat} {c i j : Nat} (h : Pc row pre (c :: t) r i j) : shD (.str ⟨#[c]⟩) = true := sh_mem h.ok (by rw [h.e]; simp)
theorem Pc.shr {row : Str} {pre t r : List Nat} {c i j : Nat} (h : Pc row pre t (c :: r) i j) : shD (.str ⟨#[c]⟩) = true := sh_mem h.ok (by rw [h.e]; simp)
theorem Pc.shc {row : Str} {pre t r : List Nat} {i j : Nat} (h : Pc row pre t r i j) : shD (.str (mkS t)) = true := by
  rw [← h.cut, shD_s]
  exact Tb.cutS_ok h.ok
theorem sp_is_figure_yes {row : Str} {pre r : List Nat} {x : Int} {i j : Nat} {tg : Tg (m_is_figure, R, Xp)} (h : Pc row pre (figL x) r i j) (hR : R (.d (.bl true)) hp) : mfH m_is_figure hp [.d (.str row), .d (.int i)] R Xp tg := by
  have hz := h.hz
  have hl := h.len
  have hj := h.hj
  refine mfH_of ?_
  unfold m_is_figure
  have dg := TL.numL_digits x.natAbs
  cases e : TL.numL x.natAbs with
  | nil => exact absurd e (TL.numL_ne _)
  | cons c t =>
    have hc : digC c = true := by have := dg c (by rw [e]; simp); simp [digC]; omega
    have c45 : c ≠ 45 := by have := dg c (by rw [e]; simp); omega
    by_cases z : x < 0
    · have ef : figL x = 45 :: c :: t := by unfold figL; rw [if_pos z, e]
      rw [ef] at h hj
      have a0 := h.at0
      have a1 : atI row.cps.toList ((i : Int) + 1) = some c := at_midI (pre := pre ++ [45]) (r := t ++ r) (by rw [h.e]; simp) (by have := h.hi; simp; omega)
      have c1 : (i : Int) + 1 < row.length := by simp at hj; omega
      simp [-x_seq]
      rw [x_seq]
      simp [a0, show row.length ≤ 16777216 by omega, isC_y (rfl : 45 = 45), h.sh0, -x_seq]
      simp [c1, a1, hc, h.sh0, show row.length ≤ 16777216 by omega]
      exact hR
    · have ef : figL x = c :: t := by unfold figL; rw [if_neg z, e]
      rw [ef] at h hj
      have a0 := h.at0
      have c1 : (i : Int) < row.length := by simp at hj; omega
      simp [a0, show row.length ≤ 16777216 by omega, isC_n c45, h.sh0, c1, hc]
      exact hR
theorem sp_is_figure_no {row : Str} {pre t r : List Nat} {c i j : Nat} {tg : Tg (m_is_figure, R, Xp)} (h : Pc row pre (c :: t) r i j) (h1 : c ≠ 45) (h2 : digC c = false) (hR : R (.d (.bl false)) hp) : mfH m_is_figure hp [.d (.str row), .d (.int i)] R Xp tg := by
  have hz := h.hz
  have hl := h.len
  have hj := h.hj
  refine mfH_of ?_
  unfold m_is_figure
  have a0 := h.at0
  have c1 : (i : Int) < row.length := by simp at hj; omega
  simp [a0, show row.length ≤ 16777216 by omega, isC_n h1, h.sh0, c1, h2]
  exact hR
theorem sp_read_figure {row : Str} {pre r : List Nat} {x line : Int} {i j : Nat} {tg : Tg (m_read_figure, R, Xp)} (h : Pc row pre (figL x) r i j) (hx : x.natAbs < 10 ^ 60) (hf : ∀ c r', r = c :: r' → (letC c || digC c) = false) (hR : R (.d (.tup [.str (Str.ofString "figure"), .int x, .int j])) hp) :
    mfH m_read_figure hp [.d (.str row), .d (.int i), .d (.int line)] R Xp tg := by
  have hz := h.hz
  have hl := h.len
  have hj := h.hj
  have ct := h.cut
  have i1 := int_fig hx
  have nl := TL.numL_len (n := x.natAbs) (k := 60) (by decide) hx
  have fl : (figL x).length ≤ 61 := by unfold figL; split <;> (try simp) <;> omega
  have ml : (mkS (figL x)).length ≤ 640 := by show (figL x).toArray.size ≤ 640; simp; omega
  have r16 : row.length ≤ 16777216 := by omega
  obtain ⟨b, c, t, eb, ec, hb, n0⟩ : ∃ (b c : Nat) (t : List Nat), b + (c :: t).length = j ∧ TL.numL x.natAbs = c :: t ∧ Pc row (pre ++ (if x < 0 then [45] else [])) (c :: t) r b j ∧ b = i + (if x < 0 then 1 else 0) := by
    cases e : TL.numL x.natAbs with
    | nil => exact absurd e (TL.numL_ne _)
    | cons c t =>
      have he := h.e
      have hi := h.hi
      by_cases z : x < 0
      · have ef : figL x = 45 :: c :: t := by unfold figL; rw [if_pos z, e]
        rw [ef] at he hj
        simp at hj
        exact ⟨i + 1, c, t, by simp; omega, rfl, ⟨by rw [he, if_pos z]; simp, by rw [if_pos z]; simp; omega, by simp; omega, hz, h.ok⟩, by rw [if_pos z]⟩
      · have ef : figL x = c :: t := by unfold figL; rw [if_neg z, e]
        rw [ef] at he hj
        simp at hj
        exact ⟨i, c, t, by simp; omega, rfl, ⟨by rw [he, if_neg z]; simp, by rw [if_neg z]; simpa using hi, by simp; omega, hz, h.ok⟩, by rw [if_neg z]; rfl⟩
  have dg := TL.numL_digits x.natAbs
  rw [ec] at dg nl
  have dgs : ∀ d ∈ c :: t, memC DIGS d = true := fun d hd => by
    have := dg d hd
    rw [memC_dig]
    simp [digC]
    omega
  have hfd : ∀ d r', r = d :: r' → memC DIGS d = false := fun d r' e => by
    have := hf d r' e
    rw [memC_dig]
    cases z : digC d with
    | false => rfl
    | true => rw [z] at this; simp at this
  have hfl : ∀ d r', r = d :: r' → letC d = false := fun d r' e => by
    have := hf d r' e
    cases z : letC d with
    | false => rfl
    | true => rw [z] at this; simp at this
  have b0 := hb.at0
  have lb : (j : Int) - b ≤ 60 := by simp at nl eb; omega
  have good : ¬ (60 : Int) < (j : Int) - b := by omega
  have zero : c = 48 → ¬ (1 : Int) < (j : Int) - b ∧ ¬ (i : Int) < b := by
    intro e
    have x0 : x.natAbs = 0 := by
      by_cases z : 0 < x.natAbs
      · exact absurd e (numL_head _ z c t ec)
      · omega
    rw [x0] at ec
    have e2 : TL.numL 0 = [48] := TL.numL_lt (by decide)
    rw [e2] at ec
    cases ec
    have : ¬ x < 0 := by omega
    rw [if_neg this] at n0
    simp at eb
    omega
  obtain ⟨c0, k1, k2, k3, k4⟩ : ∃ c0, atI row.cps.toList (i : Int) = some c0 ∧ shD (.str ⟨#[c0]⟩) = true ∧ (c0 = 45 → (i : Int) + 1 = b) ∧ (c0 ≠ 45 → (i : Int) = b) := by
    by_cases z : x < 0
    · have ef : figL x = 45 :: c :: t := by unfold figL; rw [if_pos z, ec]
      rw [ef] at h
      rw [if_pos z] at n0
      exact ⟨45, h.at0, h.sh0, fun _ => by omega, fun z => absurd rfl z⟩
    · have ef : figL x = c :: t := by unfold figL; rw [if_neg z, ec]
      rw [ef] at h
      rw [if_neg z] at n0
      exact ⟨c, h.at0, h.sh0, fun e => by have := dg c (by simp); omega, fun _ => by omega⟩
  refine mfH_of ?_
  unfold m_read_figure
  simp [-x_seq]
  refine seq_cut (fun hp' env' => hp = hp' ∧ env' = [some (.d (.str row)), some (.d (.int i)), some (.d (.int line)), some (.d (.int b)), none]) (fun N hN => ?_) ?_
  · by_cases z : c0 = 45
    · simp [k1, k2, r16, isC_y z]
      rw [k3 z]
      exact hN _ _ ⟨rfl, rfl⟩
    · simp [k1, k2, r16, isC_n z]
      exact hN _ _ ⟨rfl, by rw [k4 z]⟩
  rintro _ _ ⟨rfl, rfl⟩
  rw [x_seq]
  simp [-x_seq]
  refine sp_run_end hb.e hb.hi hb.hj dgs hfd r16 ?_
  simp [-x_seq]
  refine seq_cut (fun hp' env' => hp = hp' ∧ env' = [some (.d (.str row)), some (.d (.int i)), some (.d (.int line)), some (.d (.int b)), some (.d (.int j))]) (fun N hN => ?_) ?_
  · by_cases z : c = 48
    · obtain ⟨z1, z2⟩ := zero z
      simp [good, b0, r16, isC_y z, hb.sh0, z1, z2]
      exact hN _ _ ⟨rfl, rfl⟩
    · simp [good, b0, r16, isC_n z, hb.sh0]
      exact hN _ _ ⟨rfl, rfl⟩
  rintro _ _ ⟨rfl, rfl⟩
  rw [x_seq]
  cases r with
  | nil =>
    have c1 : ¬ (j : Int) < row.length := by simp at hl; omega
    simp [c1, r16, ct, i1, ml]
    exact hR
  | cons d r' =>
    have c1 : (j : Int) < row.length := by simp at hl; omega
    simp [c1, r16, ct, i1, ml, hb.atr, hfl d r' rfl]
    exact hR
theorem dbl_cons (c : Nat) (s : List Nat) : StrLaws.dbl 34 (c :: s) = (if c = 34 then [34, 34] else [c]) ++ StrLaws.dbl 34 s := by
  by_cases h : c = 34
  · rw [if_pos h, h]
    rfl
  · rw [if_neg h]
    show (if c = 34 then _ else _) = _
    rw [if_neg h]
    rfl
theorem strs1 : ∀ {s : List Nat}, strsD (s.map fun c => D.str ⟨#[c]⟩) = some (s.map fun c => (⟨#[c]⟩ : Str))
  | [] => rfl
  | c :: s => by simp [strsD, strs1 (s := s)]
theorem sum1 : ∀ {s : List Nat}, (s.map ((fun x : Str => x.length) ∘ fun c => (⟨#[c]⟩ : Str))).sum = s.length
  | [] => rfl
  | c :: s => by rw [List.map_cons, List.sum_cons, sum1 (s := s), List.length_cons]; show 1 + _ = _; omega
theorem sp_read_string {row : Str} {pre r s : List Nat} {line : Int} {i j : Nat} {tg : Tg (m_read_string, R, Xp)} (h : Pc row pre (34 :: (StrLaws.dbl 34 s ++ [34])) r i j) (hf : ∀ c r', r = c :: r' → c ≠ 34) (hR : R (.d (.tup [.str (Str.ofString "string"), .str (mkS s), .int j])) hp) :
    mfH m_read_string hp [.d (.str row), .d (.int i), .d (.int line)] R Xp tg := by
  have hz := h.hz
  have hl := h.len
  have hj := h.hj
  have hi := h.hi
  have he := h.e
  have r16 : row.length ≤ 16777216 := by omega
  refine mfH_of ?_
  unfold m_read_string
  simp [-x_seq]
  rw [x_seq]
  simp [-x_seq]
  rw [x_seq]
  simp [-x_seq]
  rw [x_seq]
  simp [-x_seq]
  refine whileH_of (fun m hp' env' => ∃ (a b : List Nat) (p : Nat), s = a ++ b ∧ p = i + 1 + (StrLaws.dbl 34 a).length ∧ m = b.length ∧ hp' = hp ++ [O.lst (a.map fun c => .str ⟨#[c]⟩)] ∧ env' = [some (.d (.str row)), some (.d (.int i)), some (.d (.int line)), some (.mu hp.length), some (.d (.int p))]) s.length ⟨[], s, i + 1, rfl, rfl, rfl, rfl, rfl⟩ ?_
  rintro m _ _ N ⟨a, b, p, e, ep, rfl, rfl, rfl⟩ hN
  have hr2 : cs row = (pre ++ 34 :: StrLaws.dbl 34 a) ++ (StrLaws.dbl 34 b ++ [34] ++ r) := by rw [he, e, StrLaws.dbl_append]; simp
  have pl : p = (pre ++ 34 :: StrLaws.dbl 34 a).length := by simp; omega
  have ll := len_cs (x := row)
  rw [hr2] at ll
  simp at ll
  have c1 : (p : Int) < row.length := by omega
  have al : a.length ≤ s.length := by rw [e]; simp
  have sl : ∀ q : List Nat, q.length ≤ (StrLaws.dbl 34 q).length := fun q => by
    induction q with
    | nil => exact Nat.le_refl _
    | cons c q ih => rw [dbl_cons]; split <;> simp <;> omega
  have sl2 := sl a
  have at2 : a.length < 1000000 := by omega
  have cut2 : ∀ (x : Nat) (w : List Nat), StrLaws.dbl 34 b ++ [34] ++ r = x :: w → cutS row (some ((p : Int) + 1)) (some ((p : Int) + 2)) = mkS (w.take 1) := fun x w ew => by
    rw [show (p : Int) + 1 = ((p + 1 : Nat) : Int) by omega, show (p : Int) + 2 = ((p + 1 + 1 : Nat) : Int) by omega]
    exact cut_1 (pre := pre ++ 34 :: StrLaws.dbl 34 a ++ [x]) (by rw [hr2, ew]; simp) (by rw [pl]; simp; omega)
  have shk : ∀ lo hi, shD (.str (cutS row lo hi)) = true := fun lo hi => by rw [shD_s]; exact Tb.cutS_ok h.ok
  cases b with
  | nil =>
    have a0 := at_mid (pre := pre ++ 34 :: StrLaws.dbl 34 a) (c := 34) (r := r) (row := row) (by rw [hr2]; rfl) pl
    have s0 : shD (.str ⟨#[34]⟩) = true := sh_mem h.ok (by rw [hr2]; simp)
    have k2 := cut2 34 r rfl
    have s2 := shk (some ((p : Int) + 1)) (some ((p : Int) + 2))
    rw [k2] at s2
    have q2 : (mkS (r.take 1) == Str.ofString "\"") = false := by
      rw [one_q]
      cases r with
      | nil => rfl
      | cons c r' => exact beq_false_of_ne (hf c r' rfl)
    have ea : a = s := by rw [e, List.append_nil]
    have lj : Txt.join (Str.ofString "") (s.map fun c => (⟨#[c]⟩ : Str)) = mkS s := (StrLaws.glued_eq_join _ _).trans (join_ones s)
    have l0 : (Str.ofString "").length = 0 := rfl
    have ej : (p : Int) + 1 = j := by
      rw [e, List.append_nil] at hj
      simp at hj
      omega
    rw [ea]
    simp [c1, r16, a0, s0, isC_y (rfl : 34 = 34), k2, s2, q2, strs1]
    rw [ea] at at2
    refine ⟨by rw [sum1, l0, Nat.mul_zero]; omega, ?_⟩
    rw [lj, ej]
    exact hR
  | cons c b =>
    have shc : shD (.str ⟨#[c]⟩) = true := sh_mem h.ok (by
      rw [hr2, dbl_cons]
      split
      · rename_i z; rw [z]; simp
      · simp)
    have al2 : a.length + 1 < 16777216 := by omega
    by_cases z : c = 34
    · have a0 := at_mid (pre := pre ++ 34 :: StrLaws.dbl 34 a) (c := 34) (r := 34 :: (StrLaws.dbl 34 b ++ [34] ++ r)) (row := row) (by rw [hr2, dbl_cons, if_pos z]; simp) pl
      have k2 := cut2 34 (34 :: (StrLaws.dbl 34 b ++ [34] ++ r)) (by rw [dbl_cons, if_pos z]; simp)
      have s2 := shk (some ((p : Int) + 1)) (some ((p : Int) + 2))
      rw [k2] at s2
      have q2 : (mkS ((34 :: (StrLaws.dbl 34 b ++ [34] ++ r)).take 1) == Str.ofString "\"") = true := by
        rw [one_q]
        rfl
      rw [z] at shc
      simp only [List.take_succ_cons, List.take_zero] at k2 s2 q2
      simp [c1, r16, a0, shc, isC_y (rfl : 34 = 34), k2, s2, q2, al2]
      rw [show (p : Int) + 2 = ((p + 2 : Nat) : Int) by omega]
      refine ⟨by omega, ?_⟩
      exact hN b.length _ _ (by simp) ⟨a ++ [c], b, p + 2, by simp [e], by rw [StrLaws.dbl_append, dbl_cons, if_pos z]; simp [StrLaws.dbl]; omega, rfl, by rw [z]; simp; rfl, rfl⟩
    · have a0 := at_mid (pre := pre ++ 34 :: StrLaws.dbl 34 a) (c := c) (r := StrLaws.dbl 34 b ++ [34] ++ r) (row := row) (by rw [hr2, dbl_cons, if_neg z]; simp) pl
      simp [c1, r16, a0, shc, isC_n z, al2]
      rw [show (p : Int) + 1 = ((p + 1 : Nat) : Int) by omega]
      refine ⟨by omega, ?_⟩
      exact hN b.length (hp ++ [O.lst (a.map (fun c => .str ⟨#[c]⟩) ++ [.str ⟨#[c]⟩])]) _ (by simp) ⟨a ++ [c], b, p + 1, by simp [e], by rw [StrLaws.dbl_append, dbl_cons, if_neg z]; simp [StrLaws.dbl]; omega, rfl, by simp, rfl⟩
end
end Lxr
set_option Elab.async false
set_option linter.all false
set_option maxRecDepth 100000
set_option maxHeartbeats 1000000
namespace Lxr
open PySem PySem.Spec PyProof.Rows L2 Mp Pl
theorem mem_bin (c : Nat) : decide (c ∈ cs (Str.ofString "01")) = (c == 48 || c == 49) := small (p := fun c => c == 48 || c == 49) (by decide +kernel) (fun c h => by simp at h; omega) (by decide +kernel) c
@[simp] theorem memC_bin (c : Nat) : memC (Str.ofString "01") c = (c == 48 || c == 49) := mem_bin c
theorem hd_hex {k : Nat} (h : k < 16) : memC HEXS (hd k) = true := by
  rw [memC_hex]
  have : ∀ k : Fin 16, hexC (hd k.val) = true := by decide
  exact this ⟨k, h⟩
theorem hd_find {k : Nat} (h : k < 16) : Txt.find HEXS ⟨#[hd k]⟩ = (k : Int) := by
  have : ∀ k : Fin 16, Txt.find HEXS ⟨#[hd k.val]⟩ = (k.val : Int) := by decide +kernel
  exact this ⟨k, h⟩
theorem hex_cons {o : Nat} {g : List Nat} : hexL (o :: g) = hd (o / 16) :: hd (o % 16) :: hexL g := rfl
theorem hex_len : ∀ g : List Nat, (hexL g).length = 2 * g.length
  | [] => rfl
  | o :: g => by rw [hex_cons, List.length_cons, List.length_cons, List.length_cons, hex_len g]; omega
theorem hex_mem : ∀ {g : List Nat}, (∀ o ∈ g, o < 256) → ∀ c ∈ hexL g, ∃ k, k < 16 ∧ c = hd k
  | [], _, _, h => by cases h
  | o :: g, ho, c, h => by
    have o1 := ho o (by simp)
    rw [hex_cons] at h
    rcases List.mem_cons.mp h with rfl | h
    · exact ⟨o / 16, by omega, rfl⟩
    rcases List.mem_cons.mp h with rfl | h
    · exact ⟨o % 16, by omega, rfl⟩
    · exact hex_mem (fun x hx => ho x (by simp [hx])) c h
def wos : List Nat → List D
  | [] => []
  | o :: g => .int ((o / 16 : Nat) : Int) :: .int ((o % 16 : Nat) : Int) :: wos g
theorem wos_eq : ∀ {g : List Nat}, (∀ o ∈ g, o < 256) → ((hexL g).map fun c => D.int (Txt.find HEXS ⟨#[c]⟩)) = wos g
  | [], _ => rfl
  | o :: g, ho => by
    have o1 := ho o (by simp)
    rw [hex_cons, List.map_cons, List.map_cons, wos_eq (fun x hx => ho x (by simp [hx])), hd_find (by omega), hd_find (by omega)]
    rfl
theorem wos_len : ∀ g : List Nat, (wos g).length = 2 * g.length
  | [] => rfl
  | o :: g => by simp [wos, wos_len g]; omega
theorem wos_at : ∀ (g : List Nat) (k : Nat) (h : k < g.length), (wos g)[2 * k]? = some (.int ((g[k] / 16 : Nat) : Int)) ∧ (wos g)[2 * k + 1]? = some (.int ((g[k] % 16 : Nat) : Int))
  | o :: g, 0, _ => ⟨rfl, rfl⟩
  | o :: g, k + 1, h => wos_at g k (by simpa using h)
theorem rg2 {m : Nat} (h : m ≤ 1000000) : RgC 0 ((2 * m : Nat) : Int) 2 m := by
  have e : Builtin.Range.rangeSize 0 ((2 * m : Nat) : Int) 2 = (m : Int) := by
    unfold Builtin.Range.rangeSize
    rw [if_pos (by decide)]
    split <;> omega
  refine ⟨by decide, by decide, ?_, e⟩
  unfold Builtin.Range.small
  rw [e]
  rw [if_pos (show (2 : Int) > 0 by decide)]
  simp only [Builtin.Range.rangeFitsLong, Bool.and_eq_true, Bool.or_eq_true, decide_eq_true_eq, beq_iff_eq]
  omega
theorem atI_some {α : Type} {xs : List α} {m : Nat} {d : α} {k : Int} (h : xs[m]? = some d) (hk : k = m) : atI xs k = some d := by
  obtain ⟨h1, h2⟩ := List.getElem?_eq_some_iff.mp h
  rw [hk, atI_nat (by omega) (by omega)]
  simpa using h2
section
variable {hp : List O} {n : Nat} {R : S → List O → Prop} {Xp : MX}
theorem sp_read_bits {row : Str} {pre r s : List Nat} {line : Int} {i j : Nat} {tg : Tg (m_read_quoted, R, Xp)} (h : Pc row pre (98 :: 34 :: (s ++ [34])) r i j) (hs : ∀ c ∈ s, c = 48 ∨ c = 49) (hR : R (.d (.tup [.str (Str.ofString "bits"), .str (mkS s), .int j])) hp) :
    mfH m_read_quoted hp [.d (.str row), .d (.int i), .d (.int line)] R Xp tg := by
  have hz := h.hz
  have hl := h.len
  have hj := h.hj
  have hi := h.hi
  have he := h.e
  have r16 : row.length ≤ 16777216 := by omega
  simp at hj
  obtain ⟨e, he2⟩ : ∃ e, e = i + 2 + s.length := ⟨_, rfl⟩
  have hin : Pc row (pre ++ [98, 34]) s (34 :: r) (i + 2) e := ⟨by rw [he]; simp, by simp; omega, by omega, hz, h.ok⟩
  have a0 := h.at0
  have s0 := h.sh0
  have ae := hin.atr
  have se := hin.shr
  have ct := hin.cut
  have i2 : ((i + 2 : Nat) : Int) = (i : Int) + 2 := by omega
  rw [i2] at ct
  have c1 : ¬ ((e : Int) = (row.length : Int)) := by omega
  have ej : (e : Int) + 1 = j := by omega
  refine mfH_of ?_
  unfold m_read_quoted
  simp [-x_seq]
  rw [x_seq]
  simp [a0, r16, s0, isC_y (rfl : 98 = 98), -x_seq]
  rw [x_seq]
  simp [-x_seq]
  rw [show (i : Int) + 2 = ((i + 2 : Nat) : Int) by omega]
  refine sp_run_end hin.e hin.hi hin.hj (fun c hc => by rw [memC_bin]; rcases hs c hc with rfl | rfl <;> rfl) (fun c r' e2 => by cases e2; rfl) r16 ?_
  simp [-x_seq]
  rw [x_seq]
  simp [r16, -x_seq]
  rw [ct]
  rw [x_seq]
  simp [r16, ae, se, isC_y (rfl : 34 = 34), c1, -x_seq]
  rw [x_seq]
  simp [a0, r16, s0, isC_y (rfl : 98 = 98), -x_seq]
  rw [ej]
  exact hR
theorem sp_read_hex {row : Str} {pre r g : List Nat} {line : Int} {i j : Nat} {tg : Tg (m_read_quoted, R, Xp)} (h : Pc row pre (104 :: 34 :: (hexL g ++ [34])) r i j) (hs : ∀ c ∈ g, c < 256) (hR : R (.d (.tup [.str (Str.ofString "hex"), .tup (g.map fun o : Nat => .int o), .int j])) hp) :
    mfH m_read_quoted hp [.d (.str row), .d (.int i), .d (.int line)] R Xp tg := by
  have hz := h.hz
  have hl := h.len
  have hj := h.hj
  have hi := h.hi
  have he := h.e
  have r16 : row.length ≤ 16777216 := by omega
  simp at hj
  have hlen := hex_len g
  obtain ⟨e, he2⟩ : ∃ e, e = i + 2 + (hexL g).length := ⟨_, rfl⟩
  have hin : Pc row (pre ++ [104, 34]) (hexL g) (34 :: r) (i + 2) e := ⟨by rw [he]; simp, by simp; omega, by omega, hz, h.ok⟩
  have a0 := h.at0
  have s0 := h.sh0
  have ae := hin.atr
  have se := hin.shr
  have ct := hin.cut
  have i2 : ((i + 2 : Nat) : Int) = (i : Int) + 2 := by omega
  rw [i2] at ct
  have c1 : ¬ ((e : Int) = (row.length : Int)) := by omega
  have ej : (e : Int) + 1 = j := by omega
  refine mfH_of ?_
  unfold m_read_quoted
  simp [-x_seq]
  rw [x_seq]
  simp [a0, r16, s0, isC_n (show 104 ≠ 98 by decide), -x_seq]
  rw [x_seq]
  simp [-x_seq]
  rw [show (i : Int) + 2 = ((i + 2 : Nat) : Int) by omega]
  refine sp_run_end hin.e hin.hi hin.hj (fun c hc => ?_) (fun c r' e2 => by cases e2; rw [memC_hex]; rfl) r16 ?_
  · obtain ⟨k, hk, rfl⟩ := hex_mem hs c hc
    exact hd_hex hk
  simp [-x_seq]
  rw [x_seq]
  simp [r16, -x_seq]
  rw [ct]
  rw [x_seq]
  simp [r16, ae, se, isC_y (rfl : 34 = 34), c1, -x_seq]
  rw [x_seq]
  simp [a0, r16, s0, isC_n (show 104 ≠ 98 by decide), -x_seq]
  rw [x_seq]
  have ml : (mkS (hexL g)).length = 2 * g.length := by rw [← hlen]; exact (len_cs (x := mkS (hexL g))).symm
  have ev : ¬ (((mkS (hexL g)).length : Int) % 2 = 1) := by rw [ml]; omega
  simp [ev, -x_seq]
  refine ⟨by omega, ?_⟩
  rw [x_seq]
  simp [-x_seq]
  refine compH_l (f := fun x : Nat => D.str ⟨#[x]⟩) (fun c => .int (Txt.find HEXS ⟨#[c]⟩)) (l := hexL g) trivial (by omega) (fun c hc N hN => ?_) ?_
  · obtain ⟨k, hk, rfl⟩ := hex_mem hs c hc
    have f0 := hd_find hk
    simp [f0]
    rw [f0] at hN
    exact hN
  rw [wos_eq hs]
  simp [-x_seq]
  rw [x_seq]
  simp [-x_seq]
  refine ⟨g.length, by have := rg2 (m := g.length) (by omega); rw [wos_len]; exact this, ?_⟩
  refine compH_l (f := fun x : Nat => D.int (0 + (x : Int) * 2)) (fun k => .int ((g.getD k 0 : Nat) : Int)) (l := List.range g.length) trivial (by simp; omega) (fun k hk N hN => ?_) ?_
  · have hk := List.mem_range.mp hk
    obtain ⟨w1, w2⟩ := wos_at g k hk
    have a1 := atI_some (k := (k : Int) * 2) w1 (by omega)
    have a2 := atI_some (k := (k : Int) * 2 + 1) w2 (by omega)
    have ed : (16 : Int) * ((g[k] / 16 : Nat) : Int) + ((g[k] % 16 : Nat) : Int) = ((g[k] : Nat) : Int) := by omega
    have eg : g.getD k 0 = g[k] := by simp [hk]
    rw [eg] at hN
    simp [a1, a2]
    simp at ed
    rw [ed]
    exact hN
  have em : (List.map (fun k => D.int ((g.getD k 0 : Nat) : Int)) (List.range g.length)) = g.map fun o : Nat => D.int o := by
    refine List.ext_getElem (by simp) fun k h1 h2 => ?_
    simp at h1
    simp [h1]
  rw [em]
  simp
  rw [ej]
  exact hR
end
end Lxr
set_option Elab.async false
set_option linter.all false
set_option maxRecDepth 100000
set_option maxHeartbeats 1000000
namespace Lxr
open PySem PySem.Spec PyProof.Rows L2 Mp Pl
theorem marks_l : [D.str (Str.ofString "..."), D.str (Str.ofString ".."), D.str (Str.ofString "."), D.str (Str.ofString "{"), D.str (Str.ofString "}"), D.str (Str.ofString "("), D.str (Str.ofString ")"), D.str (Str.ofString "["), D.str (Str.ofString "]"), D.str (Str.ofString "<"), D.str (Str.ofString ">"), D.str (Str.ofString ","), D.str (Str.ofString ";"), D.str (Str.ofString ":"), D.str (Str.ofString "="), D.str (Str.ofString "|")] = marks.map fun m => .str (mkS m) := by rfl
theorem pre_take {m l : List Nat} : (decide (m.length ≤ l.length) && ((l.take m.length) == m)) = m.isPrefixOf l := by
  rw [Bool.eq_iff_iff, List.isPrefixOf_iff_prefix, List.prefix_iff_eq_take]
  simp
  constructor
  · intro h; exact h.2.symm
  · intro h; exact ⟨by have := congrArg List.length h; simp at this; omega, h.symm⟩
theorem sw_pre {row : Str} {pre t m : List Nat} {i : Nat} (h : cs row = pre ++ t) (hi : i = pre.length) : Txt.startswith3 row (mkS m) (i : Int) = m.isPrefixOf t := by
  have hl := len_cs (x := row)
  rw [h] at hl
  simp at hl
  have fi : fromIndex row.length (i : Int) = i := by
    unfold fromIndex
    rw [if_neg (by omega)]
    omega
  unfold Txt.startswith3
  rw [fi, StrLaws.subAt_eq, show row.cps.toList = _ from h, hi, List.drop_left, ← pre_take]
  have el : (mkS m).length = m.length := (len_cs (x := mkS m)).symm
  rw [el]
  show (decide (pre.length + m.length ≤ row.length) && (List.take m.length t == m)) = _
  congr 1
  exact decide_eq_decide.mpr (by omega)
theorem find_mark {s r : List Nat} (hs : s ∈ marks) (hf : (Tk.mark s).folL r) : marks.find? (fun m => m.isPrefixOf (s ++ r)) = some s := by
  have two : ∀ s, s = [46] ∨ s = [46, 46] → (Tk.mark s).folL r → r.head? ≠ some 46 := fun s e h z => by
    cases r with
    | nil => cases z
    | cons c r' =>
      have := h c r' rfl
      cases z
      rcases e with rfl | rfl <;> simp [Tk.fol] at this
  unfold marks at hs ⊢
  simp at hs
  rcases hs with rfl | rfl | rfl | rfl | rfl | rfl | rfl | rfl | rfl | rfl | rfl | rfl | rfl | rfl | rfl | rfl
  case inr.inl =>
    have := two _ (.inr rfl) hf
    cases r with
    | nil => rfl
    | cons c r' =>
      have c46 : c ≠ 46 := by simpa using this
      have : ((46 : Nat) == c) = false := beq_false_of_ne (Ne.symm c46)
      simp [List.find?, List.isPrefixOf, this]
  case inr.inr.inl =>
    have := two _ (.inl rfl) hf
    cases r with
    | nil => rfl
    | cons c r' =>
      have c46 : c ≠ 46 := by simpa using this
      have : ((46 : Nat) == c) = false := beq_false_of_ne (Ne.symm c46)
      simp [List.find?, List.isPrefixOf, this]
  all_goals simp [List.find?, List.isPrefixOf]
theorem mk_eq {s : List Nat} {k : Nat} {w : String} (h : Str.ofString w = mkS [k]) : (mkS s == Str.ofString w) = (s == [k]) := by
  rw [h, Bool.eq_iff_iff]
  simp
  constructor
  · intro e; have := congrArg cs e; simpa using this
  · rintro rfl; rfl
theorem mkb {s : List Nat} : (mkS s == Str.ofString "b") = (s == [98]) := mk_eq (by rfl)
theorem mkh {s : List Nat} : (mkS s == Str.ofString "h") = (s == [104]) := mk_eq (by rfl)
section
variable {hp : List O} {n : Nat} {R : S → List O → Prop} {Xp : MX}
theorem sp_mark {row : Str} {pre r s : List Nat} {line : Int} {i j : Nat} {tg : Tg (m_read_token, R, Xp)} (h : Pc row pre s r i j) (hs : s ∈ marks) (hf : (Tk.mark s).folL r) (hR : R (.d (.tup [.str (Str.ofString "mark"), .str (mkS s), .int j])) hp) :
    mfH m_read_token hp [.d (.str row), .d (.int i), .d (.int line)] R Xp tg := by
  have hz := h.hz
  have hl := h.len
  have hj := h.hj
  have hi := h.hi
  have he := h.e
  have r16 : row.length ≤ 16777216 := by omega
  obtain ⟨c, s', es, k1, k2, k3, k4⟩ : ∃ c s', s = c :: s' ∧ letC c = false ∧ c ≠ 45 ∧ digC c = false ∧ c ≠ 34 := by
    have hs' := hs
    unfold marks at hs'
    simp at hs'
    rcases hs' with rfl | rfl | rfl | rfl | rfl | rfl | rfl | rfl | rfl | rfl | rfl | rfl | rfl | rfl | rfl | rfl <;> exact ⟨_, _, rfl, by decide, by decide, by decide, by decide⟩
  have h' := h
  rw [es] at h'
  have a0 := h'.at0
  have s0 := h'.sh0
  refine mfH_of ?_
  unfold m_read_token
  simp [-x_seq]
  rw [x_seq]
  simp [a0, r16, k1, -x_seq]
  rw [x_seq]
  simp [-x_seq]
  refine sp_is_figure_no h' k2 k3 ?_
  simp [-x_seq]
  rw [x_seq]
  simp [a0, r16, s0, isC_n k4, -x_seq]
  rw [x_seq]
  simp [-x_seq]
  rw [marks_l]
  have fm := find_mark hs hf
  refine forH_of (fun rest hp' env' => ∃ (ms : List (List Nat)) (e3 e4 e5 : Option S), rest = ms.map (fun m => D.str (mkS m)) ∧ ms.find? (fun m => m.isPrefixOf (s ++ r)) = some s ∧ hp = hp' ∧ env' = [some (.d (.str row)), some (.d (.int i)), some (.d (.int line)), e3, e4, e5]) ⟨marks, none, none, none, rfl, fm, rfl, rfl⟩ ?_ ?_
  · rintro d rest _ _ N ⟨ms, e3, e4, e5, e1, e2, rfl, rfl⟩ hN
    cases ms with
    | nil => cases e1
    | cons m ms =>
      cases e1
      have sw := sw_pre (m := m) he hi
      rw [List.find?_cons] at e2
      cases c : m.isPrefixOf (s ++ r) with
      | true =>
        rw [c] at e2 sw
        simp at e2
        subst e2
        have el : ((mkS m).length : Int) = m.length := by rw [← len_cs (x := mkS m)]; rfl
        have ej : (i : Int) + ((mkS m).length : Int) = j := by omega
        have ml : (mkS m).length ≤ 16777216 := by omega
        simp [sw, ml, ej]
        exact hR
      | false =>
        rw [c] at e2 sw
        simp [sw]
        exact hN _ _ trivial ⟨ms, _, _, _, rfl, e2, rfl, rfl⟩
  · rintro _ _ ⟨ms, e3, e4, e5, e1, e2, rfl, rfl⟩
    have : ms = [] := by simpa using e1.symm
    rw [this] at e2
    cases e2
theorem sp_tok_str {row : Str} {pre r s : List Nat} {line : Int} {i j : Nat} {tg : Tg (m_read_token, R, Xp)} (h : Pc row pre (34 :: (StrLaws.dbl 34 s ++ [34])) r i j) (fo : ∀ c r', r = c :: r' → c ≠ 34) (hR : R (.d (.tup [.str (Str.ofString "string"), .str (mkS s), .int j])) hp) :
    mfH m_read_token hp [.d (.str row), .d (.int i), .d (.int line)] R Xp tg := by
  have hz := h.hz
  have r16 : row.length ≤ 16777216 := by omega
  obtain ⟨q, hq⟩ : ∃ q : Nat, q = 34 := ⟨_, rfl⟩
  have h2 : Pc row pre (q :: (StrLaws.dbl 34 s ++ [34])) r i j := by rw [hq]; exact h
  have a0 : atI row.cps.toList (i : Int) = some q := h2.at0
  have s0 : shD (.str ⟨#[q]⟩) = true := h2.sh0
  have l0 : letC q = false := by rw [hq]; rfl
  have d0 : digC q = false := by rw [hq]; rfl
  have i0 : isC q 34 = true := isC_y hq
  have n0 : q ≠ 45 := by omega
  refine mfH_of ?_
  unfold m_read_token
  simp [-x_seq]
  rw [x_seq]
  simp [a0, r16, l0, -x_seq]
  rw [x_seq]
  simp [-x_seq]
  refine sp_is_figure_no h2 n0 d0 ?_
  simp [-x_seq]
  rw [x_seq]
  simp [a0, r16, s0, i0, -x_seq]
  refine sp_read_string h fo ?_
  simp
  exact hR
theorem sp_read_token {row : Str} {pre r : List Nat} {t : Tk} {line : Int} {i j : Nat} {tg : Tg (m_read_token, R, Xp)} (h : Pc row pre t.txt r i j) (ok : t.ok) (fo : t.folL r) (hR : R (.d (.tup [.str t.sort, t.con, .int j])) hp) :
    mfH m_read_token hp [.d (.str row), .d (.int i), .d (.int line)] R Xp tg := by
  have hz := h.hz
  have hl := h.len
  have hj := h.hj
  have hi := h.hi
  have he := h.e
  have r16 : row.length ≤ 16777216 := by omega
  have shk : ∀ lo hi, shD (.str (cutS row lo hi)) = true := fun lo hi => by rw [shD_s]; exact Tb.cutS_ok h.ok
  have q1 : ∀ {pr w : List Nat} {k : Nat}, cs row = pr ++ w → k = pr.length → cutS row (some (k : Int)) (some ((k : Int) + 1)) = mkS (w.take 1) := fun e1 e2 => by
    have := cut_1 e1 e2
    rw [← this]
    rfl
  have word : ∀ (w r' : List Nat) (k : Nat), (∃ c w', w = c :: w' ∧ letC c = true) → (∀ c ∈ w, (letC c || digC c) = true) → Pc row pre w r' i k → (∀ c r'', r' = c :: r'' → (letC c || digC c) = false) →
      (((w == [98] || w == [104]) && hdQ r') = true → ∀ (R2 : S → List O → Prop) (X2 : MX) (tg2 : Tg (m_read_quoted, R2, X2)), R2 (.d (.tup [.str t.sort, t.con, .int j])) hp → mfH m_read_quoted hp [.d (.str row), .d (.int i), .d (.int line)] R2 X2 tg2) →
      (((w == [98] || w == [104]) && hdQ r') = false → D.tup [.str t.sort, t.con, .int j] = .tup [.str (Str.ofString "word"), .str (mkS w), .int k]) → mfH m_read_token hp [.d (.str row), .d (.int i), .d (.int line)] R Xp tg := by
    rintro w r' k ⟨c, w', ew, k1⟩ hw hp' hr' h1 h2
    have hp2 := hp'
    rw [ew] at hp2
    have a0 := hp2.at0
    have ct := hp'.cut
    have qt := q1 (pr := pre ++ w) (w := r') (k := k) (by rw [hp'.e]; simp) (by have := hp'.hi; have := hp'.hj; simp; omega)
    have s1 := shk (some (i : Int)) (some (k : Int))
    have s2 := shk (some (k : Int)) (some ((k : Int) + 1))
    rw [ct] at s1
    rw [qt] at s2
    refine mfH_of ?_
    unfold m_read_token
    simp [-x_seq]
    rw [x_seq]
    simp [a0, r16, k1, -x_seq]
    rw [x_seq]
    simp [-x_seq]
    have l52 : LETS.length = 52 := rfl
    have l10 : DIGS.length = 10 := rfl
    refine ⟨by rw [l52, l10]; omega, ?_⟩
    refine sp_run_end hp'.e hp'.hi hp'.hj (fun c hc => by rw [memC_ld]; exact hw c hc) (fun c r'' e => by rw [memC_ld]; exact hr' c r'' e) r16 ?_
    simp [-x_seq]
    rw [x_seq]
    simp [r16, ct, -x_seq]
    rw [x_seq]
    rw [← mkb, ← mkh, ← one_q] at h1 h2
    cases x1 : (mkS w == Str.ofString "b") with
    | true =>
      rw [x1] at h1 h2
      cases x3 : (mkS (r'.take 1) == Str.ofString "\"") with
      | true =>
        rw [x3] at h1 h2
        simp [s1, x1, r16, qt, s2, x3]
        refine h1 rfl _ _ _ ?_
        simp
        exact hR
      | false =>
        rw [x3] at h1 h2
        have e := h2 rfl
        rw [e] at hR
        simp [s1, x1, r16, qt, s2, x3]
        exact hR
    | false =>
      rw [x1] at h1 h2
      cases x2 : (mkS w == Str.ofString "h") with
      | true =>
        rw [x2] at h1 h2
        cases x3 : (mkS (r'.take 1) == Str.ofString "\"") with
        | true =>
          rw [x3] at h1 h2
          simp [s1, x1, x2, r16, qt, s2, x3]
          refine h1 rfl _ _ _ ?_
          simp
          exact hR
        | false =>
          rw [x3] at h1 h2
          have e := h2 rfl
          rw [e] at hR
          simp [s1, x1, x2, r16, qt, s2, x3]
          exact hR
      | false =>
        rw [x2] at h1 h2
        have e := h2 rfl
        rw [e] at hR
        simp [s1, x1, x2, r16]
        exact hR
  cases t with
  | word s =>
    refine word s r j ok.1 ok.2 h (fun c r'' e => ?_) (fun z => ?_) (fun _ => rfl)
    · have := fo c r'' e
      simp only [Tk.fol] at this
      simp at this
      simp [this.1]
    · exfalso
      cases r with
      | nil => simp [hdQ] at z
      | cons c r'' =>
        have := fo c r'' rfl
        simp only [Tk.fol] at this
        simp [hdQ] at this z
        rcases this.2 with q | q
        · rcases z.1 with y | y
          · exact q.1 y
          · exact q.2 y
        · exact q z.2
  | bits s =>
    have h' : Pc row pre [98] (34 :: (s ++ [34]) ++ r) i (i + 1) := ⟨by rw [he]; simp [Tk.txt], hi, rfl, hz, h.ok⟩
    refine word [98] _ (i + 1) ⟨98, [], rfl, by decide⟩ (by simp; decide) h' (fun c r'' e => by cases e; decide) (fun _ R2 X2 tg2 hR2 => sp_read_bits h ok hR2) (fun z => by simp [hdQ] at z)
  | hex s =>
    have h' : Pc row pre [104] (34 :: (hexL s ++ [34]) ++ r) i (i + 1) := ⟨by rw [he]; simp [Tk.txt], hi, rfl, hz, h.ok⟩
    refine word [104] _ (i + 1) ⟨104, [], rfl, by decide⟩ (by simp; decide) h' (fun c r'' e => by cases e; decide) (fun _ R2 X2 tg2 hR2 => sp_read_hex h ok hR2) (fun z => by simp [hdQ] at z)
  | mark s => exact sp_mark h ok fo hR
  | fig x =>
    obtain ⟨c, w, ef, n1⟩ : ∃ c w, figL x = c :: w ∧ letC c = false := by
      have dg := TL.numL_digits x.natAbs
      cases e : TL.numL x.natAbs with
      | nil => exact absurd e (TL.numL_ne _)
      | cons c t =>
        have hc := dg c (by rw [e]; simp)
        by_cases z : x < 0
        · exact ⟨45, c :: t, by unfold figL; rw [if_pos z, e], by decide⟩
        · exact ⟨c, t, by unfold figL; rw [if_neg z, e], by simp [letC]; omega⟩
    have h' : Pc row pre (c :: w) r i j := by rw [← ef]; exact h
    have a0 := h'.at0
    refine mfH_of ?_
    unfold m_read_token
    simp [-x_seq]
    rw [x_seq]
    simp [a0, r16, n1, -x_seq]
    rw [x_seq]
    simp [-x_seq]
    refine sp_is_figure_yes h ?_
    simp [-x_seq]
    refine sp_read_figure h ok (fun c r' e => ?_) ?_
    · have := fo c r' e
      simp only [Tk.fol] at this
      simpa using this
    · simp
      exact hR
  | str s =>
    have h' : Pc row pre (34 :: (StrLaws.dbl 34 s ++ [34])) r i j := h
    have f' : ∀ c r', r = c :: r' → c ≠ 34 := fun c r' e => by
      have := fo c r' e
      simp only [Tk.fol] at this
      simpa using this
    exact sp_tok_str h' f' hR
end
end Lxr
set_option Elab.async false
set_option linter.all false
set_option maxRecDepth 100000
set_option maxHeartbeats 1000000
namespace Lxr
open PySem PySem.Spec PyProof.Rows L2 Mp Pl
def tokD (t : Tk) (l c : Nat) : D := .tup [.str t.sort, t.con, .int l, .int c]
inductive LL (l : Nat) : Nat → List Nat → List D → Prop
  | nil {c} : LL l c [] []
  | rem {c m} : LL l c (35 :: m) []
  | sp {c r o} : LL l (c + 1) r o → LL l c (32 :: r) o
  | tok {c r o} (t : Tk) : t.ok → t.folL r → 10 ∉ t.txt → LL l (c + t.txt.length) r o → LL l c (t.txt ++ r) (tokD t l c :: o)
theorem txt_ne {t : Tk} (h : t.ok) : t.txt ≠ [] := by
  cases t with
  | word s => obtain ⟨⟨c, r, e, _⟩, _⟩ := h; intro z; simp only [Tk.txt] at z; rw [z] at e; cases e
  | fig x =>
    intro z
    simp only [Tk.txt, figL] at z
    split at z
    · cases z
    · exact TL.numL_ne _ z
  | mark s =>
    intro z
    simp only [Tk.txt] at z
    rw [z] at h
    revert h
    unfold Tk.ok
    decide
  | _ => intro z; simp [Tk.txt] at z
theorem LL.nil_inv {l c : Nat} {r : List Nat} {o : List D} (h : LL l c r o) (e : r = []) : o = [] := by
  cases h with
  | nil => rfl
  | rem => cases e
  | sp => cases e
  | tok t h1 h2 h3 h4 =>
    have := List.append_eq_nil_iff.mp e
    exact absurd this.1 (txt_ne h1)
def step (p : Nat × Nat) (c : Nat) : Nat × Nat := if c = 10 then (p.1 + 1, 1) else (p.1, p.2 + 1)
def adv (p : Nat × Nat) (t : List Nat) : Nat × Nat := t.foldl step p
theorem adv_app {p : Nat × Nat} {a b : List Nat} : adv p (a ++ b) = adv (adv p a) b := List.foldl_append
theorem adv_free : ∀ {t : List Nat} {l c : Nat}, 10 ∉ t → adv (l, c) t = (l, c + t.length)
  | [], l, c, _ => rfl
  | x :: t, l, c, h => by
    have hx : x ≠ 10 := fun e => h (by simp [e])
    show adv (step (l, c) x) t = _
    unfold step
    rw [if_neg hx]
    rw [adv_free fun z => h (by simp [z])]
    simp
    omega
def endD (p : Nat × Nat) : D := .tup [.str (Str.ofString "end"), .str (Str.ofString ""), .int p.1, .int p.2]
inductive LX : Nat × Nat → List Nat → List D → Prop
  | nil {p} : LX p [] [endD p]
  | bl {p c r o} : c = 32 ∨ c = 10 → LX (step p c) r o → LX p (c :: r) o
  | rem {p m r o} : 10 ∉ m → (r = [] ∨ ∃ r', r = 10 :: r') → LX (adv p (35 :: m)) r o → LX p (35 :: m ++ r) o
  | tok {p r o} (t : Tk) : t.ok → t.folL r → 10 ∉ t.txt → LX (adv p t.txt) r o → LX p (t.txt ++ r) (tokD t p.1 p.2 :: o)
def rowsOf : List Nat → List (List Nat)
  | [] => [[]]
  | c :: r => if c = 10 then [] :: rowsOf r else match rowsOf r with
    | [] => []
    | h :: t => (c :: h) :: t
theorem rows_ne : ∀ r : List Nat, ∃ h t, rowsOf r = h :: t
  | [] => ⟨_, _, rfl⟩
  | c :: r => by
    unfold rowsOf
    obtain ⟨h, t, e⟩ := rows_ne r
    split
    · exact ⟨_, _, rfl⟩
    · rw [e]; exact ⟨_, _, rfl⟩
theorem rows_app : ∀ {a r h : List Nat} {t : List (List Nat)}, 10 ∉ a → rowsOf r = h :: t → rowsOf (a ++ r) = (a ++ h) :: t
  | [], _, _, _, _, e => e
  | c :: a, r, h, t, hf, e => by
    have := rows_app (a := a) (fun z => hf (by simp [z])) e
    show rowsOf (c :: (a ++ r)) = _
    unfold rowsOf
    rw [if_neg (fun e => hf (by simp [e])), this]
    rfl
theorem rows_free : ∀ {r : List Nat}, ∀ x ∈ rowsOf r, 10 ∉ x
  | [], x, hx => by simp [rowsOf] at hx; simp [hx]
  | c :: r, x, hx => by
    unfold rowsOf at hx
    split at hx
    · rcases List.mem_cons.mp hx with rfl | hx
      · simp
      · exact rows_free x hx
    · obtain ⟨h, t, e⟩ := rows_ne r
      have ih := fun y hy => rows_free (r := r) y hy
      rw [e] at hx ih
      rcases List.mem_cons.mp hx with rfl | hx
      · rename_i hc
        have := ih h (by simp)
        intro z
        rcases List.mem_cons.mp z with z | z
        · exact hc z.symm
        · exact this z
      · exact ih x (by simp [hx])
theorem rows_head {r h : List Nat} {t : List (List Nat)} (e : rowsOf r = h :: t) : ∀ c h', h = c :: h' → ∃ r', r = c :: r' := by
  cases r with
  | nil => intro c h' eh; rw [eh] at e; cases e
  | cons x r =>
    intro c h' eh
    unfold rowsOf at e
    split at e
    · cases e; cases eh
    · obtain ⟨h2, t2, e2⟩ := rows_ne r
      rw [e2] at e
      cases e
      cases eh
      exact ⟨r, rfl⟩
inductive RL : Nat → Nat → List (List Nat) → List D → Prop
  | one {l c row o} : LL l c row o → RL l c [row] (o ++ [endD (l, c + row.length)])
  | cons {l c row rows o o2} : LL l c row o → RL (l + 1) 1 rows o2 → RL l c (row :: rows) (o ++ o2)
theorem RL.sp {l c : Nat} {h : List Nat} {t : List (List Nat)} {o : List D} (z : RL l (c + 1) (h :: t) o) : RL l c ((32 :: h) :: t) o := by
  cases z with
  | one x => have := RL.one (.sp x); rw [List.length_cons, show c + (h.length + 1) = c + 1 + h.length by omega] at this; exact this
  | cons x y => exact .cons (.sp x) y
theorem RL.tok {l c : Nat} {h : List Nat} {t : List (List Nat)} {o : List D} (k : Tk) (h1 : k.ok) (h2 : k.folL h) (h3 : 10 ∉ k.txt) (z : RL l (c + k.txt.length) (h :: t) o) : RL l c ((k.txt ++ h) :: t) (tokD k l c :: o) := by
  cases z with
  | one x => have := RL.one (.tok k h1 h2 h3 x); rw [List.length_append, show c + (k.txt.length + h.length) = c + k.txt.length + h.length by omega] at this; exact this
  | cons x y => exact .cons (.tok k h1 h2 h3 x) y
theorem LX.rl {p : Nat × Nat} {r : List Nat} {o : List D} (h : LX p r o) : RL p.1 p.2 (rowsOf r) o := by
  induction h with
  | nil => exact .one .nil
  | @bl p c r o hc _ ih =>
    rcases hc with rfl | rfl
    · obtain ⟨h, t, e⟩ := rows_ne r
      have : rowsOf (32 :: r) = (32 :: h) :: t := rows_app (a := [32]) (by simp) e
      rw [this]
      rw [e] at ih
      exact ih.sp
    · exact RL.cons .nil ih
  | @rem p m r o hm hr _ ih =>
    obtain ⟨h, t, e⟩ := rows_ne r
    have h0 : h = [] := by
      cases h with
      | nil => rfl
      | cons c h' =>
        obtain ⟨r', er⟩ := rows_head e c h' rfl
        rcases hr with rfl | ⟨r2, rfl⟩
        · cases er
        · cases er
          have := rows_free _ (show (10 :: h') ∈ rowsOf (10 :: r') by rw [e]; simp)
          exact absurd (List.mem_cons_self) this
    subst h0
    have hf : 10 ∉ 35 :: m := by simp [hm]
    have : rowsOf (35 :: m ++ r) = (35 :: m ++ []) :: t := rows_app hf e
    rw [this, List.append_nil]
    rw [e] at ih
    have ea := adv_free (l := p.1) (c := p.2) hf
    rw [show (p.1, p.2) = p from rfl] at ea
    rw [ea] at ih
    cases ih with
    | one x =>
      have := x.nil_inv rfl
      subst this
      exact .one .rem
    | cons x y =>
      have := x.nil_inv rfl
      subst this
      exact .cons .rem y
  | @tok p r o t h1 h2 h3 _ ih =>
    obtain ⟨h, tl, e⟩ := rows_ne r
    have : rowsOf (t.txt ++ r) = (t.txt ++ h) :: tl := rows_app h3 e
    rw [this]
    rw [e] at ih
    have ea := adv_free (l := p.1) (c := p.2) h3
    rw [show (p.1, p.2) = p from rfl] at ea
    rw [ea] at ih
    refine RL.tok t h1 (fun c h' eh => ?_) h3 ih
    obtain ⟨r', er⟩ := rows_head e c h' eh
    exact h2 c r' er
theorem split_rows (x : Str) : Txt.split x (Str.ofString "\n") = (rowsOf (cs x)).map mkS := by
  have h1 := StrLaws.join_split x ⟨#[10]⟩
  have h2 := StrLaws.split_free x 10
  show Txt.split x ⟨#[10]⟩ = _
  have hn : Txt.split x ⟨#[10]⟩ ≠ [] := by
    unfold Txt.split
    split
    · simp
    split
    · simp
    rw [StrLaws.partsBetween_eq]
    obtain ⟨p, r, e⟩ := StrLaws.partsFrom_ne x (⟨#[10]⟩ : Str).length 0 (Builtin.Str.occurrences x ⟨#[10]⟩ 0 x.length (x.length + 1))
    rw [e]
    simp
  generalize Txt.split x ⟨#[10]⟩ = ps at *
  have gen : ∀ ps : List Str, ps ≠ [] → (∀ p ∈ ps, 10 ∉ p.cps.toList) → rowsOf (cs (Str.join ⟨#[10]⟩ ps)) = ps.map cs := by
    intro ps
    induction ps with
    | nil => intro h; exact absurd rfl h
    | cons a ps ih =>
      intro _ hf
      cases ps with
      | nil =>
        show rowsOf (cs a) = [cs a]
        have := rows_app (a := cs a) (r := []) (h := []) (t := []) (hf a (by simp)) rfl
        simpa using this
      | cons b ps =>
        have := ih (by simp) fun p hp => hf p (by simp [hp])
        show rowsOf (cs (a ++ ⟨#[10]⟩ ++ Str.join ⟨#[10]⟩ (b :: ps))) = _
        rw [cs_app, cs_app, List.append_assoc]
        have e2 : rowsOf ([10] ++ cs (Str.join ⟨#[10]⟩ (b :: ps))) = [] :: rowsOf (cs (Str.join ⟨#[10]⟩ (b :: ps))) := by
          show rowsOf (10 :: _) = _
          rw [rowsOf, if_pos rfl]
          rfl
        have := rows_app (a := cs a) (hf a (by simp)) e2
        rw [show cs (⟨#[10]⟩ : Str) = [10] from rfl, this, ih (by simp) fun p hp => hf p (by simp [hp])]
        simp
  have := gen ps hn h2
  rw [h1] at this
  rw [this, List.map_map]
  have : (mkS ∘ cs) = id := rfl
  rw [this, List.map_id]
end Lxr
set_option Elab.async false
set_option linter.all false
set_option maxRecDepth 100000
set_option maxHeartbeats 1000000
namespace Lxr
open PySem PySem.Spec PyProof.Rows L2 Mp Pl
theorem tk_head {t : Tk} (h : t.ok) {c : Nat} {r r2 : List Nat} (e : t.txt ++ r2 = c :: r) : c ≠ 35 ∧ c ≠ 32 := by
  cases e2 : t.txt with
  | nil => exact absurd e2 (txt_ne h)
  | cons x w =>
    rw [e2] at e
    have : x = c := by cases e; rfl
    subst this
    cases t with
    | word s =>
      obtain ⟨⟨d, r', e3, hd⟩, _⟩ := h
      simp only [Tk.txt] at e2
      rw [e2] at e3
      cases e3
      constructor <;> (rintro rfl; exact absurd hd (by decide))
    | fig n =>
      simp only [Tk.txt, figL] at e2
      split at e2
      · cases e2; decide
      · have := TL.numL_digits n.natAbs x (by rw [e2]; simp)
        omega
    | mark s =>
      simp only [Tk.txt] at e2
      have : s ∈ marks := h
      rw [e2] at this
      unfold marks at this
      simp at this
      omega
    | _ => simp only [Tk.txt] at e2; cases e2; decide
section
variable {hp : List O} {n : Nat} {R : S → List O → Prop} {Xp : MX}
theorem sp_line_tokens {row : Str} {l : Nat} {out : List D} {tg : Tg (m_line_tokens, R, Xp)} (h : LL l 1 (cs row) out) (hz : row.length ≤ 1000000) (ok : PyData.strOk row = true) (hR : R (.d (.lst out)) hp) :
    mfH m_line_tokens hp [.d (.str row), .d (.int l)] R Xp tg := by
  have r16 : row.length ≤ 16777216 := by omega
  refine mfH_of ?_
  unfold m_line_tokens
  simp [-x_seq]
  rw [x_seq]
  simp [-x_seq]
  rw [x_seq]
  simp [-x_seq]
  rw [x_seq]
  simp [-x_seq]
  refine whileH_of (fun m hp' env' => ∃ (pre r : List Nat) (p : Nat) (o1 o2 : List D) (e4 e5 e6 : Option S), cs row = pre ++ r ∧ p = pre.length ∧ LL l (p + 1) r o2 ∧ out = o1 ++ o2 ∧ o1.length ≤ p ∧ m = r.length ∧ hp' = hp ++ [O.lst o1] ∧ env' = [some (.d (.str row)), some (.d (.int l)), some (.mu hp.length), some (.d (.int p)), e4, e5, e6]) (cs row).length ⟨[], cs row, 0, [], out, none, none, none, rfl, rfl, h, rfl, Nat.le_refl _, rfl, rfl, rfl⟩ ?_
  rintro m _ _ N ⟨pre, r, p, o1, o2, e4, e5, e6, er, ep, hl, eo, lo, rfl, rfl, rfl⟩ hN
  have ll := len_cs (x := row)
  rw [er] at ll
  simp at ll
  cases r with
  | nil =>
    have : o2 = [] := hl.nil_inv rfl
    subst this
    rw [List.append_nil] at eo
    subst eo
    have c1 : ¬ (p : Int) < row.length := by simp at ll; omega
    simp [c1, r16]
    exact hR
  | cons c r =>
    have c1 : (p : Int) < row.length := by simp at ll; omega
    have a0 : atI row.cps.toList (p : Int) = some c := at_mid er ep
    have s0 : shD (.str ⟨#[c]⟩) = true := sh_mem ok (by rw [er]; simp)
    generalize eg : c :: r = w at hl
    cases hl with
    | nil => cases eg
    | rem =>
      cases eg
      rw [List.append_nil] at eo
      subst eo
      simp [c1, r16, a0, s0, isC_y (rfl : 35 = 35)]
      exact hR
    | sp hl =>
      cases eg
      simp [c1, r16, a0, s0, isC_n (show 32 ≠ 35 by decide), isC_y (rfl : 32 = 32)]
      rw [show (p : Int) + 1 = ((p + 1 : Nat) : Int) by omega]
      exact hN _ _ _ (by simp) ⟨pre ++ [32], r, p + 1, o1, o2, _, _, _, by rw [er]; simp, by simp [ep], hl, eo, by omega, rfl, rfl, rfl⟩
    | @tok _ r2 o t h1 h2 h3 hl =>
      have tc : t.txt ++ r2 = c :: r := eg.symm
      obtain ⟨n35, n32⟩ := tk_head h1 tc
      have hp2 : Pc row pre t.txt r2 p (p + t.txt.length) := ⟨by rw [er, ← tc], ep, rfl, hz, ok⟩
      simp [c1, r16, a0, s0, isC_n n35, isC_n n32]
      refine sp_read_token hp2 h1 h2 ?_
      simp
      have tl : 1 ≤ t.txt.length := by
        have := txt_ne h1
        cases e : t.txt with
        | nil => exact absurd e this
        | cons => simp
      have rl : r2.length < (c :: r).length := by
        have := congrArg List.length tc
        simp at this ⊢
        omega
      refine ⟨by omega, ?_⟩
      rw [show (p : Int) + (t.txt.length : Int) = ((p + t.txt.length : Nat) : Int) by omega, show (p : Int) + 1 = ((p + 1 : Nat) : Int) by omega]
      exact hN r2.length _ _ rl ⟨pre ++ t.txt, r2, p + t.txt.length, o1 ++ [tokD t l (p + 1)], o, _, _, _, by rw [er, ← tc]; simp, by simp [ep], by rw [show p + t.txt.length + 1 = p + 1 + t.txt.length by omega]; exact hl, by rw [eo]; simp, by simp; omega, rfl, rfl, rfl⟩
theorem RL.ne {l c : Nat} {rows : List (List Nat)} {o : List D} (h : RL l c rows o) : rows ≠ [] := by
  cases h <;> simp
theorem RL.inv {l c : Nat} {row : List Nat} {rows : List (List Nat)} {o : List D} (h : RL l c (row :: rows) o) : ∃ o1 o2, LL l c row o1 ∧ o = o1 ++ o2 ∧ ((rows = [] ∧ o2 = [endD (l, c + row.length)]) ∨ (rows ≠ [] ∧ RL (l + 1) 1 rows o2)) := by
  cases h with
  | one x => exact ⟨_, _, x, rfl, .inl ⟨rfl, rfl⟩⟩
  | cons x y => exact ⟨_, _, x, rfl, .inr ⟨y.ne, y⟩⟩
theorem LL.len {l c : Nat} {r : List Nat} {o : List D} (h : LL l c r o) : o.length ≤ r.length := by
  induction h with
  | nil => simp
  | rem => simp
  | sp _ ih => simp; omega
  | tok t h1 h2 h3 h4 ih =>
    have := txt_ne h1
    cases e : t.txt with
    | nil => exact absurd e this
    | cons => simp; omega
theorem rows_mem : ∀ {r : List Nat}, ∀ x ∈ rowsOf r, (∀ c ∈ x, c ∈ r) ∧ x.length ≤ r.length
  | [], x, hx => by simp [rowsOf] at hx; simp [hx]
  | c :: r, x, hx => by
    have ih := fun y hy => rows_mem (r := r) y hy
    unfold rowsOf at hx
    split at hx
    · rcases List.mem_cons.mp hx with rfl | hx
      · simp
      · obtain ⟨a, b⟩ := ih x hx
        exact ⟨fun d hd => by simp [a d hd], by simp; omega⟩
    · obtain ⟨h, t, e⟩ := rows_ne r
      rw [e] at hx ih
      rcases List.mem_cons.mp hx with rfl | hx
      · obtain ⟨a, b⟩ := ih h (by simp)
        refine ⟨fun d hd => ?_, by simp; omega⟩
        rcases List.mem_cons.mp hd with rfl | hd
        · simp
        · simp [a d hd]
      · obtain ⟨a, b⟩ := ih x (by simp [hx])
        exact ⟨fun d hd => by simp [a d hd], by simp; omega⟩
theorem rows_sum : ∀ {r : List Nat}, ((rowsOf r).map List.length).sum + (rowsOf r).length = r.length + 1
  | [] => rfl
  | c :: r => by
    have ih := rows_sum (r := r)
    unfold rowsOf
    split
    · simp; omega
    · obtain ⟨h, t, e⟩ := rows_ne r
      rw [e] at ih ⊢
      simp at ih ⊢
      omega
theorem ok_sub {x : Str} {l : List Nat} (ok : PyData.strOk x = true) (h : ∀ c ∈ l, c ∈ cs x) : PyData.strOk (mkS l) = true := by
  have h2 : ∀ i (hi : i < x.cps.size), x.cps[i] < 1114112 := by
    simp only [PyData.strOk, Array.all_eq_true] at ok
    intro i hi
    simpa using ok i hi
  simp only [PyData.strOk, Array.all_eq_true]
  intro i hi
  have := h _ (Array.mem_toList_iff.mpr (Array.getElem_mem hi))
  obtain ⟨j, hj, e⟩ := Array.mem_iff_getElem.mp (Array.mem_toList_iff.mp this)
  have := h2 j hj
  rw [e] at this
  simpa using this
theorem at_m1 {l : List D} {d : D} : atI (l ++ [d]) (-1) = some d := by
  unfold atI
  rw [ixN_last (by simp)]
  simp
theorem sp_tokens {x : Str} {out : List D} {tg : Tg (m_tokens, R, Xp)} (h : LX (1, 1) (cs x) out) (hz : x.length ≤ 1000000) (ok : PyData.strOk x = true) (hR : R (.d (.lst out)) hp) :
    mfH m_tokens hp [.d (.str x)] R Xp tg := by
  have hrl := h.rl
  refine mfH_of ?_
  unfold m_tokens
  simp [-x_seq]
  rw [x_seq]
  simp [-x_seq]
  rw [split_rows]
  obtain ⟨rows, ers⟩ : ∃ rows, rows = rowsOf (cs x) := ⟨_, rfl⟩
  rw [← ers] at hrl ⊢
  have rsum : (rows.map List.length).sum + rows.length = x.length + 1 := by rw [ers, rows_sum, len_cs]
  have rmem : ∀ w ∈ rows, (∀ c ∈ w, c ∈ cs x) ∧ w.length ≤ x.length := fun w hw => by
    have := rows_mem w (by rw [← ers]; exact hw)
    rw [len_cs] at this
    exact this
  refine ⟨by decide, by omega, ?_⟩
  rw [x_seq]
  simp [-x_seq]
  rw [x_seq]
  simp [-x_seq]
  refine forH_of (fun rest hp' env' => ∃ (done rs : List (List Nat)) (o1 o2 : List D) (e3 e4 : Option S), rows = done ++ rs ∧ rest = numb done.length (rs.map (D.str ∘ mkS)) ∧ out = o1 ++ o2 ∧ o1.length ≤ (done.map List.length).sum ∧
    ((rs = [] ∧ ∃ d w, done = d ++ [w] ∧ o2 = [endD (done.length, 1 + w.length)]) ∨ (rs ≠ [] ∧ RL (done.length + 1) 1 rs o2)) ∧ hp' = hp ++ [O.lst o1] ∧ env' = [some (.d (.str x)), some (.d (.lst (rows.map (D.str ∘ mkS)))), some (.mu hp.length), e3, e4])
    ⟨[], rows, [], out, none, none, rfl, rfl, rfl, Nat.le_refl _, .inr ⟨hrl.ne, hrl⟩, rfl, rfl⟩ ?_ ?_
  · rintro d rest _ _ N ⟨done, rs, o1, o2, e3, e4, er, e1, eo, lo, hq, rfl, rfl⟩ hN
    cases rs with
    | nil => cases e1
    | cons w rs =>
      rcases hq with ⟨q, _⟩ | ⟨_, hq⟩
      · cases q
      obtain ⟨p1, p2, hw, ep, hq⟩ := hq.inv
      obtain ⟨m1, m2⟩ := rmem w (by rw [er]; simp)
      rw [er] at rsum
      simp at rsum
      have pl := hw.len
      have e1' : D.tup [.int done.length, .str (mkS w)] :: numb (done.length + 1) (rs.map (D.str ∘ mkS)) = d :: rest := by rw [e1]; rfl
      cases e1'
      have wl : (mkS w).length = w.length := (len_cs (x := mkS w)).symm
      simp
      rw [show (done.length : Int) + 1 = ((done.length + 1 : Nat) : Int) by omega]
      refine sp_line_tokens hw (by omega) (ok_sub ok m1) ?_
      simp
      refine ⟨by omega, hN _ _ trivial ⟨done ++ [w], rs, o1 ++ p1, p2, _, _, by rw [er]; simp, by simp, by rw [eo, ep]; simp, by simp; omega, ?_, by simp, rfl⟩⟩
      rcases hq with ⟨rfl, q⟩ | ⟨q, q2⟩
      · exact .inl ⟨rfl, done, w, rfl, by rw [q]; simp⟩
      · exact .inr ⟨q, by simpa using q2⟩
  · rintro _ _ ⟨done, rs, o1, o2, e3, e4, er, e1, eo, lo, hq, rfl, rfl⟩
    have : rs = [] := by
      cases rs with
      | nil => rfl
      | cons => cases e1
    subst this
    rcases hq with ⟨_, d, w, ed, eq⟩ | ⟨q, _⟩
    · rw [List.append_nil] at er
      subst er
      have al : atI (rows.map (D.str ∘ mkS)) (-1) = some (.str (mkS w)) := by
        rw [ed, List.map_append]
        exact at_m1
      have wl : (mkS w).length = w.length := (len_cs (x := mkS w)).symm
      have lw : w.length ≤ x.length := (rmem w (by rw [ed]; simp)).2
      simp [al]
      refine ⟨by omega, by omega, ?_⟩
      rw [wl]
      rw [eo, eq] at hR
      unfold endD at hR
      rw [show ((1 + w.length : Nat) : Int) = (w.length : Int) + 1 by omega] at hR
      exact hR
    · exact absurd rfl q
end
end Lxr
set_option Elab.async false
set_option linter.all false
set_option maxRecDepth 100000
set_option maxHeartbeats 400000
namespace Tb
open PySem PySem.Spec PyProof.Rows L2 Mp Pl
def sg (σ : List Nat) (i : Nat) : Nat := σ.getD i 0
def mapP (σ : List Nat) (p : Prt) : Prt := { p with ix := sg σ p.ix }
section
variable {hp : List O} {i n : Nat} {o : O} {R : S → List O → Prop} {Xp : MX} {T : List Nod}
end
end Tb
set_option Elab.async false
set_option linter.all false
set_option maxRecDepth 100000
set_option maxHeartbeats 400000
namespace Tb
open PySem PySem.Spec PyProof.Rows L2 Mp Pl
section
variable {hp : List O} {i n : Nat} {o : O} {R : S → List O → Prop} {Xp : MX} {T : List Nod}
end
end Tb
set_option Elab.async false
set_option linter.all false
set_option maxRecDepth 100000
set_option maxHeartbeats 400000
namespace Tb
open PySem PySem.Spec PyProof.Rows L2 Mp Pl
structure Mk where
  sets : List D
  nodes : List (Option Nod)
  rank : List Int
  heavy : List Int
  cost : List Int
  op : List Bool
section
variable {ks : List Kd} {ts : List (Option T2)} {m : Mk}
variable {hp : List O} {i : Nat}
theorem dsOf_map : ∀ l : List D, dsOf (l.map Nd.d) = some l
  | [] => rfl
  | d :: l => by simp only [List.map_cons, dsOf, dsOf_map l]; rfl
end
structure Fr (hp : List O) (n i : Nat) : Prop where
  hn : n < hp.length
  hi : i < hp.length
  ne : n ≠ i
def S2 (hp : List O) (n i : Nat) (o u : O) : List O := (hp.set n o).set i u
section
variable {hp : List O} {n i : Nat} {o u : O}
@[simp] theorem S2_len : (S2 hp n i o u).length = hp.length := by simp [S2]
theorem Fr.gn (F : Fr hp n i) : (S2 hp n i o u)[n]? = some o := by
  unfold S2
  rw [List.getElem?_set_ne (Ne.symm F.ne), List.getElem?_set_self F.hn]
theorem Fr.gi (F : Fr hp n i) : (S2 hp n i o u)[i]? = some u := by
  unfold S2
  rw [List.getElem?_set_self (by simpa using F.hi)]
theorem Fr.na (F : Fr hp n i) {ls : List O} : (S2 hp n i o u ++ ls)[n]? = some o := at_app F.gn ls
theorem Fr.sn (F : Fr hp n i) {o' : O} : (S2 hp n i o u).set n o' = S2 hp n i o' u := by
  unfold S2
  rw [List.set_comm _ _ (Ne.symm F.ne), List.set_set]
theorem Fr.si (F : Fr hp n i) {u' : O} : (S2 hp n i o u).set i u' = S2 hp n i o u' := by
  unfold S2
  rw [List.set_set]
theorem Fr.sna (F : Fr hp n i) {o' : O} {ls : List O} : (S2 hp n i o u ++ ls).set n o' = S2 hp n i o' u ++ ls := by
  rw [List.set_append_left _ _ (by simpa using F.hn), F.sn]
theorem Fr.sia (F : Fr hp n i) {u' : O} {ls : List O} : (S2 hp n i o u ++ ls).set i u' = S2 hp n i o u' ++ ls := by
  rw [List.set_append_left _ _ (by simpa using F.hi), F.si]
@[simp] theorem S2_at0 {ls : List O} : (S2 hp n i o u ++ ls)[hp.length]? = ls[0]? := by
  rw [List.getElem?_append_right (by simp)]; simp
@[simp] theorem S2_set0 {ls : List O} {x : O} : (S2 hp n i o u ++ ls).set hp.length x = S2 hp n i o u ++ ls.set 0 x := by
  rw [List.set_append_right _ _ (by simp)]; simp
@[simp] theorem S2_take {ls : List O} : (S2 hp n i o u ++ ls).take hp.length = S2 hp n i o u := List.take_left' (by simp)
@[simp] theorem S2_take0 : (S2 hp n i o u).take hp.length = S2 hp n i o u := List.take_of_length_le (by simp)
theorem Fr.start (F : Fr hp n i) (h1 : hp[n]? = some o) (h2 : hp[i]? = some u) : hp = S2 hp n i o u := by
  unfold S2
  rw [set_same h1, set_same h2]
theorem Fr.k (F : Fr hp n i) {j : Nat} (h1 : n ≠ j) (h2 : i ≠ j) : (S2 hp n i o u)[j]? = hp[j]? := by
  unfold S2
  rw [List.getElem?_set_ne h2, List.getElem?_set_ne h1]
end
section
variable {hp : List O} {i n : Nat} {o : O} {R : S → List O → Prop} {Xp : MX} {ks : List Kd} {ts : List (Option T2)} {m : Mk}
end
end Tb
set_option Elab.async false
set_option linter.all false
set_option maxRecDepth 100000
set_option maxHeartbeats 1000000
namespace Tb
open PySem PySem.Spec PyProof.Rows L2 Mp Pl TL
structure Cf where
  size : Nat
  marks : Bool
  base : Int
structure Gp where
  nodes : List (Option Nod)
  back : List Nat
  wraps : Int
section
variable {c : Cf} {g : Gp}
variable {hp : List O} {i : Nat}
end
section
variable {hp : List O} {n i : Nat} {o u : O}
theorem Fr.more (F : Fr hp n i) {ls : List O} : Fr (S2 hp n i o u ++ ls) n i := ⟨by simp; have := F.hn; omega, by simp; have := F.hi; omega, F.ne⟩
theorem Fr.s2 (F : Fr hp n i) {ls : List O} {o' u' : O} : S2 (S2 hp n i o u ++ ls) n i o' u' = S2 hp n i o' u' ++ ls := by
  show ((S2 hp n i o u ++ ls).set n o').set i u' = _
  rw [F.sna, F.sia]
@[simp] theorem S2_atm {ls : List O} {j : Nat} : (S2 hp n i o u ++ ls)[hp.length + j]? = ls[j]? := by
  rw [List.getElem?_append_right (by simp)]; simp
@[simp] theorem S2_setm {ls : List O} {x : O} {j : Nat} : (S2 hp n i o u ++ ls).set (hp.length + j) x = S2 hp n i o u ++ ls.set j x := by
  rw [List.set_append_right _ _ (by simp)]; simp
end
section
variable {hp : List O} {n i : Nat} {o : O} {R : S → List O → Prop} {Xp : MX} {c : Cf} {g : Gp}
end
end Tb
set_option Elab.async false
set_option linter.all false
set_option maxRecDepth 100000
set_option maxHeartbeats 1000000
namespace Tb
open PySem PySem.Spec PyProof.Rows L2 Mp Pl TL
def Wrd (s : Str) : Prop := SOk s ∧ ∃ k, k < 200 ∧ WdK k s
structure PrOk (p : Prt) : Prop where
  nm : Wrd p.nm
  df : (p.w = "else" ∧ p.df ≠ .non ∧ DfOk p.df) ∨ ((p.w = "must" ∨ p.w = "may") ∧ p.df = .non)
def BdOk : Nod → Prop
  | .nu t rs => PlOk (.nu t rs)
  | .na t r a => PlOk (.na t r a)
  | .si k t sz => PlOk (.si k t sz)
  | .te t ls sz => PlOk (.te t ls sz)
  | .rc _ _ ps gs => ps.length ≤ 8 ∧ (gs.getD []).length ≤ 8 ∧ (gs.getD []).flatten.length ≤ 8 ∧ (∀ p ∈ allP ps gs, PrOk p) ∧ (ps.map (·.nm)).Nodup ∧ ∀ q ∈ gs.getD [], q ≠ []
  | .rw _ _ _ sz => RgOk 0 200 sz
  | .ch as ad => as ≠ [] ∧ (as ++ ad.getD []).length ≤ 5 ∧ (∀ e ∈ as ++ ad.getD [], Wrd e.1) ∧ ((as ++ ad.getD []).map (·.1)).Nodup
  | _ => True
structure GNd (base : Int) (n i : Nat) (x : Nod) : Prop where
  ref : ∀ j ∈ refs x, j < n
  tag : ∀ t, tg x = some t → (t.1 = 0 ∨ t.1 = 2 ∨ t.1 = 3) ∧ t.2 = ((base + i).natAbs : Int)
  bd : BdOk x
theorem GNd.mono {b : Int} {n m i : Nat} {x : Nod} (h : GNd b n i x) (hn : n ≤ m) : GNd b m i x := ⟨fun j hj => Nat.lt_of_lt_of_le (h.ref j hj) hn, h.tag, h.bd⟩
structure GI (c : Cf) (g : Gp) : Prop where
  z : c.size ≤ 60
  le : g.nodes.length ≤ c.size
  nd : ∀ (i : Nat) (x : Nod), g.nodes[i]? = some (some x) → GNd c.base g.nodes.length i x
  bk : ∀ b ∈ g.back, b < g.nodes.length
  bl : g.back.length ≤ g.nodes.length
structure GP (c : Cf) (g g' : Gp) : Prop where
  gi : GI c g'
  le : g.nodes.length ≤ g'.nodes.length
  old : ∀ i, i < g.nodes.length → g'.nodes[i]? = g.nodes[i]?
  new : ∀ i, g.nodes.length ≤ i → i < g'.nodes.length → ∃ x, g'.nodes[i]? = some (some x)
theorem GP.refl {c : Cf} {g : Gp} (h : GI c g) : GP c g g := ⟨h, Nat.le_refl _, fun _ _ => rfl, fun i h1 h2 => by omega⟩
theorem GP.trans {c : Cf} {g g1 g2 : Gp} (a : GP c g g1) (b : GP c g1 g2) : GP c g g2 :=
  ⟨b.gi, Nat.le_trans a.le b.le, fun i h => (b.old i (Nat.lt_of_lt_of_le h a.le)).trans (a.old i h), fun i h1 h2 => by
    by_cases q : i < g1.nodes.length
    · rw [b.old i q]; exact a.new i h1 q
    · exact b.new i (by omega) h2⟩
theorem GI.back {c : Cf} {g : Gp} (h : GI c g) {b : List Nat} (h1 : ∀ x ∈ b, x ∈ g.back) (h2 : b.length ≤ g.back.length) : GI c { g with back := b } :=
  ⟨h.z, h.le, h.nd, fun x hx => h.bk x (h1 x hx), Nat.le_trans h2 h.bl⟩
theorem GP.back {c : Cf} {g g' : Gp} (h : GP c g g') {b : List Nat} (h1 : ∀ x ∈ b, x ∈ g'.back) (h2 : b.length ≤ g'.back.length) : GP c g { g' with back := b } :=
  ⟨h.gi.back h1 h2, h.le, h.old, h.new⟩
theorem GI.push {c : Cf} {g : Gp} (h : GI c g) (hl : g.nodes.length < c.size) : GI c { g with nodes := g.nodes ++ [none] } :=
  ⟨h.z, by simp; omega, fun i x hx => by
    by_cases q : i < g.nodes.length
    · simp only at hx
      rw [List.getElem?_append_left q] at hx
      exact (h.nd i x hx).mono (by simp)
    · simp only at hx
      rw [List.getElem?_append_right (by omega)] at hx
      cases z : i - g.nodes.length with
      | zero => rw [z] at hx; cases hx
      | succ k => rw [z] at hx; simp at hx, fun b hb => by have := h.bk b hb; simp; omega, by have := h.bl; simp; omega⟩
theorem GI.wraps {c : Cf} {g : Gp} {v : Int} (h : GI c g) : GI c { g with wraps := v } := ⟨h.z, h.le, h.nd, h.bk, h.bl⟩
theorem GP.put {c : Cf} {g g1 g2 : Gp} (h0 : GI c g) (h1 : g1.nodes = g.nodes ++ [none]) (h : GP c g1 g2) {x : Nod} (hx : GNd c.base g2.nodes.length g.nodes.length x) : GP c g { g2 with nodes := g2.nodes.set g.nodes.length (some x) } := by
  have hl : g1.nodes.length = g.nodes.length + 1 := by rw [h1]; simp
  have h2 := h.le
  refine ⟨⟨h.gi.z, by simpa using h.gi.le, fun i y hy => ?_, fun b hb => by simpa using h.gi.bk b hb, by simpa using h.gi.bl⟩, by simp; omega, fun i hi => ?_, fun i h3 h4 => ?_⟩
  · simp only [List.length_set] at hy ⊢
    by_cases q : i = g.nodes.length
    · subst q
      rw [List.getElem?_set_self (by omega)] at hy
      cases hy
      exact hx
    · rw [List.getElem?_set_ne (Ne.symm q)] at hy
      exact h.gi.nd i y hy
  · simp only
    rw [List.getElem?_set_ne (by omega), h.old i (by omega), h1, List.getElem?_append_left hi]
  · simp only [List.length_set] at h4 ⊢
    by_cases q : i = g.nodes.length
    · subst q
      exact ⟨x, by rw [List.getElem?_set_self h4]⟩
    · rw [List.getElem?_set_ne (Ne.symm q)]
      exact h.new i (by omega) h4
end Tb
set_option Elab.async false
set_option linter.all false
set_option maxRecDepth 100000
set_option maxHeartbeats 1000000
namespace Tb
open PySem PySem.Spec PyProof.Rows L2 Mp Pl TL
structure EnOk (es : List (Str × Int)) : Prop where
  len : es.length ≤ 3
  wd : ∀ (i : Nat) (e : Str × Int), es[i]? = some e → SOk e.1 ∧ WdK i e.1
  nd : (es.map (·.2)).Nodup
  bd : ∀ e ∈ es, -650 ≤ e.2 ∧ e.2 < 450
section
variable {hp : List O} {i n : Nat} {o : O} {R : S → List O → Prop} {Xp : MX}
theorem sp_chars {tg' : Tg (m__law_chars, R, Xp)} (h : R (.d (.str (Str.ofString " !\"#$&'()*+,-./0123456789:;<=>?@ABCDEFGHIJKLMNOPQRSTUVWXYZ[\\]^_`" ++ Str.ofString "abcdefghijklmnopqrstuvwxyz{|}~"))) hp) : mfH m__law_chars hp [] R Xp tg' := by
  refine mfH_of ?_
  unfold m__law_chars
  simp
  exact ⟨by decide +kernel, h⟩
end
end Tb
namespace Rg
abbrev Pss := List (Int × Int)
def Mem (l : Pss) (x : Int) : Prop := ∃ p ∈ l, p.1 ≤ x ∧ x ≤ p.2
def Nrm : Pss → Prop
  | [] => True
  | p :: r => p.1 ≤ p.2 ∧ (∀ q ∈ r, p.2 + 1 < q.1) ∧ Nrm r
theorem mem_cons {p : Int × Int} {r : Pss} {x : Int} : Mem (p :: r) x ↔ (p.1 ≤ x ∧ x ≤ p.2) ∨ Mem r x := by
  constructor
  · rintro ⟨q, h, h1⟩
    rcases List.mem_cons.mp h with rfl | h
    · exact .inl h1
    · exact .inr ⟨q, h, h1⟩
  · rintro (h | ⟨q, h, h1⟩)
    · exact ⟨p, List.mem_cons_self, h⟩
    · exact ⟨q, List.mem_cons_of_mem _ h, h1⟩
theorem Nrm.le : ∀ {l : Pss}, Nrm l → ∀ p ∈ l, p.1 ≤ p.2
  | [], _, _, h => nomatch h
  | q :: r, n, p, h => by
    rcases List.mem_cons.mp h with rfl | h
    · exact n.1
    · exact n.2.2.le p h
def tot : Pss → Int
  | [] => 0
  | p :: r => p.2 - p.1 + 1 + tot r
end Rg
set_option Elab.async false
set_option linter.all false
set_option maxRecDepth 100000
set_option maxHeartbeats 1600000
namespace Rn
open PySem PySem.Spec PyProof.Rows L2 Mp Pl Tb Rg
@[simp] theorem lk_spans {t : D} : List.lookup ("spans" : Str) [(("spans" : Str), t)] = some t := by simp [List.lookup]
section
variable {hp : List O} {R : S → List O → Prop} {Xp : MX}
theorem sp_clamp {a b c : Int} {tg : Tg (m__law_clamp, R, Xp)} (h : R (.d (.int (max b (min c a)))) hp) : mfH m__law_clamp hp [.d (.int a), .d (.int b), .d (.int c)] R Xp tg := by
  refine mfH_of ?_
  unfold m__law_clamp
  simp
  rw [show (if b < if a < c then a else c then if a < c then a else c else b) = max b (min c a) by split <;> split <;> omega]
  exact h
end
end Rn
set_option Elab.async false
set_option linter.all false
set_option maxRecDepth 100000
set_option maxHeartbeats 1600000
namespace Rn
open PySem PySem.Spec PyProof.Rows L2 Mp Pl Tb Rg
structure Bp (l : Pss) : Prop where
  len : l.length ≤ 400
  bd : ∀ p ∈ l, (-(2 ^ 140) ≤ p.1 ∧ p.1 ≤ 2 ^ 140) ∧ -(2 ^ 140) ≤ p.2 ∧ p.2 ≤ 2 ^ 140
section
variable {hp : List O} {n : Nat} {o : O} {R : S → List O → Prop} {Xp : MX}
@[simp] theorem cp31 : CPow 2 31 = True := eq_true ⟨by decide, by decide, by decide⟩
@[simp] theorem cp63 : CPow 2 63 = True := eq_true ⟨by decide, by decide, by decide⟩
@[simp] theorem cp64 : CPow 2 64 = True := eq_true ⟨by decide, by decide, by decide⟩
@[simp] theorem cmA : (CMul 18446744073709551616 18446744073709551616 ∨ CMulW 18446744073709551616 18446744073709551616) = True := eq_true (.inr (by show _ + _ < _; decide +kernel))
end
end Rn
set_option Elab.async false
set_option linter.all false
set_option maxRecDepth 100000
set_option maxHeartbeats 1600000
namespace Rn
open PySem PySem.Spec PyProof.Rows L2 Mp Pl Tb Rg
section
variable {hp : List O} {n : Nat} {o : O} {R : S → List O → Prop} {Xp : MX}
theorem sp_power {c : Nat} {tg : Tg (m__law_power, R, Xp)} (hc : c ≤ 1000) (h : R (.d (.int (2 ^ c))) hp) : mfH m__law_power hp [.d (.int c)] R Xp tg := by
  refine mfH_of ?_
  unfold m__law_power
  have hr1 : (-4611686018427387904 : Int) ≤ c := by omega
  have hr2 : (c : Int) < 4611686018427387904 := by omega
  simp [hr1, hr2]
  refine forH_rng (fun i hp' env' => hp = hp' ∧ ∃ y, env' = [some (.d (.int c)), some (.d (.int (2 ^ i))), y]) ⟨rfl, _, rfl⟩ ?_ ?_
  · rintro i _ _ N hi ⟨rfl, y, rfl⟩ hN
    simp
    exact hN _ _ ⟨rfl, _, by rw [Int.pow_succ]⟩
  · rintro _ _ ⟨rfl, y, rfl⟩
    simpa using h
@[simp] theorem cmL : (CMul (-9223372036854775808) 18446744073709551616 ∨ CMulW (-9223372036854775808) 18446744073709551616) = True := eq_true (.inr (by show _ + _ < _; decide +kernel))
@[simp] theorem cmH : (CMul 9223372036854775808 18446744073709551616 ∨ CMulW 9223372036854775808 18446744073709551616) = True := eq_true (.inr (by show _ + _ < _; decide +kernel))
theorem sp_lowest {tg : Tg (m__law_lowest, R, Xp)} (h : R (.d (.int (-(170141183460469231731687303715884105728 : Int)))) hp) : mfH m__law_lowest hp [] R Xp tg := by
  refine mfH_of ?_
  unfold m__law_lowest
  simp
  exact h
theorem sp_highest {tg : Tg (m__law_highest, R, Xp)} (h : R (.d (.int ((170141183460469231731687303715884105728 : Int) - 1))) hp) : mfH m__law_highest hp [] R Xp tg := by
  refine mfH_of ?_
  unfold m__law_highest
  simp
  exact h
def Fig (x : Int) : Prop := -(170141183460469231731687303715884105728 : Int) ≤ x ∧ x ≤ (170141183460469231731687303715884105728 : Int) - 1
theorem sp_figure {tg : Tg (m__law_figure, R, Xp)} (ho : hp[n]? = some o) (hs : Pl.St o) (h : ∀ (r : Int) o', Pl.St o' → Fig r → R (.d (.int r)) (hp.set n o')) : mfH m__law_figure hp [.mu n] R Xp tg := by
  have hn : n < hp.length := (List.getElem?_eq_some_iff.mp ho).1
  refine mfH_of ?_
  unfold m__law_figure
  simp [-x_seq]
  rw [x_seq]
  simp [-x_seq]
  refine s_take ho hs (by omega) fun q o1 hs1 q0 q1 _ => ?_
  have g1 : (hp.set n o1)[n]? = some o1 := by rw [List.getElem?_set_self hn]
  simp [-x_seq]
  rw [x_seq]
  by_cases c0 : q = 0
  · subst c0
    simp
    refine s_pick g1 hs1 (by simp) (by simp) fun i hi o2 hs2 => ?_
    obtain ⟨b, eb, hb⟩ : ∃ b : Int, [D.int 0, .int 1, .int (-1), .int 127, .int 128, .int (-128), .int (-129), .int 255, .int 256, .int 32767, .int 32768, .int (-32768), .int (-32769)][i]'hi = .int b ∧ -40000 ≤ b ∧ b ≤ 40000 := by
      simp only [List.length_cons, List.length_nil] at hi
      match i, hi with
      | 0, _ => exact ⟨_, rfl, by decide⟩
      | 1, _ => exact ⟨_, rfl, by decide⟩
      | 2, _ => exact ⟨_, rfl, by decide⟩
      | 3, _ => exact ⟨_, rfl, by decide⟩
      | 4, _ => exact ⟨_, rfl, by decide⟩
      | 5, _ => exact ⟨_, rfl, by decide⟩
      | 6, _ => exact ⟨_, rfl, by decide⟩
      | 7, _ => exact ⟨_, rfl, by decide⟩
      | 8, _ => exact ⟨_, rfl, by decide⟩
      | 9, _ => exact ⟨_, rfl, by decide⟩
      | 10, _ => exact ⟨_, rfl, by decide⟩
      | 11, _ => exact ⟨_, rfl, by decide⟩
      | 12, _ => exact ⟨_, rfl, by decide⟩
    rw [eb]
    have := h b o2 hs2 ⟨by omega, by omega⟩
    simpa using this
  · simp [c0, -x_seq]
    rw [x_seq]
    by_cases c1 : q = 1
    · subst c1
      simp
      refine s_take g1 hs1 (by omega) fun u o2 hs2 u0 u1 _ => ?_
      have u2 := u1 (by omega)
      have g2 : (hp.set n o2)[n]? = some o2 := by rw [List.getElem?_set_self hn]
      simp
      obtain ⟨m, em, hm⟩ : ∃ m : Nat, 8 * u + 7 = (m : Int) ∧ m ≤ 1000 := ⟨(8 * u + 7).toNat, by omega, by omega⟩
      rw [em]
      refine sp_power hm ?_
      generalize (2 : Int) ^ m = w
      simp
      refine s_pick g2 hs2 (by simp) (by simp) fun i hi o3 hs3 => ?_
      obtain ⟨b, eb⟩ : ∃ b : Int, [D.int (w - 1), .int w, .int (-w), .int (-w - 1), .int (w + 1), .int (1 - w)][i]'hi = .int b := by
        simp only [List.length_cons, List.length_nil] at hi
        match i, hi with
        | 0, _ => exact ⟨_, rfl⟩
        | 1, _ => exact ⟨_, rfl⟩
        | 2, _ => exact ⟨_, rfl⟩
        | 3, _ => exact ⟨_, rfl⟩
        | 4, _ => exact ⟨_, rfl⟩
        | 5, _ => exact ⟨_, rfl⟩
      rw [eb]
      simp
      refine sp_lowest ?_
      simp
      refine sp_highest ?_
      simp
      refine sp_clamp ?_
      have := h (max (-(170141183460469231731687303715884105728 : Int)) (min ((170141183460469231731687303715884105728 : Int) - 1) b)) o3 hs3 ⟨by omega, by omega⟩
      simpa using this
    · simp [c1, -x_seq]
      rw [x_seq]
      by_cases c2 : q = 2
      · subst c2
        simp
        refine sp_lowest ?_
        simp
        refine s_takeW g1 hs1 (by decide) fun u o2 hs2 u0 u1 u2 => ?_
        simp
        have u3 : u < 340282366920938463463374607431768211456 := u1 (by decide)
        have := h (-(170141183460469231731687303715884105728 : Int) + u) o2 hs2 ⟨by omega, by omega⟩
        simpa using this
      · simp [c2]
        refine s_take g1 hs1 (by omega) fun u o2 hs2 u0 u1 u2 => ?_
        have u3 := u1 (by omega)
        simp
        have := h (u - 300) o2 hs2 ⟨by omega, by omega⟩
        simpa using this
structure Gd (lo hi : Int) (l : Pss) : Prop where
  n : Nrm l
  b : ∀ p ∈ l, lo ≤ p.1 ∧ p.1 ≤ p.2 ∧ p.2 ≤ hi
end
end Rn
set_option Elab.async false
set_option linter.all false
set_option maxRecDepth 100000
set_option maxHeartbeats 2000000
namespace Lxr
open PySem PySem.Spec PyProof.Rows L2 Mp Pl Tb
def alC (c : Nat) : Bool := letC c || digC c
def wB : List Nat → Bool
  | [] => false
  | c :: r => letC c && r.all alC
theorem alC_lt {c : Nat} (h : alC c = true) : c < 128 := by simp [alC, letC, digC] at h; omega
theorem wB_all {l : List Nat} (h : wB l = true) : ∀ c ∈ l, alC c = true := by
  cases l with
  | nil => cases h
  | cons c r =>
    obtain ⟨a, b⟩ := He.ba (show (letC c && r.all alC) = true from h)
    intro x hx
    rcases List.mem_cons.mp hx with rfl | hx
    · simp [alC, a]
    · exact List.all_eq_true.mp b x hx
theorem wB_word {l : List Nat} (h : wB l = true) : (Tk.word l).ok := by
  refine ⟨?_, fun c hc => wB_all h c hc⟩
  cases l with
  | nil => cases h
  | cons c r => exact ⟨c, r, rfl, (He.ba (show (letC c && r.all alC) = true from h)).1⟩
theorem wB_app {a b : List Nat} (h : wB a = true) (hb : ∀ c ∈ b, alC c = true) : wB (a ++ b) = true := by
  cases a with
  | nil => cases h
  | cons c r =>
    obtain ⟨h1, h2⟩ := He.ba (show (letC c && r.all alC) = true from h)
    show (letC c && (r ++ b).all alC) = true
    rw [h1, Bool.true_and, List.all_append, h2, Bool.true_and]
    exact List.all_eq_true.mpr hb
theorem ok_small {s : Str} (h : ∀ c ∈ cs s, c < 1114112) : PyData.strOk s = true := by
  simp only [PyData.strOk, Array.all_eq_true]
  intro i hi
  simpa using h _ (Array.mem_toList_iff.mpr (Array.getElem_mem hi))
theorem wB_ok {s : Str} (h : wB (cs s) = true) : PyData.strOk s = true := ok_small fun c hc => by have := alC_lt (wB_all h c hc); omega
theorem mul_mem {x : Str} {n : Int} {c : Nat} (h : c ∈ cs (Txt.mul x n)) : c ∈ cs x := by
  unfold Txt.mul at h
  split at h
  · cases h
  split at h
  · exact h
  · have gen : ∀ (k : Nat) (acc : Array Nat), c ∈ ((List.replicate k x.cps).foldl (· ++ ·) acc).toList → c ∈ acc.toList ∨ c ∈ cs x := by
      intro k
      induction k with
      | zero => intro acc h; exact .inl h
      | succ k ih =>
        intro acc h
        rw [List.replicate_succ, List.foldl_cons] at h
        rcases ih _ h with h | h
        · rw [Array.toList_append] at h
          exact (List.mem_append.mp h)
        · exact .inr h
    rcases gen _ _ h with h | h
    · cases h
    · exact h
theorem cs_to {w : Str} {v : Nat} : cs (cutS w none (some (v : Int))) = (cs w).take v := by
  show (((w.cps.toList.drop _).take (HT.sIx w.length w.length (some (v : Int)) - HT.sIx w.length 0 none)).toArray).toList = _
  rw [HT.sIx_nat]
  show List.take (min v w.length - 0) (w.cps.toList.drop 0) = _
  rw [List.drop_zero, Nat.sub_zero, List.take_eq_take_iff, len_cs]
  omega
theorem cs_from {w : Str} {v : Nat} : cs (cutS w (some (v : Int)) none) = (cs w).drop v := by
  show (((w.cps.toList.drop (HT.sIx w.length 0 (some (v : Int)))).take (w.length - HT.sIx w.length 0 (some (v : Int)))).toArray).toList = _
  rw [HT.sIx_nat]
  show List.take (w.length - min v w.length) ((cs w).drop (min v w.length)) = _
  have hl := len_cs (x := w)
  by_cases h : v ≤ w.length
  · rw [Nat.min_eq_left h, List.take_of_length_le (by rw [List.length_drop]; omega)]
  · rw [Nat.min_eq_right (by omega), List.drop_of_length_le (by omega), List.drop_of_length_le (by omega)]
    simp
theorem wB_take {l : List Nat} {v : Nat} (h : wB l = true) (hv : 1 ≤ v) : wB (l.take v) = true := by
  cases l with
  | nil => cases h
  | cons c r =>
    obtain ⟨v, rfl⟩ : ∃ k, v = k + 1 := ⟨v - 1, by omega⟩
    obtain ⟨h1, h2⟩ := He.ba (show (letC c && r.all alC) = true from h)
    show (letC c && (r.take v).all alC) = true
    rw [h1, Bool.true_and]
    exact List.all_eq_true.mpr fun x hx => List.all_eq_true.mp h2 x (List.mem_of_mem_take hx)
theorem wB_put {w : Str} {v c : Nat} (h : wB (cs w) = true) (hv : 1 ≤ v) (hc : alC c = true) : wB (cs (cutS w none (some (v : Int)) ++ ⟨#[c]⟩ ++ cutS w (some ((v : Int) + 1)) none)) = true := by
  rw [cs_app, cs_app, cs_to, show (v : Int) + 1 = ((v + 1 : Nat) : Int) by omega, cs_from]
  refine wB_app (wB_app (wB_take h hv) fun x hx => ?_) fun x hx => wB_all h x (List.mem_of_mem_drop hx)
  have : x = c := by simpa [cs] using hx
  rw [this]
  exact hc
def WOk (s : Str) : Prop := wB (cs s) = true ∧ s.length ≤ 60
theorem low36 {r : Int} (h0 : 0 ≤ r) (h1 : r < 36) : ∃ c, atI (Str.ofString "abcdefghijklmnopqrstuvwxyz0123456789").cps.toList r = some c ∧ alC c = true ∧ (r < 26 → letC c = true) := by
  have : ∀ k : Fin 36, ∃ c, (Str.ofString "abcdefghijklmnopqrstuvwxyz0123456789").cps.toList[k.val]? = some c ∧ alC c = true ∧ (k.val < 26 → letC c = true) := by
    have hb : ∀ k : Fin 36, (match (Str.ofString "abcdefghijklmnopqrstuvwxyz0123456789").cps.toList[k.val]? with | some c => alC c && (decide (26 ≤ k.val) || letC c) | none => false) = true := by decide +kernel
    intro k
    have := hb k
    cases e : (Str.ofString "abcdefghijklmnopqrstuvwxyz0123456789").cps.toList[k.val]? with
    | none => rw [e] at this; cases this
    | some c =>
      rw [e] at this
      obtain ⟨a, b⟩ := He.ba (show (alC c && (decide (26 ≤ k.val) || letC c)) = true from this)
      refine ⟨c, rfl, a, fun h => ?_⟩
      rw [decide_eq_false (by omega)] at b
      simpa using b
  obtain ⟨c, a, b, d⟩ := this ⟨r.toNat, by omega⟩
  exact ⟨c, atI_some a (by show r = ((r.toNat : Nat) : Int); omega), b, fun h => d (by show r.toNat < 26; omega)⟩
theorem cap26 {r : Int} (h0 : 0 ≤ r) (h1 : r < 26) : ∃ c, atI (Str.ofString "ABCDEFGHIJKLMNOPQRSTUVWXYZ").cps.toList r = some c ∧ letC c = true := by
  have hl : (Str.ofString "ABCDEFGHIJKLMNOPQRSTUVWXYZ").cps.toList.length = 26 := by decide +kernel
  have ha : ∀ c ∈ (Str.ofString "ABCDEFGHIJKLMNOPQRSTUVWXYZ").cps.toList, letC c = true := by decide +kernel
  exact ⟨_, atI_nat h0 (by rw [hl]; omega), ha _ (List.getElem_mem _)⟩
theorem all62 {r : Int} (h0 : 0 ≤ r) (h1 : r < 62) : ∃ c, atI (Str.ofString "ABCDEFGHIJKLMNOPQRSTUVWXYZ" ++ Str.ofString "abcdefghijklmnopqrstuvwxyz0123456789").cps.toList r = some c ∧ alC c = true := by
  have hl : (Str.ofString "ABCDEFGHIJKLMNOPQRSTUVWXYZ" ++ Str.ofString "abcdefghijklmnopqrstuvwxyz0123456789").cps.toList.length = 62 := by decide +kernel
  have ha : ∀ c ∈ (Str.ofString "ABCDEFGHIJKLMNOPQRSTUVWXYZ" ++ Str.ofString "abcdefghijklmnopqrstuvwxyz0123456789").cps.toList, alC c = true := by decide +kernel
  exact ⟨_, atI_nat h0 (by rw [hl]; omega), ha _ (List.getElem_mem _)⟩
def rsvS : List String := ["true", "false", "nothing", "unnamed", "unknown", "kept", "path", "boolean", "number", "names", "bits", "octets", "text", "sequence", "set", "row", "bag", "of", "choice", "size", "from", "least", "most", "optional", "default", "numbered", "own", "shared", "private", "place", "round", "module", "uses"]
theorem reserved_eq : PySem.Txt.split (Str.ofString "true false nothing unnamed unknown kept path boolean number names bits octets text sequence set row bag" ++ Str.ofString " of choice size from least most optional default numbered own shared private place round module" ++ Str.ofString " uses") (Str.ofString " ") = rsvS.map Str.ofString := by decide +kernel
theorem rsv_w : ∀ x ∈ rsvS, wB (cs (Str.ofString x)) = true ∧ (Str.ofString x).length ≤ 10 := by decide +kernel
section
variable {hp : List O} {i n : Nat} {o : O} {R : S → List O → Prop} {Xp : MX}
theorem sp_reservedW {tg' : Tg (m__law_reserved, R, Xp)} (h : ∀ l : List Str, l.length = 33 → (∀ s ∈ l, wB (cs s) = true ∧ s.length ≤ 10) → R (.d (.lst (l.map .str))) hp) : mfH m__law_reserved hp [] R Xp tg' := by
  refine mfH_of ?_
  unfold m__law_reserved
  simp
  refine ⟨by decide +kernel, by decide +kernel, by decide +kernel, by decide +kernel, ?_⟩
  rw [reserved_eq]
  refine h _ rfl fun s hs => ?_
  obtain ⟨x, hx, rfl⟩ := List.mem_map.mp hs
  exact rsv_w x hx
theorem sp_nameW {tg' : Tg (m__law_name, R, Xp)} (ho : hp[n]? = some o) (hs : St o) (h : ∀ (s : Str) o', St o' → WOk s → R (.d (.str s)) (hp.set n o')) : mfH m__law_name hp [.mu n] R Xp tg' := by
  have at0 : ∀ o' : O, (hp.set n o')[n]? = some o' := fun o' => set_at ho o'
  have ss : ∀ o1 o2 : O, (hp.set n o1).set n o2 = hp.set n o2 := fun o1 o2 => List.set_set ..
  have l0 : (Str.ofString "abcdefghijklmnopqrstuvwxyz0123456789").length ≤ 16777216 := by decide +kernel
  refine mfH_of ?_
  unfold m__law_name
  simp only [x_def]
  rw [x_seq]
  simp [-x_seq]
  refine seq_cut (fun hp' env' => ∃ o', St o' ∧ hp' = hp.set n o' ∧ env' = [some (.mu n), some (.d (.str "abcdefghijklmnopqrstuvwxyz0123456789")), none, none, none]) (fun N hN => ?_) ?_
  · simp
    refine s_take ho hs (by omega) fun r o1 hs1 _ _ _ => ?_
    simp
    refine brH_of (fun hb => ?_) (fun hb => ?_)
    · simp
      refine sp_reservedW fun rsv z1 z3 => ?_
      simp
      refine pick_memD (at0 _) hs1 (by simp; omega) (by simp; omega) fun d o2 hs2 hd => ?_
      obtain ⟨s, hsm, rfl⟩ := List.mem_map.mp hd
      obtain ⟨k1, k2⟩ := z3 s hsm
      simp [ss]
      refine pick_memD (at0 _) hs2 (by simp) (by simp) fun d o3 hs3 hd => ?_
      obtain ⟨s2, rfl, k3, k4⟩ : ∃ s2 : Str, d = .str s2 ∧ (∀ c ∈ cs s2, alC c = true) ∧ s2.length ≤ 2 := by
        simp at hd
        rcases hd with rfl | rfl | rfl <;> exact ⟨_, rfl, by decide +kernel, by decide +kernel⟩
      simp [ss]
      exact ⟨by omega, h _ o3 hs3 ⟨by rw [cs_app]; exact wB_app k1 k3, by rw [Str.length_append]; omega⟩⟩
    · simp
      exact hN _ _ ⟨o1, hs1, rfl, rfl⟩
  rintro _ _ ⟨o1, hs1, rfl, rfl⟩
  rw [x_seq]
  simp [-x_seq]
  refine s_take (at0 _) hs1 (by omega) fun r o2 hs2 r0 r2 _ => ?_
  have r26 := r2 (by omega)
  obtain ⟨c, hc, _, hc2⟩ := low36 r0 (by omega)
  have hc2 := hc2 r26
  simp [ss, hc, l0, on, -x_seq]
  rw [x_seq]
  simp [-x_seq]
  refine pick_memD (at0 _) hs2 (by simp) (by simp) fun d o3 hs3 hd => ?_
  obtain ⟨z, rfl, z0, z1⟩ : ∃ z : Nat, d = .int z ∧ 1 ≤ z ∧ z ≤ 20 := by
    simp at hd
    rcases hd with rfl | rfl | rfl | rfl | rfl | rfl
    · exact ⟨1, rfl, by omega, by omega⟩
    · exact ⟨2, rfl, by omega, by omega⟩
    · exact ⟨3, rfl, by omega, by omega⟩
    · exact ⟨5, rfl, by omega, by omega⟩
    · exact ⟨19, rfl, by omega, by omega⟩
    · exact ⟨20, rfl, by omega, by omega⟩
  have c0 : wB (cs ⟨#[c]⟩) = true := by show (letC c && true) = true; rw [hc2]; rfl
  simp [ss, -x_seq]
  refine seq_cut (fun hp' env' => ∃ (s : Str) (o' : O) (x4 : Option S), St o' ∧ wB (cs s) = true ∧ s.length ≤ 45 ∧ hp' = hp.set n o' ∧ env' = [some (.mu n), some (.d (.str "abcdefghijklmnopqrstuvwxyz0123456789")), some (.d (.str s)), some (.d (.int z)), x4]) (fun N hN => ?_) ?_
  · simp [-x_seq]
    refine brH_of (fun hb => ?_) (fun hb => ?_)
    · rw [x_seq]
      simp [-x_seq]
      refine s_take (at0 _) hs3 (by omega) fun r o4 hs4 q0 q2 _ => ?_
      obtain ⟨c2, hc2', hc3, _⟩ := low36 q0 (by have := q2 (by omega); omega)
      have c2ok : PyData.strOk ⟨#[c2]⟩ = true := by have := alC_lt hc3; simp [PyData.strOk]; omega
      have e1 : ∀ c : Nat, (⟨#[c]⟩ : Str).length = 1 := fun _ => rfl
      obtain ⟨m1, m2, m3⟩ := mul_ok (x := ⟨#[c2]⟩) (n := (z : Int) - 1) c2ok (by rw [e1]; omega) (by omega) (by omega)
      rw [e1] at m3
      have a1 : wB (cs (⟨#[c]⟩ ++ Txt.mul ⟨#[c2]⟩ ((z : Int) - 1))) = true := by
        rw [cs_app]
        refine wB_app c0 fun x hx => ?_
        have := mul_mem hx
        have : x = c2 := by simpa [cs] using this
        rw [this]; exact hc3
      have a2 : (⟨#[c]⟩ ++ Txt.mul ⟨#[c2]⟩ ((z : Int) - 1)).length ≤ 20 := by rw [Str.length_append, e1]; omega
      simp [ss, hc2', l0, on, m1, -x_seq]
      refine ⟨by rw [e1]; omega, ?_⟩
      generalize (⟨#[c]⟩ ++ Txt.mul ⟨#[c2]⟩ ((z : Int) - 1)) = w at *
      rw [x_seq]
      simp [-x_seq]
      refine s_take (at0 _) hs4 (by omega) fun r o5 hs5 q0 q2 _ => ?_
      simp [ss, -x_seq]
      refine ⟨by omega, ?_⟩
      refine s_take (at0 _) hs5 (by omega) fun r' o6 hs6 q0' q2' _ => ?_
      obtain ⟨c3, hc3', hc4, _⟩ := low36 q0' (by have := q2' (by omega); omega)
      have b1 := cutS_length w none (some (1 + r))
      have b2 := cutS_length w (some (1 + r + 1)) none
      have b3 := wB_put (v := (1 + r).toNat) a1 (by omega) hc4
      rw [show (((1 + r).toNat : Nat) : Int) = 1 + r by omega] at b3
      simp [ss, hc3', l0, on]
      refine ⟨by rw [e1]; omega, by omega, by rw [Str.length_append, e1]; omega, ?_⟩
      exact hN _ _ ⟨_, o6, _, hs6, b3, by rw [Str.length_append, Str.length_append, e1]; omega, rfl, rfl⟩
    · simp
      exact hN _ _ ⟨⟨#[c]⟩, o3, none, hs3, c0, by show 1 ≤ 45; omega, rfl, rfl⟩
  rintro _ _ ⟨s, o4, x4, hs4, hso, hsl, rfl, rfl⟩
  have hsh : shD (.str s) = true := by rw [shD_s]; exact wB_ok hso
  simp [hsh]
  refine sp_reservedW fun rsv z1 z3 => ?_
  simp [hsh]
  refine brH_of (fun _ => ?_) (fun _ => ?_)
  · simp
    have lx : (Str.ofString "x").length = 1 := rfl
    exact ⟨by rw [lx]; omega, h _ o4 hs4 ⟨by rw [cs_app]; exact wB_app hso (by decide +kernel), by rw [Str.length_append, lx]; omega⟩⟩
  · simp
    exact h _ o4 hs4 ⟨hso, by omega⟩
end
end Lxr
set_option Elab.async false
set_option linter.all false
set_option maxRecDepth 100000
set_option maxHeartbeats 4000000
namespace Mp
open PySem PySem.Spec PyProof.Rows L2 Pl
end Mp
set_option Elab.async false
set_option linter.all false
set_option maxRecDepth 100000
set_option maxHeartbeats 4000000
namespace Mp
open PySem PySem.Spec PyProof.Rows L2 Pl
def wD : Nat → D → Bool
  | 0, _ => false
  | _ + 1, .int i => decide (i.natAbs < 10 ^ 40)
  | _ + 1, .bl _ => true
  | _ + 1, .str x => PyData.strOk x
  | _ + 1, .non => true
  | k + 1, .tup ds => decide (ds.length ≤ 1000000) && ds.all (wD k)
  | k + 1, .lst ds => decide (ds.length ≤ 1000000) && ds.all (wD k)
  | k + 1, .fl ds => decide (ds.length ≤ 1000000) && ds.all (wD k)
  | _ + 1, .ty _ => false
  | _ + 1, .obj _ _ _ => false
theorem wD.mono : ∀ {k m : Nat} {d : D}, wD k d = true → k ≤ m → wD m d = true
  | 0, _, _, h, _ => by cases h
  | k + 1, 0, _, _, h => by omega
  | k + 1, m + 1, d, h, hm => by
    have many : ∀ {xs : List D}, (decide (xs.length ≤ 1000000) && xs.all (wD k)) = true → (decide (xs.length ≤ 1000000) && xs.all (wD m)) = true := fun {xs} z => by
      obtain ⟨a, b⟩ := He.ba z
      rw [a, Bool.true_and]
      exact List.all_eq_true.mpr fun x hx => wD.mono (List.all_eq_true.mp b x hx) (by omega)
    cases d with
    | tup xs => exact many h
    | lst xs => exact many h
    | fl xs => exact many h
    | _ => exact h
end Mp
set_option Elab.async false
set_option linter.all false
set_option maxRecDepth 100000
set_option maxHeartbeats 2000000
namespace Lxr
open PySem PySem.Spec PyProof.Rows L2 Mp Pl Tb
section
variable {hp : List O} {i n : Nat} {o : O} {R : S → List O → Prop} {Xp : MX}
theorem sp_big {tg' : Tg (m__law_big, R, Xp)} (ho : hp[n]? = some o) (hs : St o) (h : ∀ (s : Str) o', St o' → WOk s → R (.d (.str s)) (hp.set n o')) : mfH m__law_big hp [.mu n, .d (.lst [])] R Xp tg' := by
  have at0 : ∀ o' : O, (hp.set n o')[n]? = some o' := fun o' => set_at ho o'
  have ss : ∀ o1 o2 : O, (hp.set n o1).set n o2 = hp.set n o2 := fun o1 o2 => List.set_set ..
  have lA : (Str.ofString "ABCDEFGHIJKLMNOPQRSTUVWXYZ").length = 26 := rfl
  have la : (Str.ofString "abcdefghijklmnopqrstuvwxyz0123456789").length = 36 := rfl
  have e1 : ∀ c : Nat, (⟨#[c]⟩ : Str).length = 1 := fun _ => rfl
  refine mfH_of ?_
  unfold m__law_big
  simp only [x_def]
  rw [x_seq]
  simp [-x_seq]
  rw [x_seq]
  simp [-x_seq]
  refine ⟨by rw [lA, la]; omega, ?_⟩
  rw [x_seq]
  simp [-x_seq]
  refine s_take ho hs (by omega) fun r o1 hs1 r0 r1 _ => ?_
  have r1 := r1 (by omega)
  obtain ⟨c, hc, hc2⟩ := cap26 r0 r1
  have l26 : (Str.ofString "ABCDEFGHIJKLMNOPQRSTUVWXYZ").length ≤ 16777216 := by omega
  simp [hc, l26, -x_seq]
  rw [x_seq]
  simp [-x_seq]
  refine pick_memD (at0 _) hs1 (by simp) (by simp) fun d o2 hs2 hd => ?_
  obtain ⟨z, rfl, z0, z1⟩ : ∃ z : Nat, d = .int z ∧ 1 ≤ z ∧ z ≤ 20 := by
    simp at hd
    rcases hd with rfl | rfl | rfl | rfl | rfl
    · exact ⟨1, rfl, by omega, by omega⟩
    · exact ⟨2, rfl, by omega, by omega⟩
    · exact ⟨3, rfl, by omega, by omega⟩
    · exact ⟨4, rfl, by omega, by omega⟩
    · exact ⟨20, rfl, by omega, by omega⟩
  have c0 : wB (cs ⟨#[c]⟩) = true := by show (letC c && true) = true; rw [hc2]; rfl
  have hL : ∀ {r : Int}, 0 ≤ r → r < 62 → ∃ c, atI (Str.ofString "ABCDEFGHIJKLMNOPQRSTUVWXYZ" ++ Str.ofString "abcdefghijklmnopqrstuvwxyz0123456789").cps.toList r = some c ∧ alC c = true := fun h0 h1 => all62 h0 h1
  have l62 : (Str.ofString "ABCDEFGHIJKLMNOPQRSTUVWXYZ" ++ Str.ofString "abcdefghijklmnopqrstuvwxyz0123456789").length ≤ 16777216 := by rw [Str.length_append]; omega
  generalize (Str.ofString "ABCDEFGHIJKLMNOPQRSTUVWXYZ" ++ Str.ofString "abcdefghijklmnopqrstuvwxyz0123456789") = L at *
  simp [ss, -x_seq]
  refine seq_cut (fun hp' env' => ∃ (s : Str) (o' : O) (x6 : Option S), St o' ∧ wB (cs s) = true ∧ s.length ≤ 45 ∧ hp' = hp.set n o' ∧ env' = [some (.mu n), some (.d (.lst [])), some (.d (.str "ABCDEFGHIJKLMNOPQRSTUVWXYZ")), some (.d (.str L)), some (.d (.str s)), some (.d (.int z)), x6, none]) (fun N hN => ?_) ?_
  · simp [-x_seq]
    refine brH_of (fun hb => ?_) (fun hb => ?_)
    · rw [x_seq]
      simp [-x_seq]
      refine s_take (at0 _) hs2 (by omega) fun r o4 hs4 q0 q2 _ => ?_
      obtain ⟨c2, hc2', hc3⟩ := hL q0 (by have := q2 (by omega); omega)
      have c2ok : PyData.strOk ⟨#[c2]⟩ = true := by have := alC_lt hc3; simp [PyData.strOk]; omega
      obtain ⟨m1, m2, m3⟩ := mul_ok (x := ⟨#[c2]⟩) (n := (z : Int) - 1) c2ok (by rw [e1]; omega) (by omega) (by omega)
      rw [e1] at m3
      have a1 : wB (cs (⟨#[c]⟩ ++ Txt.mul ⟨#[c2]⟩ ((z : Int) - 1))) = true := by
        rw [cs_app]
        refine wB_app c0 fun x hx => ?_
        have := mul_mem hx
        have : x = c2 := by simpa [cs] using this
        rw [this]; exact hc3
      have a2 : (⟨#[c]⟩ ++ Txt.mul ⟨#[c2]⟩ ((z : Int) - 1)).length ≤ 20 := by rw [Str.length_append, e1]; omega
      simp [ss, hc2', l62, on, m1, -x_seq]
      refine ⟨by rw [e1]; omega, ?_⟩
      generalize (⟨#[c]⟩ ++ Txt.mul ⟨#[c2]⟩ ((z : Int) - 1)) = w at *
      rw [x_seq]
      simp [-x_seq]
      refine s_take (at0 _) hs4 (by omega) fun r o5 hs5 q0 q2 _ => ?_
      simp [ss, -x_seq]
      refine ⟨by omega, ?_⟩
      refine s_take (at0 _) hs5 (by omega) fun r' o6 hs6 q0' q2' _ => ?_
      obtain ⟨c3, hc3', hc4⟩ := hL q0' (by have := q2' (by omega); omega)
      have b1 := cutS_length w none (some (1 + r))
      have b2 := cutS_length w (some (1 + r + 1)) none
      have b3 := wB_put (v := (1 + r).toNat) a1 (by omega) hc4
      rw [show (((1 + r).toNat : Nat) : Int) = 1 + r by omega] at b3
      simp [ss, hc3', l62, on]
      refine ⟨by rw [e1]; omega, by omega, by rw [Str.length_append, e1]; omega, ?_⟩
      exact hN _ _ ⟨_, o6, _, hs6, b3, by rw [Str.length_append, Str.length_append, e1]; omega, rfl, rfl⟩
    · simp
      exact hN _ _ ⟨⟨#[c]⟩, o2, none, hs2, c0, by show 1 ≤ 45; omega, rfl, rfl⟩
  rintro _ _ ⟨s, o4, x4, hs4, hso, hsl, rfl, rfl⟩
  have hsh : shD (.str s) = true := by rw [shD_s]; exact wB_ok hso
  have i0 : inD (.str s) [] = false := rfl
  simp [hsh, i0]
  exact h _ o4 hs4 ⟨hso, by omega⟩
def SOk (s : Str) : Prop := (∀ c ∈ cs s, 32 ≤ c ∧ c ≤ 126) ∧ s.length ≤ 60
theorem ch94 {r : Int} (h0 : 0 ≤ r) (h1 : r < 94) : ∃ c, atI (Str.ofString " !\"#$&'()*+,-./0123456789:;<=>?@ABCDEFGHIJKLMNOPQRSTUVWXYZ[\\]^_`" ++ Str.ofString "abcdefghijklmnopqrstuvwxyz{|}~").cps.toList r = some c ∧ 32 ≤ c ∧ c ≤ 126 := by
  have hl : (Str.ofString " !\"#$&'()*+,-./0123456789:;<=>?@ABCDEFGHIJKLMNOPQRSTUVWXYZ[\\]^_`" ++ Str.ofString "abcdefghijklmnopqrstuvwxyz{|}~").cps.toList.length = 94 := by decide +kernel
  have ha : ∀ c ∈ (Str.ofString " !\"#$&'()*+,-./0123456789:;<=>?@ABCDEFGHIJKLMNOPQRSTUVWXYZ[\\]^_`" ++ Str.ofString "abcdefghijklmnopqrstuvwxyz{|}~").cps.toList, 32 ≤ c ∧ c ≤ 126 := by decide +kernel
  exact ⟨_, atI_nat h0 (by rw [hl]; omega), ha _ (List.getElem_mem _)⟩
theorem sp_string {tg' : Tg (m__law_string, R, Xp)} (ho : hp[n]? = some o) (hs : St o) (h : ∀ (s : Str) o', St o' → SOk s → R (.d (.str s)) (hp.set n o')) : mfH m__law_string hp [.mu n, .d (.int 6), .d (.int 40)] R Xp tg' := by
  have at0 : ∀ o' : O, (hp.set n o')[n]? = some o' := fun o' => set_at ho o'
  have ss : ∀ o1 o2 : O, (hp.set n o1).set n o2 = hp.set n o2 := fun o1 o2 => List.set_set ..
  have e1 : ∀ c : Nat, (⟨#[c]⟩ : Str).length = 1 := fun _ => rfl
  have l94 : (Str.ofString " !\"#$&'()*+,-./0123456789:;<=>?@ABCDEFGHIJKLMNOPQRSTUVWXYZ[\\]^_`" ++ Str.ofString "abcdefghijklmnopqrstuvwxyz{|}~").length ≤ 16777216 := by
    have : (cs (Str.ofString " !\"#$&'()*+,-./0123456789:;<=>?@ABCDEFGHIJKLMNOPQRSTUVWXYZ[\\]^_`" ++ Str.ofString "abcdefghijklmnopqrstuvwxyz{|}~")).length = 94 := by decide +kernel
    rw [len_cs] at this
    omega
  refine mfH_of ?_
  unfold m__law_string
  simp only [x_def]
  rw [x_seq]
  simp [-x_seq]
  refine s_count ho hs (by omega) (by omega) (by omega) (by omega) fun z o1 hs1 z0 z1 => ?_
  obtain ⟨z, rfl⟩ : ∃ z' : Nat, z = z' := ⟨z.toNat, by omega⟩
  have z40 : z ≤ 40 := by omega
  simp [-x_seq]
  rw [x_seq]
  simp [-x_seq]
  refine Tb.sp_chars ?_
  simp [-x_seq]
  refine s_take (at0 _) hs1 (by omega) fun r o2 hs2 r0 r1 _ => ?_
  obtain ⟨c, hc, c32, c126⟩ := ch94 r0 (r1 (by omega))
  simp [ss, l94, hc, -x_seq]
  rw [x_seq]
  simp [-x_seq]
  obtain ⟨sg, hsg⟩ : ∃ sg, sg = [D.str (Str.ofString "\""), D.str (Str.ofString "#"), D.str (Str.ofString " "), D.str (Str.ofString "\\"), D.str (Str.ofString "b"), D.str (Str.ofString "~"), D.str (Str.ofString "0"), D.str ⟨#[c]⟩] := ⟨_, rfl⟩
  have lsg : sg.length = 8 := by rw [hsg]; rfl
  have sg7 : atI sg 7 = some (.str ⟨#[c]⟩) := by rw [hsg]; rfl
  have bsg : ∀ d ∈ sg, ∃ k, d = .str ⟨#[k]⟩ ∧ 32 ≤ k ∧ k ≤ 126 := fun d hd => by
    rw [hsg] at hd
    simp at hd
    rcases hd with rfl | rfl | rfl | rfl | rfl | rfl | rfl | rfl
    · exact ⟨34, rfl, by omega, by omega⟩
    · exact ⟨35, rfl, by omega, by omega⟩
    · exact ⟨32, rfl, by omega, by omega⟩
    · exact ⟨92, rfl, by omega, by omega⟩
    · exact ⟨98, rfl, by omega, by omega⟩
    · exact ⟨126, rfl, by omega, by omega⟩
    · exact ⟨48, rfl, by omega, by omega⟩
    · exact ⟨c, rfl, c32, c126⟩
  rw [← hsg]
  rw [x_seq]
  simp [-x_seq]
  obtain ⟨m, em, m12⟩ : ∃ m : Nat, (if 12 < (z : Int) then 12 else (z : Int)) = m ∧ m ≤ 12 := by
    by_cases g : (12 : Int) < z
    · exact ⟨12, by rw [if_pos g]; rfl, by omega⟩
    · exact ⟨z, by rw [if_neg g], by omega⟩
  rw [em]
  refine ⟨by omega, by omega, ?_⟩
  rw [show ((m : Int)).toNat = m by omega]
  refine forH_rng (fun i hp' env' => ∃ (s : Str) (o' : O) (e6 : Option S), St o' ∧ (∀ c ∈ cs s, 32 ≤ c ∧ c ≤ 126) ∧ s.length ≤ i ∧ hp' = hp.set n o' ∧ env' = [some (.mu n), some (.d (.int 6)), some (.d (.int 40)), some (.d (.int z)), some (.d (.lst sg)), some (.d (.str s)), e6]) ⟨Str.ofString "", o2, none, hs2, (by intro c hc; cases hc), Nat.le_refl _, rfl, rfl⟩ ?_ ?_
  · rintro i _ _ N hi ⟨s, o3, e6, hs3, hsc, hsl, rfl, rfl⟩ hN
    simp
    refine pick_memD (at0 _) hs3 (by omega) (by omega) fun d o4 hs4 hd => ?_
    obtain ⟨k, rfl, k1, k2⟩ := bsg d hd
    simp [ss]
    refine ⟨by rw [e1]; omega, hN _ _ ⟨_, o4, _, hs4, fun c hc => ?_, by rw [Str.length_append, e1]; omega, rfl, rfl⟩⟩
    rw [cs_app] at hc
    rcases List.mem_append.mp hc with q | q
    · exact hsc c q
    · have : c = k := by simpa [cs] using q
      rw [this]; exact ⟨k1, k2⟩
  · rintro _ _ ⟨s, o3, e6, hs3, hsc, hsl, rfl, rfl⟩
    by_cases g : (12 : Int) < z
    · have cok : PyData.strOk ⟨#[c]⟩ = true := by simp [PyData.strOk]; omega
      obtain ⟨m1, m2, m3⟩ := mul_ok (x := ⟨#[c]⟩) (n := (z : Int) - 12) cok (by rw [e1]; omega) (by omega) (by omega)
      rw [e1] at m3
      simp [g, sg7, m1]
      refine ⟨by omega, h _ o3 hs3 ⟨fun d hd => ?_, by rw [Str.length_append]; omega⟩⟩
      rw [cs_app] at hd
      rcases List.mem_append.mp hd with q | q
      · exact hsc d q
      · have := mul_mem q
        have : d = c := by simpa [cs] using this
        rw [this]; exact ⟨c32, c126⟩
    · simp [g]
      exact h _ o3 hs3 ⟨hsc, by omega⟩
theorem hexAt {k : Int} (h0 : 0 ≤ k) (h1 : k < 16) : atI (Str.ofString "0123456789abcdef").cps.toList k = some (hd k.toNat) := by
  have : ∀ k : Fin 16, (Str.ofString "0123456789abcdef").cps.toList[k.val]? = some (hd k.val) := by decide +kernel
  exact atI_some (this ⟨k.toNat, by omega⟩) (by show k = ((k.toNat : Nat) : Int); omega)
def hx2 (x : Int) : List Nat := [hd (x.toNat / 16), hd (x.toNat % 16)]
theorem strs2 : ∀ {g : List Int}, strsD (g.map fun x => D.str (mkS (hx2 x))) = some (g.map fun x => mkS (hx2 x))
  | [] => rfl
  | c :: s => by simp [strsD, strs2 (g := s)]
theorem join2 : ∀ g : List Int, Str.join ⟨#[]⟩ (g.map fun x => mkS (hx2 x)) = mkS (hexL (g.map Int.toNat))
  | [] => rfl
  | [x] => rfl
  | x :: y :: r => by
    have ih := join2 (y :: r)
    show mkS (hx2 x) ++ ⟨#[]⟩ ++ Str.join ⟨#[]⟩ ((y :: r).map fun x => mkS (hx2 x)) = _
    rw [ih]
    refine mk_inj ?_
    rw [cs_app, cs_app]
    show hx2 x ++ [] ++ _ = _
    rw [List.append_nil]
    rfl
theorem sum2 : ∀ {g : List Int}, (g.map ((fun x : Str => x.length) ∘ fun x => mkS (hx2 x))).sum = 2 * g.length
  | [] => rfl
  | c :: s => by rw [List.map_cons, List.sum_cons, sum2 (g := s), List.length_cons]; show 2 + _ = _; omega
theorem sp_hex {g : List Int} {tg' : Tg (m__law_hex, R, Xp)} (hg : Bd 0 255 g) (hl : g.length ≤ 300) (h : R (.d (.str (mkS (hexL (g.map Int.toNat))))) hp) : mfH m__law_hex hp [.d (.lst (iL g))] R Xp tg' := by
  refine mfH_of ?_
  unfold m__law_hex
  simp
  have l16 : (Str.ofString "0123456789abcdef").length ≤ 16777216 := by
    have : (Str.ofString "0123456789abcdef").length = 16 := rfl
    omega
  have e1 : ∀ c : Nat, (⟨#[c]⟩ : Str).length = 1 := fun _ => rfl
  refine compH_l (f := D.int) (fun x => .str (mkS (hx2 x))) (l := g) trivial (by omega) (fun x hx N hN => ?_) ?_
  · obtain ⟨x0, x1⟩ := hg x hx
    have cd : CDivW x 16 := by
      have : Nat.log2 16 < 9000 := by decide
      unfold CDivW
      simp
      omega
    have a1 := hexAt (k := x / 16) (by omega) (by omega)
    have a2 := hexAt (k := x % 16) (by omega) (by omega)
    have t1 : (x / 16).toNat = x.toNat / 16 := by omega
    have t2 : (x % 16).toNat = x.toNat % 16 := by omega
    rw [t1] at a1
    rw [t2] at a2
    simp [cd, a1, a2, l16]
    exact ⟨by rw [e1, e1]; omega, hN⟩
  have lj : Txt.join (Str.ofString "") (g.map fun x => mkS (hx2 x)) = mkS (hexL (g.map Int.toNat)) := (StrLaws.glued_eq_join _ _).trans (join2 g)
  have l0 : (Str.ofString "").length = 0 := rfl
  simp [strs2]
  refine ⟨by rw [sum2, l0, Nat.mul_zero]; omega, ?_⟩
  rw [lj]
  exact h
theorem sp_long_figure {tg' : Tg (m__law_long_figure, R, Xp)} (ho : hp[n]? = some o) (hs : St o) (h : ∀ (x : Int) o', St o' → x.natAbs < 10 ^ 60 → R (.d (.int x)) (hp.set n o')) : mfH m__law_long_figure hp [.mu n] R Xp tg' := by
  have at0 : ∀ o' : O, (hp.set n o')[n]? = some o' := fun o' => set_at ho o'
  have ss : ∀ o1 o2 : O, (hp.set n o1).set n o2 = hp.set n o2 := fun o1 o2 => List.set_set ..
  refine mfH_of ?_
  unfold m__law_long_figure
  simp only [x_def]
  rw [x_seq]
  simp [-x_seq]
  refine s_take ho hs (by omega) fun u o1 hs1 _ _ _ => ?_
  simp [-x_seq]
  rw [x_seq]
  simp [-x_seq]
  refine brH_of (fun hb => ?_) fun hb => ?_
  · simp
    refine pick_memD (at0 _) hs1 (by simp) (by simp) fun d o2 hs2 hd => ?_
    obtain ⟨x, rfl, hx⟩ : ∃ x : Int, d = .int x ∧ x.natAbs < 10 ^ 60 := by
      simp at hd
      rcases hd with rfl | rfl | rfl | rfl | rfl | rfl <;> exact ⟨_, rfl, by decide⟩
    simp [ss]
    exact h _ o2 hs2 hx
  simp [-x_seq]
  rw [x_seq]
  simp [-x_seq]
  refine brH_of (fun hb => ?_) fun hb => ?_
  · simp
    refine s_takeW (at0 _) hs1 (by omega) fun x o2 hs2 x0 x1 _ => ?_
    have x1 := x1 (by omega)
    simp [ss]
    exact h _ o2 hs2 (by omega)
  simp [-x_seq]
  rw [x_seq]
  simp [-x_seq]
  refine brH_of (fun hb => ?_) fun hb => ?_
  · simp
    refine Rn.sp_figure (at0 _) hs1 fun x o2 hs2 hf => ?_
    obtain ⟨f1, f2⟩ := hf
    simp [ss]
    exact h _ o2 hs2 (by omega)
  simp
  refine s_take (at0 _) hs1 (by omega) fun x o2 hs2 x0 x1 _ => ?_
  have x1 := x1 (by omega)
  simp [ss]
  exact h _ o2 hs2 (by omega)
def Tk.d (t : Tk) : D := .tup [.str t.sort, t.con, .str (mkS t.txt)]
structure TkOk (t : Tk) : Prop where
  ok : t.ok
  nl : 10 ∉ t.txt
  len : t.txt.length ≤ 200
  low : ∀ c ∈ t.txt, c < 128
  pl : plN 2 t.con = true
theorem tk_word {s : Str} (h : WOk s) : TkOk (.word (cs s)) ∧ (Tk.word (cs s)).d = .tup [.str (Str.ofString "word"), .str s, .str s] := by
  obtain ⟨h1, h2⟩ := h
  have hl := len_cs (x := s)
  refine ⟨⟨wB_word h1, fun z => ?_, by show (cs s).length ≤ 200; omega, fun c hc => alC_lt (wB_all h1 c hc), ?_⟩, rfl⟩
  · have := wB_all h1 10 z
    revert this
    decide
  · show shD (.str (mkS (cs s))) = true
    rw [shD_s]
    exact wB_ok h1
theorem low_ok {l : List Nat} (h : ∀ c ∈ l, c < 128) : PyData.strOk (mkS l) = true := ok_small fun c hc => by have := h c hc; omega
theorem tk_fig {x : Int} (h : x.natAbs < 10 ^ 60) : TkOk (.fig x) ∧ (Tk.fig x).d = .tup [.str (Str.ofString "figure"), .int x, .str (Str.ofString (toString x))] := by
  have nl := TL.numL_len (n := x.natAbs) (k := 60) (by decide) h
  have dg := TL.numL_digits x.natAbs
  have hm : ∀ c ∈ figL x, c = 45 ∨ (48 ≤ c ∧ c ≤ 57) := fun c hc => by
    unfold figL at hc
    split at hc
    · rcases List.mem_cons.mp hc with rfl | hc
      · exact .inl rfl
      · exact .inr (dg c hc)
    · exact .inr (dg c hc)
  refine ⟨⟨h, fun z => by have := hm 10 z; omega, ?_, fun c hc => by have := hm c hc; omega, rfl⟩, ?_⟩
  · show (figL x).length ≤ 200
    unfold figL
    split <;> (try simp) <;> omega
  · show D.tup [_, _, .str (mkS (figL x))] = _
    rw [← figL_eq, mk_cs]
    rfl
theorem dbl_mem {s : List Nat} {c : Nat} (h : c ∈ StrLaws.dbl 34 s) : c ∈ s := by
  induction s with
  | nil => cases h
  | cons x s ih =>
    rw [dbl_cons] at h
    split at h
    · rename_i z
      rcases List.mem_append.mp h with h | h
      · simp at h; rw [h, z]; simp
      · simp [ih h]
    · rcases List.mem_append.mp h with h | h
      · simp at h; rw [h]; simp
      · simp [ih h]
theorem dbl_len : ∀ s : List Nat, (StrLaws.dbl 34 s).length ≤ 2 * s.length
  | [] => Nat.le_refl _
  | c :: s => by have := dbl_len s; rw [dbl_cons]; split <;> simp <;> omega
theorem tk_str {s : Str} (h : SOk s) : TkOk (.str (cs s)) ∧ (Tk.str (cs s)).d = .tup [.str (Str.ofString "string"), .str s, .str (Str.ofString "\"" ++ Txt.replace s (Str.ofString "\"") (Str.ofString "\"\"") ++ Str.ofString "\"")] := by
  obtain ⟨h1, h2⟩ := h
  have hl := len_cs (x := s)
  have hd := dbl_len (cs s)
  have hm : ∀ c ∈ (Tk.str (cs s)).txt, 32 ≤ c ∧ c ≤ 126 := fun c hc => by
    simp [Tk.txt] at hc
    rcases hc with rfl | hc | rfl
    · omega
    · exact h1 c (dbl_mem hc)
    · omega
  refine ⟨⟨fun z => by have := h1 10 z; omega, fun z => by have := hm 10 z; omega, by simp [Tk.txt]; omega, fun c hc => by have := hm c hc; omega, ?_⟩, ?_⟩
  · show shD (.str (mkS (cs s))) = true
    rw [shD_s]
    exact low_ok fun c hc => by have := h1 c hc; omega
  · have hr := PyProof.Rows.replace_dbl s (Str.ofString "\"") (Str.ofString "\"\"") 34 rfl rfl
    rw [hr]
    show D.tup [_, _, .str (mkS (34 :: (StrLaws.dbl 34 (cs s) ++ [34])))] = D.tup [_, _, .str (mkS [34] ++ mkS (StrLaws.dbl 34 (cs s)) ++ mkS [34])]
    rw [mk_app, mk_app]
    rfl
theorem hd_lt {k : Nat} (h : k < 16) : 48 ≤ hd k ∧ hd k < 128 := by unfold hd; split <;> omega
theorem tk_hex {g : List Int} (hg : Bd 0 255 g) (hl : g.length ≤ 30) : TkOk (.hex (g.map Int.toNat)) ∧ (Tk.hex (g.map Int.toNat)).d = .tup [.str (Str.ofString "hex"), .tup (iL g), .str (Str.ofString "h\"" ++ mkS (hexL (g.map Int.toNat)) ++ Str.ofString "\"")] := by
  have hb : ∀ o ∈ g.map Int.toNat, o < 256 := fun o ho => by
    obtain ⟨x, hx, rfl⟩ := List.mem_map.mp ho
    have := hg x hx
    omega
  have em : ((g.map Int.toNat).map fun o : Nat => D.int o) = iL g := by
    rw [List.map_map]
    exact List.map_congr_left fun x hx => by
      have := hg x hx
      show D.int ((x.toNat : Nat) : Int) = .int x
      rw [Int.toNat_of_nonneg (by omega)]
  have hm : ∀ c ∈ (Tk.hex (g.map Int.toNat)).txt, 32 ≤ c ∧ c < 128 := fun c hc => by
    simp only [Tk.txt, List.mem_cons, List.mem_append] at hc
    rcases hc with rfl | rfl | hc | hc
    · omega
    · omega
    · obtain ⟨k, hk, rfl⟩ := hex_mem hb c hc
      have := hd_lt hk
      omega
    · simp at hc; omega
  refine ⟨⟨hb, fun z => by have := hm 10 z; omega, ?_, fun c hc => (hm c hc).2, ?_⟩, ?_⟩
  · show (104 :: 34 :: (hexL (g.map Int.toNat) ++ [34])).length ≤ 200
    simp [hex_len]
    omega
  · show plN 2 (.tup _) = true
    rw [em]
    show (decide ((iL g).length ≤ 1000000) && (iL g).all (plN 1)) = true
    rw [decide_eq_true (by simp [iL]; omega), Bool.true_and]
    exact List.all_eq_true.mpr fun d hd => by
      obtain ⟨x, _, rfl⟩ := List.mem_map.mp hd
      rfl
  · show D.tup [_, .tup _, .str (mkS (104 :: 34 :: (hexL (g.map Int.toNat) ++ [34])))] = _
    rw [em]
    show _ = D.tup [_, _, .str (mkS [104, 34] ++ mkS (hexL (g.map Int.toNat)) ++ mkS [34])]
    rw [mk_app, mk_app]
    rfl
theorem tk_bits {s : List Nat} (hs : ∀ c ∈ s, c = 48 ∨ c = 49) (hl : s.length ≤ 60) : TkOk (.bits s) ∧ (Tk.bits s).d = .tup [.str (Str.ofString "bits"), .str (mkS s), .str (Str.ofString "b\"" ++ mkS s ++ Str.ofString "\"")] := by
  have hm : ∀ c ∈ (Tk.bits s).txt, 32 ≤ c ∧ c < 128 := fun c hc => by
    simp only [Tk.txt, List.mem_cons, List.mem_append] at hc
    rcases hc with rfl | rfl | hc | hc
    · omega
    · omega
    · have := hs c hc; omega
    · simp at hc; omega
  refine ⟨⟨hs, fun z => by have := hm 10 z; omega, by simp [Tk.txt]; omega, fun c hc => (hm c hc).2, ?_⟩, ?_⟩
  · show shD (.str (mkS s)) = true
    rw [shD_s]
    exact low_ok fun c hc => by have := hs c hc; omega
  · show D.tup [_, _, .str (mkS (98 :: 34 :: (s ++ [34])))] = D.tup [_, _, .str (mkS [98, 34] ++ mkS s ++ mkS [34])]
    rw [mk_app, mk_app]
    rfl
theorem tk_mark {s : List Nat} (h : s ∈ marks) : TkOk (.mark s) ∧ (Tk.mark s).d = .tup [.str (Str.ofString "mark"), .str (mkS s), .str (mkS s)] := by
  have hb : ∀ s ∈ marks, (!decide (10 ∈ s) && decide (s.length ≤ 200) && s.all (fun c => decide (c < 128))) = true := by decide +kernel
  have := hb s h
  simp at this
  obtain ⟨⟨a, b⟩, c⟩ := this
  refine ⟨⟨h, a, b, fun x hx => c x hx, ?_⟩, rfl⟩
  show shD (.str (mkS s)) = true
  rw [shD_s]
  exact low_ok fun x hx => c x hx
end
end Lxr
set_option Elab.async false
set_option linter.all false
set_option maxRecDepth 100000
set_option maxHeartbeats 2000000
namespace Lxr
open PySem PySem.Spec PyProof.Rows L2 Mp Pl Tb
theorem adv_line : ∀ (l : List Nat) (p : Nat × Nat), ((adv p l).1 : Int) = p.1 + cnt 10 l
  | [], p => by rw [cnt_nil]; show (p.1 : Int) = _; omega
  | c :: l, p => by
    have := adv_line l (step p c)
    show ((adv (step p c) l).1 : Int) = _
    rw [this, cnt_cons]
    unfold step
    split <;> simp <;> omega
theorem At_1 {x : Str} {i : Nat} : StrLaws.At x ⟨#[10]⟩ x.length i ↔ (cs x)[i]? = some 10 := StrLaws.subAt_one x 10 i
theorem adv_col {x : Str} : ((adv (1, 1) (cs x)).2 : Int) = x.length - Txt.rfind x (Str.ofString "\n") := by
  show _ = (x.length : Int) - Txt.rfind x ⟨#[10]⟩
  unfold Txt.rfind
  have hl := len_cs (x := x)
  rcases StrLaws.last_spec x ⟨#[10]⟩ with ⟨e, h⟩ | ⟨i, e, h1, h2⟩
  · rw [e]
    have hf : 10 ∉ cs x := fun z => by
      obtain ⟨i, hi⟩ := List.mem_iff_getElem?.mp z
      exact h i (At_1.mpr hi)
    rw [adv_free hf, len_cs]
    show ((1 + x.length : Nat) : Int) = x.length - (-1)
    omega
  · rw [e]
    have a1 := At_1.mp h1
    obtain ⟨g1, g2⟩ := List.getElem?_eq_some_iff.mp a1
    have hf : 10 ∉ (cs x).drop (i + 1) := fun z => by
      obtain ⟨k, hk⟩ := List.mem_iff_getElem?.mp z
      rw [List.getElem?_drop] at hk
      exact h2 _ (by omega) (At_1.mpr hk)
    have es : cs x = (cs x).take i ++ 10 :: (cs x).drop (i + 1) := by
      rw [← g2, ← List.drop_eq_getElem_cons g1, List.take_append_drop]
    have ea : adv (1, 1) (cs x) = adv (step (adv (1, 1) ((cs x).take i)) 10) ((cs x).drop (i + 1)) := by
      conv => lhs; rw [es]
      rw [adv_app]
      rfl
    rw [ea]
    show ((adv ((adv (1, 1) ((cs x).take i)).1 + 1, 1) ((cs x).drop (i + 1))).2 : Int) = _
    rw [adv_free hf, List.length_drop, len_cs]
    rw [len_cs] at g1
    show ((1 + (x.length - (i + 1)) : Nat) : Int) = x.length - (i : Int)
    omega
section
variable {hp : List O} {i n : Nat} {o : O} {R : S → List O → Prop} {Xp : MX}
theorem sp_token {tg' : Tg (m__law_token, R, Xp)} (ho : hp[n]? = some o) (hs : St o) (h : ∀ (t : Tk) o', St o' → TkOk t → R (.d t.d) (hp.set n o')) : mfH m__law_token hp [.mu n] R Xp tg' := by
  have at0 : ∀ o' : O, (hp.set n o')[n]? = some o' := fun o' => set_at ho o'
  have ss : ∀ o1 o2 : O, (hp.set n o1).set n o2 = hp.set n o2 := fun o1 o2 => List.set_set ..
  have e1 : ∀ c : Nat, (⟨#[c]⟩ : Str).length = 1 := fun _ => rfl
  refine mfH_of ?_
  unfold m__law_token
  simp only [x_def]
  rw [x_seq]
  simp [-x_seq]
  refine s_take ho hs (by omega) fun u o1 hs1 _ _ _ => ?_
  simp [-x_seq]
  rw [x_seq]
  simp [-x_seq]
  refine brH_of (fun hb => ?_) fun hb => ?_
  · rw [x_seq]
    simp [-x_seq]
    have aok : PyData.strOk (Str.ofString "a") = true := ofS_ok
    obtain ⟨m1, m2, m3⟩ := mul_ok (x := Str.ofString "a") (n := 40) aok (by decide +kernel) (by omega) (by omega)
    refine ⟨m1, ?_⟩
    refine sp_reservedW fun rsv z1 z3 => ?_
    simp [-x_seq]
    refine pick_memD (at0 _) hs1 (by simp; omega) (by simp; omega) fun d o2 hs2 hd => ?_
    obtain ⟨s, hsm, rfl⟩ := List.mem_map.mp hd
    obtain ⟨k1, k2⟩ := z3 s hsm
    simp [ss, -x_seq]
    refine sp_nameW (at0 _) hs2 fun nm o3 hs3 hnm => ?_
    simp [ss, -x_seq]
    refine pick_memD (at0 _) hs3 (by simp) (by simp) fun d o4 hs4 hd => ?_
    obtain ⟨w, rfl, hw⟩ : ∃ w : Str, d = .str w ∧ WOk w := by
      simp at hd
      rcases hd with rfl | rfl | rfl | rfl | rfl | rfl | rfl
      · exact ⟨_, rfl, by decide +kernel, by decide +kernel⟩
      · exact ⟨_, rfl, by decide +kernel, by decide +kernel⟩
      · exact ⟨_, rfl, by decide +kernel, by decide +kernel⟩
      · exact ⟨_, rfl, by decide +kernel, by decide +kernel⟩
      · exact ⟨_, rfl, by decide +kernel, by decide +kernel⟩
      · exact ⟨_, rfl, k1, by omega⟩
      · exact ⟨_, rfl, hnm⟩
    obtain ⟨t1, t2⟩ := tk_word hw
    simp [ss]
    rw [← t2]
    exact h _ o4 hs4 t1
  simp [-x_seq]
  rw [x_seq]
  simp [-x_seq]
  refine brH_of (fun hb => ?_) fun hb => ?_
  · simp
    refine sp_big (at0 _) hs1 fun w o2 hs2 hw => ?_
    obtain ⟨t1, t2⟩ := tk_word hw
    simp [ss]
    rw [← t2]
    exact h _ o2 hs2 t1
  simp [-x_seq]
  rw [x_seq]
  simp [-x_seq]
  refine brH_of (fun hb => ?_) fun hb => ?_
  · simp
    refine sp_long_figure (at0 _) hs1 fun x o2 hs2 hx => ?_
    obtain ⟨t1, t2⟩ := tk_fig hx
    have lg : x.natAbs.log2 < 1920 := by
      by_cases z : x.natAbs = 0
      · rw [z]; decide
      · exact (Nat.log2_lt z).mpr (by omega)
    simp [ss]
    refine ⟨lg, ?_⟩
    have e : Str.ofString x.repr = Str.ofString (toString x) := rfl
    rw [e, ← t2]
    exact h _ o2 hs2 t1
  simp [-x_seq]
  rw [x_seq]
  simp [-x_seq]
  refine brH_of (fun hb => ?_) fun hb => ?_
  · simp
    refine sp_string (at0 _) hs1 fun s o2 hs2 hw => ?_
    obtain ⟨t1, t2⟩ := tk_str hw
    simp [ss]
    have hr := PyProof.Rows.replace_dbl s (Str.ofString "\"") (Str.ofString "\"\"") 34 rfl rfl
    have lr : (Txt.replace s (Str.ofString "\"") (Str.ofString "\"\"")).length ≤ 120 := by
      have := dbl_len (cs s)
      rw [len_cs] at this
      have h60 := hw.2
      rw [hr]
      show (StrLaws.dbl 34 (cs s)).toArray.size ≤ 120
      rw [List.size_toArray]
      omega
    have lq : (Str.ofString "\"").length = 1 := rfl
    have lqq : (Str.ofString "\"\"").length = 2 := rfl
    have h60 := hw.2
    refine ⟨by rw [lqq]; omega, by omega, by rw [Str.length_append]; omega, ?_⟩
    rw [← t2]
    exact h _ o2 hs2 t1
  simp [-x_seq]
  rw [x_seq]
  simp [-x_seq]
  refine brH_of (fun hb => ?_) fun hb => ?_
  · simp
    refine s_take (at0 _) hs1 (by omega) fun v o2 hs2 v0 v1 _ => ?_
    have l7 : (Str.ofString "0110100").length = 7 := rfl
    simp [ss]
    refine ⟨by omega, ?_⟩
    refine s_take (at0 _) hs2 (by omega) fun w o3 hs3 w0 w1 _ => ?_
    have w1 := w1 (by omega)
    have cl : (cutS (Str.ofString "0110100") (some v) none).length ≤ 7 := cutS_length _ _ _
    have cm : ∀ c ∈ cs (cutS (Str.ofString "0110100") (some v) none), c = 48 ∨ c = 49 := fun c hc => by
      have : c ∈ cs (Str.ofString "0110100") := by
        have hc' : c ∈ (((Str.ofString "0110100").cps.toList.drop _).take _) := hc
        exact List.mem_of_mem_drop (List.mem_of_mem_take hc')
      have a : ∀ c ∈ cs (Str.ofString "0110100"), c = 48 ∨ c = 49 := by decide +kernel
      exact a c this
    generalize cutS (Str.ofString "0110100") (some v) none = b at *
    have bok : PyData.strOk b = true := ok_small fun c hc => by have := cm c hc; omega
    obtain ⟨m1, m2, m3⟩ := mul_ok (x := b) (n := w) bok (by omega) (by omega) (by omega)
    have mm : ∀ c ∈ cs (Txt.mul b w), c = 48 ∨ c = 49 := fun c hc => cm c (mul_mem hc)
    have ml : (Txt.mul b w).length ≤ 60 := by
      have : b.length * w.toNat ≤ 7 * 4 := Nat.mul_le_mul cl (by omega)
      omega
    obtain ⟨t1, t2⟩ := tk_bits (s := cs (Txt.mul b w)) mm (by rw [len_cs]; exact ml)
    rw [mk_cs] at t2
    have lb : (Str.ofString "b\"").length = 2 := rfl
    have lq : (Str.ofString "\"").length = 1 := rfl
    simp [ss, m1]
    refine ⟨by omega, by rw [Str.length_append]; omega, ?_⟩
    rw [← t2]
    exact h _ o3 hs3 t1
  simp [-x_seq]
  rw [x_seq]
  simp [-x_seq]
  refine brH_of (fun hb => ?_) fun hb => ?_
  · simp
    refine sp_octet_rowW (at0 _) hs1 (by omega) (by omega) (by omega) (by omega) fun g o2 hs2 hg hl => ?_
    simp [ss]
    have g30 : g.length ≤ 30 := by omega
    obtain ⟨t1, t2⟩ := tk_hex hg g30
    refine sp_hex hg (by omega) ?_
    have lh : (Str.ofString "h\"").length = 2 := rfl
    have lq : (Str.ofString "\"").length = 1 := rfl
    have lx : (mkS (hexL (g.map Int.toNat))).length = 2 * g.length := by
      rw [← len_cs]
      show (hexL _).length = _
      rw [hex_len, List.length_map]
    simp
    refine ⟨by omega, by rw [Str.length_append]; omega, ?_⟩
    rw [← t2]
    exact h _ o2 hs2 t1
  simp
  refine pick_memD (at0 _) hs1 (by simp) (by simp) fun d o2 hs2 hd => ?_
  rw [marks_l] at hd
  obtain ⟨m, hm, rfl⟩ := List.mem_map.mp hd
  obtain ⟨t1, t2⟩ := tk_mark hm
  simp [ss]
  rw [← t2]
  exact h _ o2 hs2 t1
theorem sp_spot {x : Str} {tg' : Tg (m__law_spot, R, Xp)} (hz : x.length ≤ 1000000) (h : R (.d (.tup [.int (adv (1, 1) (cs x)).1, .int (adv (1, 1) (cs x)).2])) hp) : mfH m__law_spot hp [.d (.str x)] R Xp tg' := by
  refine mfH_of ?_
  unfold m__law_spot
  simp
  refine ⟨by omega, ?_⟩
  have e1 := adv_line (cs x) (1, 1)
  have e2 := adv_col (x := x)
  have e3 : Txt.count x (Str.ofString "\n") = cnt 10 (cs x) := count_is x 10
  rw [e3, ← e2]
  rw [e1] at h
  exact h
end
end Lxr
set_option Elab.async false
set_option linter.all false
set_option maxRecDepth 100000
set_option maxHeartbeats 2000000
namespace Lxr
open PySem PySem.Spec PyProof.Rows L2 Mp Pl Tb
def Thru (l : List Nat) : Prop := ∀ p r o, LX (adv p l) r o → LX p (l ++ r) o
mutual
def thruB : List Nat → Bool
  | [] => true
  | c :: l => if c = 32 ∨ c = 10 then thruB l else if c = 35 then remB l else false
def remB : List Nat → Bool
  | [] => false
  | c :: l => if c = 10 then thruB l else remB l
end
theorem thru_of : ∀ (l : List Nat), (thruB l = true → Thru l) ∧ (∀ m, 10 ∉ m → remB l = true → Thru (35 :: m ++ l))
  | [] => ⟨fun _ p r o h => h, fun m hm h => by simp [remB] at h⟩
  | c :: l => by
    obtain ⟨h1, h2⟩ := thru_of l
    constructor
    · intro h
      unfold thruB at h
      split at h
      · rename_i hc
        intro p r o hx
        exact LX.bl hc (h1 h (step p c) r o hx)
      split at h
      · rename_i hc
        subst hc
        exact h2 [] (by simp) h
      · cases h
    · intro m hm h
      unfold remB at h
      split at h
      · rename_i hc
        subst hc
        intro p r o hx
        have e : (35 :: m ++ 10 :: l) ++ r = 35 :: m ++ (10 :: (l ++ r)) := by simp
        rw [e]
        refine LX.rem hm (.inr ⟨_, rfl⟩) (LX.bl (.inr rfl) (h1 h _ r o ?_))
        have : adv p (35 :: m ++ 10 :: l) = adv (step (adv p (35 :: m)) 10) l := by rw [adv_app]; rfl
        rw [← this]
        exact hx
      · rename_i hc
        have := h2 (m ++ [c]) (by intro z; rcases List.mem_append.mp z with z | z; exact hm z; simp at z; exact hc z.symm) h
        have e : 35 :: (m ++ [c]) ++ l = 35 :: m ++ c :: l := by simp
        rw [e] at this
        exact this
mutual
def endB : List Nat → Bool
  | [] => true
  | c :: l => if c = 32 ∨ c = 10 then endB l else if c = 35 then erB l else false
def erB : List Nat → Bool
  | [] => true
  | c :: l => if c = 10 then endB l else erB l
end
def Last (l : List Nat) : Prop := ∀ p, LX p l [endD (adv p l)]
theorem last_of : ∀ (l : List Nat), (endB l = true → Last l) ∧ (∀ m, 10 ∉ m → erB l = true → Last (35 :: m ++ l))
  | [] => ⟨fun _ p => .nil, fun m hm _ p => by
    have := LX.rem (p := p) hm (.inl rfl) .nil
    rw [List.append_nil] at this ⊢
    exact this⟩
  | c :: l => by
    obtain ⟨h1, h2⟩ := last_of l
    constructor
    · intro h
      unfold endB at h
      split at h
      · rename_i hc
        intro p
        exact LX.bl hc (h1 h (step p c))
      split at h
      · rename_i hc
        subst hc
        exact h2 [] (by simp) h
      · cases h
    · intro m hm h
      unfold erB at h
      split at h
      · rename_i hc
        subst hc
        intro p
        refine LX.rem hm (.inr ⟨_, rfl⟩) (LX.bl (.inr rfl) ?_)
        have : adv p (35 :: m ++ 10 :: l) = adv (step (adv p (35 :: m)) 10) l := by rw [adv_app]; rfl
        rw [this]
        exact h1 h _
      · rename_i hc
        have := h2 (m ++ [c]) (by intro z; rcases List.mem_append.mp z with z | z; exact hm z; simp at z; exact hc z.symm) h
        have e : 35 :: (m ++ [c]) ++ l = 35 :: m ++ c :: l := by simp
        rw [e] at this
        exact this
def gapH : List Nat → Bool
  | [] => true
  | c :: _ => c == 32 || c == 10 || c == 35
theorem fol_gap {t : Tk} {c : Nat} (h : (c == 32 || c == 10 || c == 35) = true) : t.fol c = true := by
  have hc : c = 32 ∨ c = 10 ∨ c = 35 := by simpa [or_assoc] using h
  cases t with
  | word s => rcases hc with rfl | rfl | rfl <;> simp [Tk.fol, letC, digC]
  | fig x => rcases hc with rfl | rfl | rfl <;> simp [Tk.fol, letC, digC]
  | str s => rcases hc with rfl | rfl | rfl <;> simp [Tk.fol]
  | mark s => rcases hc with rfl | rfl | rfl <;> simp [Tk.fol]
  | bits s => rfl
  | hex s => rfl
theorem folL_gap {t : Tk} {l r : List Nat} (h : gapH l = true) (hl : l ≠ []) : t.folL (l ++ r) := by
  intro c r' e
  cases l with
  | nil => exact absurd rfl hl
  | cons x l =>
    cases e
    exact fol_gap h
theorem folL_last {t : Tk} {l : List Nat} (h : gapH l = true) : t.folL l := by
  intro c r' e
  subst e
  exact fol_gap h
def Tk.isM : Tk → Bool
  | .mark _ => true
  | _ => false
def Tk.isF : Tk → Bool
  | .fig _ => true
  | _ => false
def Tk.isS : Tk → Bool
  | .str _ => true
  | _ => false
def singles : List (List Nat) := [[123], [125], [40], [41], [91], [93], [60], [62], [44], [59], [58], [61], [124]]
theorem eqD_str {a b : Str} : eqD (.str a) (.str b) = (a == b) := rfl
theorem single_mem {s : List Nat} (h : inE (.str (mkS s)) (singles.map fun m => .str (mkS m)) = true) : s ∈ singles := by
  unfold inE at h
  rw [List.any_map, List.any_eq_true] at h
  obtain ⟨m, hm, e⟩ := h
  have e2 : (mkS m == mkS s) = true := e
  have e3 := congrArg cs (eq_of_beq e2)
  simp at e3
  rw [← e3]
  exact hm
theorem tx_head {t : Tk} (h : t.ok) : ∃ c r, t.txt = c :: r := by
  cases e : t.txt with
  | nil => exact absurd e (txt_ne h)
  | cons c r => exact ⟨c, r, rfl⟩
def Fits (t1 t2 : Tk) : Prop := ∀ c r, t2.txt = c :: r → t1.fol c = true
theorem Fits.folL {t1 t2 : Tk} (h : Fits t1 t2) (h2 : t2.ok) (r : List Nat) : t1.folL (t2.txt ++ r) := by
  intro c r' e
  obtain ⟨x, w, ew⟩ := tx_head h2
  rw [ew] at e
  cases e
  exact h _ _ ew
theorem fits_1 {t1 t2 : Tk} (h : t1.isM = true) (hs : inE t1.con (singles.map fun m => .str (mkS m)) = true) : Fits t1 t2 := by
  cases t1 with
  | mark s =>
    have := single_mem hs
    intro c r _
    unfold singles at this
    simp at this
    rcases this with rfl | rfl | rfl | rfl | rfl | rfl | rfl | rfl | rfl | rfl | rfl | rfl | rfl <;> rfl
  | _ => cases h
theorem fol_sign {t : Tk} {c : Nat} (h : letC c = false) (h2 : digC c = false) (h3 : c ≠ 34) (h4 : c ≠ 46) : t.fol c = true := by
  cases t with
  | word s => simp [Tk.fol, h, h2, h3]
  | fig x => simp [Tk.fol, h, h2]
  | str s => simp [Tk.fol, h3]
  | mark s => simp [Tk.fol, h4]
  | bits s => rfl
  | hex s => rfl
theorem fits_2 {t1 t2 : Tk} (h : t2.isM = true) (hs : inE t2.con (singles.map fun m => .str (mkS m)) = true) : Fits t1 t2 := by
  cases t2 with
  | mark s =>
    have := single_mem hs
    intro c r e
    unfold singles at this
    simp at this
    simp only [Tk.txt] at e
    rcases this with rfl | rfl | rfl | rfl | rfl | rfl | rfl | rfl | rfl | rfl | rfl | rfl | rfl <;> (cases e; exact fol_sign rfl rfl (by omega) (by omega))
  | _ => cases h
theorem head_no {t : Tk} (h : t.ok) (hm : t.isM = false) {c : Nat} {r : List Nat} (e : t.txt = c :: r) : (t.isF = true ∧ (c = 45 ∨ digC c = true)) ∨ (t.isS = true ∧ c = 34) ∨ (t.isF = false ∧ t.isS = false ∧ letC c = true) := by
  cases t with
  | word s =>
    obtain ⟨⟨d, r', e3, hd⟩, _⟩ := h
    simp only [Tk.txt] at e
    rw [e] at e3
    cases e3
    exact .inr (.inr ⟨rfl, rfl, hd⟩)
  | fig x =>
    simp only [Tk.txt, figL] at e
    refine .inl ⟨rfl, ?_⟩
    split at e
    · cases e; exact .inl rfl
    · have := TL.numL_digits x.natAbs c (by rw [e]; simp)
      exact .inr (by simp [digC]; omega)
  | str s => simp only [Tk.txt] at e; cases e; exact .inr (.inl ⟨rfl, rfl⟩)
  | bits s => simp only [Tk.txt] at e; cases e; exact .inr (.inr ⟨rfl, rfl, by decide⟩)
  | hex s => simp only [Tk.txt] at e; cases e; exact .inr (.inr ⟨rfl, rfl, by decide⟩)
  | mark s => cases hm
end Lxr
set_option Elab.async false
set_option linter.all false
set_option maxRecDepth 100000
set_option maxHeartbeats 2000000
namespace Lxr
open PySem PySem.Spec PyProof.Rows L2 Mp Pl
def unX (l c : Int) : Exn := ⟨"Unread", [("column", .int c), ("line", .int l)]⟩
theorem lg_ {x : Int} (h0 : 0 ≤ x) (h : x ≤ 10000000) : x.natAbs.log2 < 1920 := by
  by_cases z : x.natAbs = 0
  · rw [z]; decide
  · refine (Nat.log2_lt z).mpr (Nat.lt_of_lt_of_le (m := 2 ^ 24) (by omega) (Nat.pow_le_pow_right (by decide) (by decide)))
theorem wd2 {l c : Int} (h0 : 0 ≤ l) (h1 : l ≤ 10000000) (h2 : 0 ≤ c) (h3 : c ≤ 10000000) : WdI2 [.int l, .int c] := ⟨l, c, rfl, lg_ h0 h1, lg_ h2 h3⟩
def Bad (r : List Nat) (k : Nat) : Prop := ∀ (row : Str) (pre : List Nat) (i line : Nat) (hp : List O) (R : S → List O → Prop) (Xp : MX) (tg : Tg (m_read_token, R, Xp)), cs row = pre ++ r → i = pre.length → row.length ≤ 1000000 → PyData.strOk row = true → line ≤ 2000000 → Xp (unX line ((i + k + 1 : Nat) : Int)) hp → mfH m_read_token hp [.d (.str row), .d (.int i), .d (.int line)] R Xp tg
section
variable {hp : List O} {n : Nat} {R : S → List O → Prop} {Xp : MX}
theorem sp_is_figure_n {row : Str} {pre t : List Nat} {c i : Nat} {tg : Tg (m_is_figure, R, Xp)} (he : cs row = pre ++ c :: t) (hi : i = pre.length) (hz : row.length ≤ 1000000) (ok : PyData.strOk row = true) (h1 : c ≠ 45 → digC c = false) (h2 : c = 45 → ∀ d r', t = d :: r' → digC d = false) (hR : R (.d (.bl false)) hp) : mfH m_is_figure hp [.d (.str row), .d (.int i)] R Xp tg := by
  by_cases z : c = 45
  · have h2 := h2 z
    have a0 : atI row.cps.toList (i : Int) = some c := at_mid he hi
    have s0 : shD (.str ⟨#[c]⟩) = true := sh_mem ok (by rw [he]; simp)
    have r16 : row.length ≤ 16777216 := by omega
    have hl := len_cs (x := row)
    rw [he] at hl
    simp at hl
    refine mfH_of ?_
    unfold m_is_figure
    simp [-x_seq]
    rw [x_seq]
    simp [a0, r16, isC_y z, s0, -x_seq]
    cases t with
    | nil =>
      have c1 : ¬ (i : Int) + 1 < row.length := by simp at hl; omega
      simp [c1, r16]
      exact hR
    | cons d r' =>
      have c1 : (i : Int) + 1 < row.length := by simp at hl; omega
      have a1 : atI row.cps.toList ((i : Int) + 1) = some d := at_midI (pre := pre ++ [c]) (r := r') (by rw [he]; simp) (by simp; omega)
      simp [c1, r16, a1, h2 d r' rfl]
      exact hR
  · exact sp_is_figure_no (r := []) (j := i + (c :: t).length) ⟨by rw [he]; simp, hi, rfl, hz, ok⟩ z (h1 z) hR
theorem bad_sign {c : Nat} {t : List Nat} (k1 : letC c = false) (k2 : c ≠ 45 → digC c = false) (k3 : c = 45 → ∀ d r', t = d :: r' → digC d = false) (k4 : c ≠ 34) (hf : marks.find? (fun m => m.isPrefixOf (c :: t)) = none) : Bad (c :: t) 0 := by
  intro row pre i line hp R Xp tg he hi hz ok hln hX
  have a0 : atI row.cps.toList (i : Int) = some c := at_mid he hi
  have s0 : shD (.str ⟨#[c]⟩) = true := sh_mem ok (by rw [he]; simp)
  have r16 : row.length ≤ 16777216 := by omega
  have hl := len_cs (x := row)
  rw [he] at hl
  simp at hl
  refine mfH_of ?_
  unfold m_read_token
  simp [-x_seq]
  rw [x_seq]
  simp [a0, r16, k1, -x_seq]
  rw [x_seq]
  simp [-x_seq]
  refine sp_is_figure_n he hi hz ok k2 k3 ?_
  simp [-x_seq]
  rw [x_seq]
  simp [a0, r16, s0, isC_n k4, -x_seq]
  rw [x_seq]
  simp [-x_seq]
  rw [marks_l]
  refine forH_of (fun rest hp' env' => ∃ (ms : List (List Nat)) (e3 e4 e5 : Option S), rest = ms.map (fun m => D.str (mkS m)) ∧ ms.find? (fun m => m.isPrefixOf (c :: t)) = none ∧ hp = hp' ∧ env' = [some (.d (.str row)), some (.d (.int i)), some (.d (.int line)), e3, e4, e5]) ⟨marks, none, none, none, rfl, hf, rfl, rfl⟩ ?_ ?_
  · rintro d rest _ _ N ⟨ms, e3, e4, e5, e1, e2, rfl, rfl⟩ hN
    cases ms with
    | nil => cases e1
    | cons m ms =>
      cases e1
      have sw := sw_pre (m := m) he hi
      rw [List.find?_cons] at e2
      cases c2 : m.isPrefixOf (c :: t) with
      | true => rw [c2] at e2; cases e2
      | false =>
        rw [c2] at e2 sw
        simp [sw]
        exact hN _ _ trivial ⟨ms, _, _, _, rfl, e2, rfl, rfl⟩
  · rintro _ _ ⟨ms, e3, e4, e5, e1, e2, rfl, rfl⟩
    simp
    refine ⟨wd2 (by omega) (by omega) (by omega) (by omega), ?_⟩
    rw [show ((i + 0 + 1 : Nat) : Int) = (i : Int) + 1 by omega] at hX
    exact hX
theorem sp_string_n {row : Str} {pre s : List Nat} {i line : Nat} {tg : Tg (m_read_string, R, Xp)} (he : cs row = pre ++ 34 :: StrLaws.dbl 34 s) (hi : i = pre.length) (hz : row.length ≤ 1000000) (ok : PyData.strOk row = true) (hln : line ≤ 2000000) (hX : Xp (unX line ((i : Int) + 1)) hp) :
    mfH m_read_string hp [.d (.str row), .d (.int i), .d (.int line)] R Xp tg := by
  have r16 : row.length ≤ 16777216 := by omega
  refine mfH_of ?_
  unfold m_read_string
  simp [-x_seq]
  rw [x_seq]
  simp [-x_seq]
  rw [x_seq]
  simp [-x_seq]
  rw [x_seq]
  simp [-x_seq]
  refine whileH_of (fun m hp' env' => ∃ (a b : List Nat) (p : Nat), s = a ++ b ∧ p = i + 1 + (StrLaws.dbl 34 a).length ∧ m = b.length ∧ hp' = hp ++ [O.lst (a.map fun c => .str ⟨#[c]⟩)] ∧ env' = [some (.d (.str row)), some (.d (.int i)), some (.d (.int line)), some (.mu hp.length), some (.d (.int p))]) s.length ⟨[], s, i + 1, rfl, rfl, rfl, rfl, rfl⟩ ?_
  rintro m _ _ N ⟨a, b, p, e, ep, rfl, rfl, rfl⟩ hN
  have hr2 : cs row = (pre ++ 34 :: StrLaws.dbl 34 a) ++ (StrLaws.dbl 34 b) := by rw [he, e, StrLaws.dbl_append]; simp
  have pl : p = (pre ++ 34 :: StrLaws.dbl 34 a).length := by simp; omega
  have ll := len_cs (x := row)
  rw [hr2] at ll
  simp at ll
  have sl : ∀ q : List Nat, q.length ≤ (StrLaws.dbl 34 q).length := fun q => by
    induction q with
    | nil => exact Nat.le_refl _
    | cons c q ih => rw [dbl_cons]; split <;> simp <;> omega
  have sl2 := sl a
  have at2 : a.length < 1000000 := by omega
  have cut2 : ∀ (x : Nat) (w : List Nat), StrLaws.dbl 34 b = x :: w → cutS row (some ((p : Int) + 1)) (some ((p : Int) + 2)) = mkS (w.take 1) := fun x w ew => by
    rw [show (p : Int) + 1 = ((p + 1 : Nat) : Int) by omega, show (p : Int) + 2 = ((p + 1 + 1 : Nat) : Int) by omega]
    exact cut_1 (pre := pre ++ 34 :: StrLaws.dbl 34 a ++ [x]) (by rw [hr2, ew]; simp) (by rw [pl]; simp; omega)
  have shk : ∀ lo hi, shD (.str (cutS row lo hi)) = true := fun lo hi => by rw [shD_s]; exact Tb.cutS_ok ok
  cases b with
  | nil =>
    have l0 : (StrLaws.dbl 34 []).length = 0 := rfl
    have c1 : ¬ (p : Int) < row.length := by omega
    simp [c1, r16]
    exact ⟨wd2 (by omega) (by omega) (by omega) (by omega), hX⟩
  | cons c b =>
    have c1 : (p : Int) < row.length := by
      have : 1 ≤ (StrLaws.dbl 34 (c :: b)).length := by rw [dbl_cons]; split <;> simp <;> omega
      omega
    have shc : shD (.str ⟨#[c]⟩) = true := sh_mem ok (by
      rw [hr2, dbl_cons]
      split
      · rename_i z; rw [z]; simp
      · simp)
    have al2 : a.length + 1 < 16777216 := by omega
    by_cases z : c = 34
    · have a0 := at_mid (pre := pre ++ 34 :: StrLaws.dbl 34 a) (c := 34) (r := 34 :: (StrLaws.dbl 34 b)) (row := row) (by rw [hr2, dbl_cons, if_pos z]; simp) pl
      have k2 := cut2 34 (34 :: (StrLaws.dbl 34 b)) (by rw [dbl_cons, if_pos z]; simp)
      have s2 := shk (some ((p : Int) + 1)) (some ((p : Int) + 2))
      rw [k2] at s2
      have q2 : (mkS ((34 :: (StrLaws.dbl 34 b)).take 1) == Str.ofString "\"") = true := by
        rw [one_q]
        rfl
      rw [z] at shc
      simp only [List.take_succ_cons, List.take_zero] at k2 s2 q2
      simp [c1, r16, a0, shc, isC_y (rfl : 34 = 34), k2, s2, q2, al2]
      rw [show (p : Int) + 2 = ((p + 2 : Nat) : Int) by omega]
      refine ⟨by omega, ?_⟩
      exact hN b.length _ _ (by simp) ⟨a ++ [c], b, p + 2, by simp [e], by rw [StrLaws.dbl_append, dbl_cons, if_pos z]; simp [StrLaws.dbl]; omega, rfl, by rw [z]; simp; rfl, rfl⟩
    · have a0 := at_mid (pre := pre ++ 34 :: StrLaws.dbl 34 a) (c := c) (r := StrLaws.dbl 34 b) (row := row) (by rw [hr2, dbl_cons, if_neg z]; simp) pl
      simp [c1, r16, a0, shc, isC_n z, al2]
      rw [show (p : Int) + 1 = ((p + 1 : Nat) : Int) by omega]
      refine ⟨by omega, ?_⟩
      exact hN b.length (hp ++ [O.lst (a.map (fun c => .str ⟨#[c]⟩) ++ [.str ⟨#[c]⟩])]) _ (by simp) ⟨a ++ [c], b, p + 1, by simp [e], by rw [StrLaws.dbl_append, dbl_cons, if_neg z]; simp [StrLaws.dbl]; omega, rfl, by simp, rfl⟩
theorem bad_string (s : List Nat) : Bad (34 :: StrLaws.dbl 34 s) 0 := by
  intro row pre i line hp R Xp tg he hi hz ok hln hX
  have r16 : row.length ≤ 16777216 := by omega
  obtain ⟨q, hq⟩ : ∃ q : Nat, q = 34 := ⟨_, rfl⟩
  have he2 : cs row = pre ++ q :: StrLaws.dbl 34 s := by rw [hq]; exact he
  have a0 : atI row.cps.toList (i : Int) = some q := at_mid he2 hi
  have s0 : shD (.str ⟨#[q]⟩) = true := sh_mem ok (by rw [he2]; simp)
  have l0 : letC q = false := by rw [hq]; rfl
  have d0 : digC q = false := by rw [hq]; rfl
  have i0 : isC q 34 = true := isC_y hq
  have n0 : q ≠ 45 := by omega
  refine mfH_of ?_
  unfold m_read_token
  simp [-x_seq]
  rw [x_seq]
  simp [a0, r16, l0, -x_seq]
  rw [x_seq]
  simp [-x_seq]
  refine sp_is_figure_n he2 hi hz ok (fun _ => d0) (fun z => absurd z n0) ?_
  simp [-x_seq]
  rw [x_seq]
  simp [a0, r16, s0, i0, -x_seq]
  refine sp_string_n he hi hz ok hln ?_
  rw [show ((i + 0 + 1 : Nat) : Int) = (i : Int) + 1 by omega] at hX
  simp
  exact hX
end
end Lxr
set_option Elab.async false
set_option linter.all false
set_option maxRecDepth 100000
set_option maxHeartbeats 2000000
namespace Lxr
open PySem PySem.Spec PyProof.Rows L2 Mp Pl
section
variable {hp : List O} {n : Nat} {R : S → List O → Prop} {Xp : MX}
theorem sp_is_figure_y {row : Str} {pre sg t : List Nat} {d i : Nat} {tg : Tg (m_is_figure, R, Xp)} (he : cs row = pre ++ (sg ++ d :: t)) (hi : i = pre.length) (hsg : sg = [] ∨ sg = [45]) (hz : row.length ≤ 1000000) (ok : PyData.strOk row = true) (h1 : digC d = true) (hR : R (.d (.bl true)) hp) : mfH m_is_figure hp [.d (.str row), .d (.int i)] R Xp tg := by
  have r16 : row.length ≤ 16777216 := by omega
  have hl := len_cs (x := row)
  rw [he] at hl
  have d45 : d ≠ 45 := by rintro rfl; cases h1
  refine mfH_of ?_
  unfold m_is_figure
  rcases hsg with rfl | rfl
  · have a0 : atI row.cps.toList (i : Int) = some d := at_mid he hi
    have s0 : shD (.str ⟨#[d]⟩) = true := sh_mem ok (by rw [he]; simp)
    simp at hl
    have c1 : (i : Int) < row.length := by omega
    simp [a0, r16, isC_n d45, s0, c1, h1]
    exact hR
  · have a0 : atI row.cps.toList (i : Int) = some 45 := at_mid (pre := pre) (r := d :: t) (by rw [he]; rfl) hi
    have s0 : shD (.str ⟨#[45]⟩) = true := sh_mem ok (by rw [he]; simp)
    have s1 : shD (.str ⟨#[d]⟩) = true := sh_mem ok (by rw [he]; simp)
    have a1 : atI row.cps.toList ((i : Int) + 1) = some d := at_midI (pre := pre ++ [45]) (r := t) (by rw [he]; simp) (by simp; omega)
    simp at hl
    have c1 : (i : Int) + 1 < row.length := by omega
    simp [-x_seq]
    rw [x_seq]
    simp [a0, r16, isC_y (rfl : 45 = 45), s0, -x_seq]
    simp [c1, a1, h1, s1, r16]
    exact hR
theorem sp_figure_n {row : Str} {pre sg ds r : List Nat} {d i line k : Nat} {tg : Tg (m_read_figure, R, Xp)} (he : cs row = pre ++ (sg ++ (d :: ds ++ r))) (hi : i = pre.length) (hsg : sg = [] ∨ sg = [45]) (hz : row.length ≤ 1000000) (ok : PyData.strOk row = true) (hln : line ≤ 2000000)
    (hd : ∀ c ∈ d :: ds, digC c = true) (hr : ∀ c r', r = c :: r' → digC c = false) (hb : (k = 0 ∧ (60 < (d :: ds).length ∨ (d = 48 ∧ (1 < (d :: ds).length ∨ sg = [45])))) ∨ (k = sg.length + (d :: ds).length ∧ ¬ 60 < (d :: ds).length ∧ ¬ (d = 48 ∧ (1 < (d :: ds).length ∨ sg = [45])) ∧ ∃ c r', r = c :: r' ∧ letC c = true)) (hX : Xp (unX line ((i + k + 1 : Nat) : Int)) hp) :
    mfH m_read_figure hp [.d (.str row), .d (.int i), .d (.int line)] R Xp tg := by
  have r16 : row.length ≤ 16777216 := by omega
  have hl := len_cs (x := row)
  rw [he] at hl
  simp at hl
  obtain ⟨b, eb⟩ : ∃ b, b = i + sg.length := ⟨_, rfl⟩
  obtain ⟨j, ej⟩ : ∃ j, j = b + (d :: ds).length := ⟨_, rfl⟩
  have hP : Pc row (pre ++ sg) (d :: ds) r b j := ⟨by rw [he]; simp, by simp; omega, ej, hz, ok⟩
  have b0 := hP.at0
  have bs := hP.sh0
  simp at ej
  obtain ⟨c0, k1, k2, k3, k4⟩ : ∃ c0, atI row.cps.toList (i : Int) = some c0 ∧ shD (.str ⟨#[c0]⟩) = true ∧ (c0 = 45 → (i : Int) + 1 = b ∧ sg = [45]) ∧ (c0 ≠ 45 → (i : Int) = b ∧ sg = []) := by
    rcases hsg with rfl | rfl
    · exact ⟨d, at_mid (pre := pre) (r := ds ++ r) (by rw [he]; rfl) hi, bs, fun e => absurd (hd d (by simp)) (by rw [e]; decide), fun _ => ⟨by simp at eb; omega, rfl⟩⟩
    · exact ⟨45, at_mid (pre := pre) (r := d :: ds ++ r) (by rw [he]; rfl) hi, sh_mem ok (by rw [he]; simp), fun _ => ⟨by simp at eb; omega, rfl⟩, fun z => absurd rfl z⟩
  refine mfH_of ?_
  unfold m_read_figure
  simp [-x_seq]
  refine seq_cut (fun hp' env' => hp = hp' ∧ env' = [some (.d (.str row)), some (.d (.int i)), some (.d (.int line)), some (.d (.int b)), none]) (fun N hN => ?_) ?_
  · by_cases z : c0 = 45
    · simp [k1, k2, r16, isC_y z]
      rw [(k3 z).1]
      exact hN _ _ ⟨rfl, rfl⟩
    · simp [k1, k2, r16, isC_n z]
      exact hN _ _ ⟨rfl, by rw [(k4 z).1]⟩
  rintro _ _ ⟨rfl, rfl⟩
  rw [x_seq]
  simp [-x_seq]
  refine sp_run_end hP.e hP.hi hP.hj (fun c hc => by rw [memC_dig]; exact hd c hc) (fun c r' e => by rw [memC_dig]; exact hr c r' e) r16 ?_
  simp [-x_seq]
  have bi : (i : Int) < b ↔ sg = [45] := by
    rcases hsg with rfl | rfl
    · simp at eb; simp; omega
    · simp at eb; simp; omega
  have l60 : (60 : Int) < (j : Int) - b ↔ 60 < (d :: ds).length := by simp; omega
  have l1 : (1 : Int) < (j : Int) - b ↔ 1 < (d :: ds).length := by simp; omega
  rcases hb with ⟨rfl, hb⟩ | ⟨ek, n60, n0, c, r', er, hc⟩
  · rw [show ((i + 0 + 1 : Nat) : Int) = (i : Int) + 1 by omega] at hX
    have fin : WdI2 [.int line, .int ((i : Int) + 1)] := wd2 (by omega) (by omega) (by omega) (by omega)
    by_cases g : (60 : Int) < (j : Int) - b
    · simp [g]
      exact ⟨fin, hX⟩
    · have hb2 : d = 48 ∧ (1 < (d :: ds).length ∨ sg = [45]) := hb.resolve_left fun z => g (l60.mpr z)
      by_cases g1 : (1 : Int) < (j : Int) - b
      · simp [g, b0, r16, isC_y hb2.1, bs, g1]
        exact ⟨fin, hX⟩
      · have g2 : (i : Int) < b := bi.mpr (hb2.2.resolve_left fun z => g1 (l1.mpr z))
        simp [g, b0, r16, isC_y hb2.1, bs, g1, g2]
        exact ⟨fin, hX⟩
  · have g : ¬ (60 : Int) < (j : Int) - b := fun z => n60 (l60.mp z)
    have e2 : ((i + k + 1 : Nat) : Int) = (j : Int) + 1 := by rw [ek]; simp; omega
    rw [e2] at hX
    refine seq_cut (fun hp' env' => hp = hp' ∧ env' = [some (.d (.str row)), some (.d (.int i)), some (.d (.int line)), some (.d (.int b)), some (.d (.int j))]) (fun N hN => ?_) ?_
    · by_cases z : d = 48
      · have g1 : ¬ (1 : Int) < (j : Int) - b := fun y => n0 ⟨z, .inl (l1.mp y)⟩
        have g2 : ¬ (i : Int) < b := fun y => n0 ⟨z, .inr (bi.mp y)⟩
        simp [g, b0, r16, isC_y z, bs, g1, g2]
        exact hN _ _ ⟨rfl, rfl⟩
      · simp [g, b0, r16, isC_n z, bs]
        exact hN _ _ ⟨rfl, rfl⟩
    rintro _ _ ⟨rfl, rfl⟩
    subst er
    have hl2 := hP.len
    simp at hl2
    have c1 : (j : Int) < row.length := by omega
    simp [c1, r16, hP.atr, hc]
    exact ⟨wd2 (by omega) (by omega) (by omega) (by omega), hX⟩
theorem bad_figure {sg ds r : List Nat} {d k : Nat} (hsg : sg = [] ∨ sg = [45]) (hd : ∀ c ∈ d :: ds, digC c = true) (hr : ∀ c r', r = c :: r' → digC c = false) (hb : (k = 0 ∧ (60 < (d :: ds).length ∨ (d = 48 ∧ (1 < (d :: ds).length ∨ sg = [45])))) ∨ (k = sg.length + (d :: ds).length ∧ ¬ 60 < (d :: ds).length ∧ ¬ (d = 48 ∧ (1 < (d :: ds).length ∨ sg = [45])) ∧ ∃ c r', r = c :: r' ∧ letC c = true)) : Bad (sg ++ (d :: ds ++ r)) k := by
  intro row pre i line hp R Xp tg he hi hz ok hln hX
  have r16 : row.length ≤ 16777216 := by omega
  have dd := hd d (by simp)
  obtain ⟨c0, k1, k2⟩ : ∃ c0, atI row.cps.toList (i : Int) = some c0 ∧ letC c0 = false := by
    rcases hsg with rfl | rfl
    · exact ⟨d, at_mid (pre := pre) (r := ds ++ r) (by rw [he]; rfl) hi, by simp [digC] at dd; simp [letC]; omega⟩
    · exact ⟨45, at_mid (pre := pre) (r := d :: ds ++ r) (by rw [he]; rfl) hi, by decide⟩
  refine mfH_of ?_
  unfold m_read_token
  simp [-x_seq]
  rw [x_seq]
  simp [k1, r16, k2, -x_seq]
  rw [x_seq]
  simp [-x_seq]
  refine sp_is_figure_y (t := ds ++ r) (by rw [he]; rfl) hi hsg hz ok dd ?_
  simp [-x_seq]
  refine sp_figure_n he hi hsg hz ok hln hd hr hb ?_
  simp
  rw [show ((i + k + 1 : Nat) : Int) = (i : Int) + k + 1 by omega] at hX
  exact hX
end
end Lxr
set_option Elab.async false
set_option linter.all false
set_option maxRecDepth 100000
set_option maxHeartbeats 2000000
namespace Lxr
open PySem PySem.Spec PyProof.Rows L2 Mp Pl
section
variable {hp : List O} {n : Nat} {R : S → List O → Prop} {Xp : MX}
def qC (q c : Nat) : Bool := if q = 98 then (c == 48 || c == 49) else hexC c
theorem sp_quoted_n {row : Str} {pre s t : List Nat} {q i line : Nat} {tg : Tg (m_read_quoted, R, Xp)} (hq : q = 98 ∨ q = 104) (he : cs row = pre ++ q :: 34 :: (s ++ t)) (hi : i = pre.length) (hz : row.length ≤ 1000000) (ok : PyData.strOk row = true) (hln : line ≤ 2000000)
    (hs : ∀ c ∈ s, qC q c = true) (hr : ∀ c r', t = c :: r' → qC q c = false) (hb : (∀ c r', t = c :: r' → c ≠ 34) ∨ (q = 104 ∧ s.length % 2 = 1)) (hX : Xp (unX line ((i : Int) + 1)) hp) :
    mfH m_read_quoted hp [.d (.str row), .d (.int i), .d (.int line)] R Xp tg := by
  have r16 : row.length ≤ 16777216 := by omega
  have hl := len_cs (x := row)
  rw [he] at hl
  simp at hl
  obtain ⟨e, he2⟩ : ∃ e, e = i + 2 + s.length := ⟨_, rfl⟩
  have hin : Pc row (pre ++ [q, 34]) s t (i + 2) e := ⟨by rw [he]; simp, by simp; omega, by omega, hz, ok⟩
  have a0 : atI row.cps.toList (i : Int) = some q := at_mid he hi
  have s0 : shD (.str ⟨#[q]⟩) = true := sh_mem ok (by rw [he]; simp)
  have ct := hin.cut
  have i2 : ((i + 2 : Nat) : Int) = (i : Int) + 2 := by omega
  rw [i2] at ct
  have fin : WdI2 [.int line, .int ((i : Int) + 1)] := wd2 (by omega) (by omega) (by omega) (by omega)
  refine mfH_of ?_
  unfold m_read_quoted
  simp [-x_seq]
  refine seq_cut (fun hp' env' => hp = hp' ∧ env' = [some (.d (.str row)), some (.d (.int i)), some (.d (.int line)), some (.d (.str (if q = 98 then Str.ofString "01" else HEXS))), none, none, none, none, none, none]) (fun N hN => ?_) ?_
  · by_cases z : q = 98
    · simp [a0, r16, s0, isC_y z]
      rw [if_pos z] at hN
      exact hN _ _ ⟨rfl, rfl⟩
    · simp [a0, r16, s0, isC_n z]
      rw [if_neg z] at hN
      exact hN _ _ ⟨rfl, rfl⟩
  rintro _ _ ⟨rfl, rfl⟩
  rw [x_seq]
  simp [-x_seq]
  rw [show (i : Int) + 2 = ((i + 2 : Nat) : Int) by omega]
  have mq : ∀ c, memC (if q = 98 then Str.ofString "01" else HEXS) c = qC q c := fun c => by
    unfold qC
    by_cases z : q = 98
    · rw [if_pos z, if_pos z, memC_bin]
    · rw [if_neg z, if_neg z, memC_hex]
  refine sp_run_end hin.e hin.hi hin.hj (fun c hc => by rw [mq]; exact hs c hc) (fun c r' e2 => by rw [mq]; exact hr c r' e2) r16 ?_
  simp [-x_seq]
  rw [x_seq]
  simp [r16, -x_seq]
  rw [ct]
  have hl2 := hin.len
  by_cases nx : ∀ c r', t = c :: r' → c ≠ 34
  · rw [x_seq]
    cases t with
    | nil =>
      have c1 : (e : Int) = (row.length : Int) := by simp at hl2; omega
      simp [r16, c1]
      exact ⟨fin, hX⟩
    | cons c r' =>
      have c1 : ¬ ((e : Int) = (row.length : Int)) := by simp at hl2; omega
      simp [r16, c1, hin.atr, hin.shr, isC_n (nx c r' rfl)]
      exact ⟨fin, hX⟩
  · obtain ⟨hq4, odd⟩ := hb.resolve_left nx
    obtain ⟨r', et⟩ : ∃ r', t = 34 :: r' := by
      cases t with
      | nil => exact absurd (fun c r' e => by cases e) nx
      | cons c r' =>
        by_cases z : c = 34
        · exact ⟨r', by rw [z]⟩
        · exact absurd (fun d w e => by cases e; exact z) nx
    subst et
    have c1 : ¬ ((e : Int) = (row.length : Int)) := by simp at hl2; omega
    rw [x_seq]
    simp [r16, hin.atr, hin.shr, isC_y (rfl : 34 = 34), c1, -x_seq]
    rw [x_seq]
    simp [a0, r16, s0, isC_n (show q ≠ 98 by omega), -x_seq]
    rw [x_seq]
    have ml : (mkS s).length = s.length := (len_cs (x := mkS s)).symm
    have ev : ((mkS s).length : Int) % 2 = 1 := by rw [ml]; omega
    have ml2 : (mkS s).length ≤ 16777216 := by omega
    simp [ev, ml2]
    exact ⟨fin, hX⟩
theorem bad_quoted {s t : List Nat} {q : Nat} (hq : q = 98 ∨ q = 104) (hs : ∀ c ∈ s, qC q c = true) (hr : ∀ c r', t = c :: r' → qC q c = false) (hb : (∀ c r', t = c :: r' → c ≠ 34) ∨ (q = 104 ∧ s.length % 2 = 1)) : Bad (q :: 34 :: (s ++ t)) 0 := by
  intro row pre i line hp R Xp tg he hi hz ok hln hX
  have r16 : row.length ≤ 16777216 := by omega
  have k1 : letC q = true := by rcases hq with rfl | rfl <;> decide
  have a0 : atI row.cps.toList (i : Int) = some q := at_mid he hi
  obtain ⟨k, ek⟩ : ∃ k, k = i + 1 := ⟨_, rfl⟩
  have hp' : Pc row pre [q] (34 :: (s ++ t)) i k := ⟨by rw [he]; rfl, hi, ek, hz, ok⟩
  have ct := hp'.cut
  have qt : cutS row (some (k : Int)) (some ((k : Int) + 1)) = mkS [34] := by
    have := cut_1 (row := row) (pre := pre ++ [q]) (r := 34 :: (s ++ t)) (i := k) (by rw [he]; simp) (by simp; omega)
    exact this
  have shk : ∀ lo hi, shD (.str (cutS row lo hi)) = true := fun lo hi => by rw [shD_s]; exact Tb.cutS_ok ok
  have s1 := shk (some (i : Int)) (some (k : Int))
  have s2 := shk (some (k : Int)) (some ((k : Int) + 1))
  rw [ct] at s1
  rw [qt] at s2
  rw [show ((i + 0 + 1 : Nat) : Int) = (i : Int) + 1 by omega] at hX
  refine mfH_of ?_
  unfold m_read_token
  simp [-x_seq]
  rw [x_seq]
  simp [a0, r16, k1, -x_seq]
  rw [x_seq]
  simp [-x_seq]
  have l52 : LETS.length = 52 := rfl
  have l10 : DIGS.length = 10 := rfl
  refine ⟨by rw [l52, l10]; omega, ?_⟩
  refine sp_run_end hp'.e hp'.hi hp'.hj (fun c hc => by simp at hc; rw [memC_ld, hc, k1]; rfl) (fun c r'' e => by cases e; rw [memC_ld]; rfl) r16 ?_
  simp [-x_seq]
  rw [x_seq]
  simp [r16, ct, -x_seq]
  rw [x_seq]
  have q34 : (mkS [34] == Str.ofString "\"") = true := by decide +kernel
  rcases hq with rfl | rfl
  · have x1 : (mkS [98] == Str.ofString "b") = true := by decide +kernel
    simp [s1, x1, r16, qt, s2, q34]
    refine sp_quoted_n (.inl rfl) he hi hz ok hln hs hr hb ?_
    simp
    exact hX
  · have x1 : (mkS [104] == Str.ofString "b") = false := by decide +kernel
    have x2 : (mkS [104] == Str.ofString "h") = true := by decide +kernel
    simp [s1, x1, x2, r16, qt, s2, q34]
    refine sp_quoted_n (.inr rfl) he hi hz ok hln hs hr hb ?_
    simp
    exact hX
end
end Lxr
set_option Elab.async false
set_option linter.all false
set_option maxRecDepth 100000
set_option maxHeartbeats 2000000
namespace Lxr
open PySem PySem.Spec PyProof.Rows L2 Mp Pl
inductive LE : Nat → List Nat → Nat → Prop
  | bad {p r k c r'} : r = c :: r' → c ≠ 35 → c ≠ 32 → Bad r k → LE p r (p + k)
  | sp {p r k} : LE (p + 1) r k → LE p (32 :: r) k
  | tok {p r k} (t : Tk) : t.ok → t.folL r → LE (p + t.txt.length) r k → LE p (t.txt ++ r) k
section
variable {hp : List O} {n : Nat} {R : S → List O → Prop} {Xp : MX}
theorem sp_line_n {row : Str} {l k : Nat} {tg : Tg (m_line_tokens, R, Xp)} (h : LE 0 (cs row) k) (hln : l ≤ 2000000) (hz : row.length ≤ 1000000) (ok : PyData.strOk row = true) (hX : Xp (unX l ((k + 1 : Nat) : Int)) hp) :
    mfH m_line_tokens hp [.d (.str row), .d (.int l)] R Xp tg := by
  have r16 : row.length ≤ 16777216 := by omega
  refine mfH_of ?_
  unfold m_line_tokens
  simp [-x_seq]
  rw [x_seq]
  simp [-x_seq]
  rw [x_seq]
  simp [-x_seq]
  rw [x_seq]
  simp [-x_seq]
  refine whileH_of (fun m hp' env' => ∃ (pre r : List Nat) (p : Nat) (o1 : List D) (e4 e5 e6 : Option S), cs row = pre ++ r ∧ p = pre.length ∧ LE p r k ∧ o1.length ≤ p ∧ m = r.length ∧ hp' = hp ++ [O.lst o1] ∧ env' = [some (.d (.str row)), some (.d (.int l)), some (.mu hp.length), some (.d (.int p)), e4, e5, e6]) (cs row).length ⟨[], cs row, 0, [], none, none, none, rfl, rfl, h, Nat.le_refl _, rfl, rfl, rfl⟩ ?_
  rintro m _ _ N ⟨pre, r, p, o1, e4, e5, e6, er, ep, hl, lo, rfl, rfl, rfl⟩ hN
  have ll := len_cs (x := row)
  rw [er] at ll
  simp at ll
  cases hl with
  | @bad _ _ k' c r' e1 n35 n32 hb =>
    subst e1
    have c1 : (p : Int) < row.length := by simp at ll; omega
    have a0 : atI row.cps.toList (p : Int) = some c := at_mid er ep
    have s0 : shD (.str ⟨#[c]⟩) = true := sh_mem ok (by rw [er]; simp)
    simp [c1, r16, a0, s0, isC_n n35, isC_n n32]
    refine hb row pre p l _ _ _ _ er ep hz ok hln ?_
    simp
    simp at hX
    exact hX
  | @sp _ r _ hl =>
    have c1 : (p : Int) < row.length := by simp at ll; omega
    have a0 : atI row.cps.toList (p : Int) = some 32 := at_mid er ep
    have s0 : shD (.str ⟨#[32]⟩) = true := sh_mem ok (by rw [er]; simp)
    simp [c1, r16, a0, s0, isC_n (show 32 ≠ 35 by decide), isC_y (rfl : 32 = 32)]
    rw [show (p : Int) + 1 = ((p + 1 : Nat) : Int) by omega]
    exact hN _ _ _ (by simp) ⟨pre ++ [32], r, p + 1, o1, _, _, _, by rw [er]; simp, by simp [ep], hl, by omega, rfl, rfl, rfl⟩
  | @tok _ r2 _ t h1 h2 hl =>
    obtain ⟨c, w, ew⟩ := tx_head h1
    obtain ⟨n35, n32⟩ := tk_head h1 (r2 := r2) (c := c) (r := w ++ r2) (by rw [ew]; rfl)
    have c1 : (p : Int) < row.length := by rw [ew] at ll; simp at ll; omega
    have a0 : atI row.cps.toList (p : Int) = some c := at_mid (pre := pre) (r := w ++ r2) (by rw [er, ew]; rfl) ep
    have s0 : shD (.str ⟨#[c]⟩) = true := sh_mem ok (by rw [er, ew]; simp)
    have hp2 : Pc row pre t.txt r2 p (p + t.txt.length) := ⟨er, ep, rfl, hz, ok⟩
    simp [c1, r16, a0, s0, isC_n n35, isC_n n32]
    refine sp_read_token hp2 h1 h2 ?_
    simp
    have tl : 1 ≤ t.txt.length := by rw [ew]; simp
    refine ⟨by omega, ?_⟩
    rw [show (p : Int) + (t.txt.length : Int) = ((p + t.txt.length : Nat) : Int) by omega, show (p : Int) + 1 = ((p + 1 : Nat) : Int) by omega]
    exact hN r2.length _ _ (by simp; omega) ⟨pre ++ t.txt, r2, p + t.txt.length, o1 ++ [tokD t l (p + 1)], _, _, _, by rw [er]; simp, by simp [ep], hl, by simp; omega, rfl, rfl, rfl⟩
def GL : Nat → Nat → List (List Nat) → Prop
  | _, _, [] => True
  | l, c, r :: rs => (∃ o, LL l c r o) ∧ GL (l + 1) 1 rs
theorem RL.gl {l c : Nat} {rows : List (List Nat)} {o : List D} (h : RL l c rows o) : GL l c rows := by
  induction h with
  | one h => exact ⟨⟨_, h⟩, trivial⟩
  | cons h _ ih => exact ⟨⟨_, h⟩, ih⟩
theorem rows_len : ∀ (r : List Nat) (p : Nat × Nat), (adv p r).1 + 1 = p.1 + (rowsOf r).length
  | [], p => rfl
  | c :: r, p => by
    have ih := rows_len r (step p c)
    show (adv (step p c) r).1 + 1 = _
    rw [ih]
    obtain ⟨h, t, e⟩ := rows_ne r
    unfold step
    by_cases z : c = 10
    · rw [if_pos z, show rowsOf (c :: r) = [] :: rowsOf r from by rw [rowsOf, if_pos z]]
      simp
      omega
    · rw [if_neg z, show rowsOf (c :: r) = (c :: h) :: t from by rw [rowsOf, if_neg z, e], e]
      simp
theorem rows_cut {B T : List Nat} (hB : 10 ∉ B) : ∀ H : List Nat, rowsOf (H ++ 10 :: (B ++ 10 :: T)) = rowsOf H ++ B :: rowsOf T
  | [] => by
    have e1 : rowsOf (10 :: T) = [] :: rowsOf T := by rw [rowsOf, if_pos rfl]
    have e2 := rows_app hB e1
    rw [List.append_nil] at e2
    show rowsOf (10 :: (B ++ 10 :: T)) = [[]] ++ B :: rowsOf T
    rw [rowsOf, if_pos rfl, e2]
    rfl
  | c :: H => by
    have ih := rows_cut (T := T) hB H
    show rowsOf (c :: (H ++ 10 :: (B ++ 10 :: T))) = _
    obtain ⟨h, t, e⟩ := rows_ne H
    by_cases z : c = 10
    · rw [rowsOf, if_pos z, rowsOf, if_pos z, ih]
      rfl
    · rw [rowsOf, if_neg z, rowsOf, if_neg z, ih, e]
      rfl
theorem sp_tokens_n {x : Str} {g m : List (List Nat)} {b : List Nat} {k : Nat} {tg : Tg (m_tokens, R, Xp)} (he : rowsOf (cs x) = g ++ b :: m) (hg : GL 1 1 g) (h : LE 0 b k) (hz : x.length ≤ 1000000) (ok : PyData.strOk x = true) (hX : Xp (unX ((g.length + 1 : Nat) : Int) ((k + 1 : Nat) : Int)) hp) :
    mfH m_tokens hp [.d (.str x)] R Xp tg := by
  refine mfH_of ?_
  unfold m_tokens
  simp [-x_seq]
  rw [x_seq]
  simp [-x_seq]
  rw [split_rows]
  obtain ⟨rows, ers⟩ : ∃ rows, rows = rowsOf (cs x) := ⟨_, rfl⟩
  rw [← ers] at he ⊢
  have rsum : (rows.map List.length).sum + rows.length = x.length + 1 := by rw [ers, rows_sum, len_cs]
  have rmem : ∀ w ∈ rows, (∀ c ∈ w, c ∈ cs x) ∧ w.length ≤ x.length := fun w hw => by
    have := rows_mem w (by rw [← ers]; exact hw)
    rw [len_cs] at this
    exact this
  refine ⟨by decide, by omega, ?_⟩
  rw [x_seq]
  simp [-x_seq]
  rw [x_seq]
  simp [-x_seq]
  refine forH_of (fun rest hp' env' => ∃ (done g2 : List (List Nat)) (o1 : List D) (e3 e4 : Option S), g = done ++ g2 ∧ rest = numb done.length ((g2 ++ b :: m).map (D.str ∘ mkS)) ∧ o1.length ≤ (done.map List.length).sum ∧ GL (done.length + 1) 1 g2 ∧ hp' = hp ++ [O.lst o1] ∧ env' = [some (.d (.str x)), some (.d (.lst (rows.map (D.str ∘ mkS)))), some (.mu hp.length), e3, e4])
    ⟨[], g, [], none, none, rfl, by rw [he]; rfl, Nat.le_refl _, hg, rfl, rfl⟩ ?_ ?_
  · rintro d rest _ _ N ⟨done, g2, o1, e3, e4, eg, e1, lo, hq, rfl, rfl⟩ hN
    cases g2 with
    | nil =>
      rw [List.append_nil] at eg
      obtain ⟨m1, m2⟩ := rmem b (by rw [he]; simp)
      rw [he] at rsum
      simp at rsum
      have e1' : D.tup [.int done.length, .str (mkS b)] :: numb (done.length + 1) (m.map (D.str ∘ mkS)) = d :: rest := by rw [e1]; rfl
      cases e1'
      have wl : (mkS b).length = b.length := (len_cs (x := mkS b)).symm
      simp
      rw [show (done.length : Int) + 1 = ((done.length + 1 : Nat) : Int) by omega]
      refine sp_line_n (k := k) h (by rw [← eg]; omega) (by omega) (ok_sub ok m1) ?_
      simp
      rw [← eg]
      simp at hX
      exact hX
    | cons w g2 =>
      obtain ⟨⟨p1, hw⟩, hq⟩ := hq
      obtain ⟨m1, m2⟩ := rmem w (by rw [he, eg]; simp)
      rw [he, eg] at rsum
      simp at rsum
      have pl := hw.len
      have e1' : D.tup [.int done.length, .str (mkS w)] :: numb (done.length + 1) ((g2 ++ b :: m).map (D.str ∘ mkS)) = d :: rest := by rw [e1]; rfl
      cases e1'
      have wl : (mkS w).length = w.length := (len_cs (x := mkS w)).symm
      simp
      rw [show (done.length : Int) + 1 = ((done.length + 1 : Nat) : Int) by omega]
      refine sp_line_tokens hw (by omega) (ok_sub ok m1) ?_
      simp
      refine ⟨by omega, hN _ _ trivial ⟨done ++ [w], g2, o1 ++ p1, _, _, by rw [eg]; simp, by simp, by simp; omega, by simpa using hq, rfl, rfl⟩⟩
  · rintro _ _ ⟨done, g2, o1, e3, e4, eg, e1, lo, hq, rfl, rfl⟩
    cases g2 with
    | nil => cases e1
    | cons => cases e1
end
theorem sp_tokens_f {hp : List O} {R : S → List O → Prop} {Xp : MX} {x : Str} {H B T : List Nat} {o : List D} {k : Nat} {tg : Tg (m_tokens, R, Xp)} (he : cs x = H ++ 10 :: (B ++ 10 :: T)) (hB : 10 ∉ B) (hH : LX (1, 1) H o) (h : LE 0 B k) (hz : x.length ≤ 1000000) (ok : PyData.strOk x = true) (hX : Xp (unX (((adv (1, 1) H).1 + 1 : Nat) : Int) ((k + 1 : Nat) : Int)) hp) :
    mfH m_tokens hp [.d (.str x)] R Xp tg := by
  refine sp_tokens_n (by rw [he, rows_cut hB]) hH.rl.gl h hz ok ?_
  have := rows_len H (1, 1)
  rw [show (rowsOf H).length + 1 = (adv (1, 1) H).1 + 1 by omega]
  exact hX
end Lxr
set_option Elab.async false
set_option linter.all false
set_option maxRecDepth 100000
set_option maxHeartbeats 2000000
namespace Lxr
open PySem PySem.Spec PyProof.Rows L2 Mp Pl
structure Fault (s : Str) (k : Nat) : Prop where
  le : LE 0 (32 :: cs s) (1 + k)
  nl : 10 ∉ cs s
  ok : PyData.strOk s = true
  len : s.length ≤ 70
  k10 : k ≤ 10
theorem fault_of {s : Str} {l : List Nat} {k : Nat} (e : cs s = l) (h : LE 1 l (1 + k)) (hb : (decide (10 ∉ l) && decide (l.length ≤ 70) && l.all (fun c => decide (c < 128)) && decide (k ≤ 10)) = true) : Fault s k := by
  simp only [Bool.and_eq_true, decide_eq_true_eq] at hb
  obtain ⟨⟨⟨a, b⟩, c⟩, d⟩ := hb
  refine ⟨by rw [e]; exact .sp h, by rw [e]; exact a, ?_, by rw [← len_cs, e]; exact b, d⟩
  have : s = mkS l := mk_inj e
  rw [this]
  exact low_ok fun x hx => of_decide_eq_true (List.all_eq_true.mp c x hx)
def NINES : Str := Txt.mul (Str.ofString "9") 61
theorem flt_0 : Fault (Str.ofString "$") 0 := fault_of (l := [36]) (by decide +kernel) (LE.bad (c := _) (r' := _) rfl (by decide) (by decide) (bad_sign (c := 36) (t := []) rfl (by decide) (fun z => absurd z (by decide)) (by decide) (by decide +kernel))) (by decide +kernel)
theorem flt_1 : Fault (Str.ofString "~") 0 := fault_of (l := [126]) (by decide +kernel) (LE.bad (c := _) (r' := _) rfl (by decide) (by decide) (bad_sign (c := 126) (t := []) rfl (by decide) (fun z => absurd z (by decide)) (by decide) (by decide +kernel))) (by decide +kernel)
theorem flt_2 : Fault (Str.ofString "_a") 0 := fault_of (l := [95, 97]) (by decide +kernel) (LE.bad (c := _) (r' := _) rfl (by decide) (by decide) (bad_sign (c := 95) (t := [97]) rfl (by decide) (fun z => absurd z (by decide)) (by decide) (by decide +kernel))) (by decide +kernel)
theorem flt_3 : Fault (Str.ofString "!") 0 := fault_of (l := [33]) (by decide +kernel) (LE.bad (c := _) (r' := _) rfl (by decide) (by decide) (bad_sign (c := 33) (t := []) rfl (by decide) (fun z => absurd z (by decide)) (by decide) (by decide +kernel))) (by decide +kernel)
theorem flt_4 : Fault (Str.ofString "'") 0 := fault_of (l := [39]) (by decide +kernel) (LE.bad (c := _) (r' := _) rfl (by decide) (by decide) (bad_sign (c := 39) (t := []) rfl (by decide) (fun z => absurd z (by decide)) (by decide) (by decide +kernel))) (by decide +kernel)
theorem flt_5 : Fault (Str.ofString "\\") 0 := fault_of (l := [92]) (by decide +kernel) (LE.bad (c := _) (r' := _) rfl (by decide) (by decide) (bad_sign (c := 92) (t := []) rfl (by decide) (fun z => absurd z (by decide)) (by decide) (by decide +kernel))) (by decide +kernel)
theorem flt_6 : Fault (Str.ofString "-") 0 := fault_of (l := [45]) (by decide +kernel) (LE.bad (c := _) (r' := _) rfl (by decide) (by decide) (bad_sign (c := 45) (t := []) rfl (by decide) (fun _ d r e => by cases e) (by decide) (by decide +kernel))) (by decide +kernel)
theorem flt_7 : Fault (Str.ofString "-a") 0 := fault_of (l := [45, 97]) (by decide +kernel) (LE.bad (c := _) (r' := _) rfl (by decide) (by decide) (bad_sign (c := 45) (t := [97]) rfl (by decide) (fun _ d r e => by cases e; rfl) (by decide) (by decide +kernel))) (by decide +kernel)
theorem flt_8 : Fault (Str.ofString "- 1") 0 := fault_of (l := [45, 32, 49]) (by decide +kernel) (LE.bad (c := _) (r' := _) rfl (by decide) (by decide) (bad_sign (c := 45) (t := [32, 49]) rfl (by decide) (fun _ d r e => by cases e; rfl) (by decide) (by decide +kernel))) (by decide +kernel)
theorem flt_9 : Fault (Str.ofString "007") 0 := fault_of (l := [48, 48, 55]) (by decide +kernel) (LE.bad (c := _) (r' := _) rfl (by decide) (by decide) (bad_figure (sg := []) (ds := [48, 55]) (r := []) (d := 48) (.inl rfl) (by decide +kernel) (fun c r e => by cases e) (.inl ⟨rfl, by decide⟩))) (by decide +kernel)
theorem flt_10 : Fault (Str.ofString "00") 0 := fault_of (l := [48, 48]) (by decide +kernel) (LE.bad (c := _) (r' := _) rfl (by decide) (by decide) (bad_figure (sg := []) (ds := [48]) (r := []) (d := 48) (.inl rfl) (by decide +kernel) (fun c r e => by cases e) (.inl ⟨rfl, by decide⟩))) (by decide +kernel)
theorem flt_11 : Fault (Str.ofString "-0") 0 := fault_of (l := [45, 48]) (by decide +kernel) (LE.bad (c := _) (r' := _) rfl (by decide) (by decide) (bad_figure (sg := [45]) (ds := []) (r := []) (d := 48) (.inr rfl) (by decide +kernel) (fun c r e => by cases e) (.inl ⟨rfl, by decide⟩))) (by decide +kernel)
theorem flt_12 : Fault (Str.ofString "-01") 0 := fault_of (l := [45, 48, 49]) (by decide +kernel) (LE.bad (c := _) (r' := _) rfl (by decide) (by decide) (bad_figure (sg := [45]) (ds := [49]) (r := []) (d := 48) (.inr rfl) (by decide +kernel) (fun c r e => by cases e) (.inl ⟨rfl, by decide⟩))) (by decide +kernel)
theorem flt_13 : Fault NINES 0 := fault_of (l := [57, 57, 57, 57, 57, 57, 57, 57, 57, 57, 57, 57, 57, 57, 57, 57, 57, 57, 57, 57, 57, 57, 57, 57, 57, 57, 57, 57, 57, 57, 57, 57, 57, 57, 57, 57, 57, 57, 57, 57, 57, 57, 57, 57, 57, 57, 57, 57, 57, 57, 57, 57, 57, 57, 57, 57, 57, 57, 57, 57, 57]) (by decide +kernel) (LE.bad (c := _) (r' := _) rfl (by decide) (by decide) (bad_figure (sg := []) (ds := [57, 57, 57, 57, 57, 57, 57, 57, 57, 57, 57, 57, 57, 57, 57, 57, 57, 57, 57, 57, 57, 57, 57, 57, 57, 57, 57, 57, 57, 57, 57, 57, 57, 57, 57, 57, 57, 57, 57, 57, 57, 57, 57, 57, 57, 57, 57, 57, 57, 57, 57, 57, 57, 57, 57, 57, 57, 57, 57, 57]) (r := []) (d := 57) (.inl rfl) (by decide +kernel) (fun c r e => by cases e) (.inl ⟨rfl, by decide⟩))) (by decide +kernel)
theorem flt_14 : Fault (Str.ofString "-" ++ NINES) 0 := fault_of (l := [45, 57, 57, 57, 57, 57, 57, 57, 57, 57, 57, 57, 57, 57, 57, 57, 57, 57, 57, 57, 57, 57, 57, 57, 57, 57, 57, 57, 57, 57, 57, 57, 57, 57, 57, 57, 57, 57, 57, 57, 57, 57, 57, 57, 57, 57, 57, 57, 57, 57, 57, 57, 57, 57, 57, 57, 57, 57, 57, 57, 57, 57]) (by decide +kernel) (LE.bad (c := _) (r' := _) rfl (by decide) (by decide) (bad_figure (sg := [45]) (ds := [57, 57, 57, 57, 57, 57, 57, 57, 57, 57, 57, 57, 57, 57, 57, 57, 57, 57, 57, 57, 57, 57, 57, 57, 57, 57, 57, 57, 57, 57, 57, 57, 57, 57, 57, 57, 57, 57, 57, 57, 57, 57, 57, 57, 57, 57, 57, 57, 57, 57, 57, 57, 57, 57, 57, 57, 57, 57, 57, 57]) (r := []) (d := 57) (.inr rfl) (by decide +kernel) (fun c r e => by cases e) (.inl ⟨rfl, by decide⟩))) (by decide +kernel)
theorem flt_15 : Fault (Str.ofString "12a") 2 := fault_of (l := [49, 50, 97]) (by decide +kernel) (LE.bad (c := _) (r' := _) rfl (by decide) (by decide) (bad_figure (sg := []) (ds := [50]) (r := [97]) (d := 49) (.inl rfl) (by decide +kernel) (fun c r e => by cases e; rfl) (.inr ⟨rfl, by decide, by decide, _, _, rfl, rfl⟩))) (by decide +kernel)
theorem flt_16 : Fault (Str.ofString "0x1") 1 := fault_of (l := [48, 120, 49]) (by decide +kernel) (LE.bad (c := _) (r' := _) rfl (by decide) (by decide) (bad_figure (sg := []) (ds := []) (r := [120, 49]) (d := 48) (.inl rfl) (by decide +kernel) (fun c r e => by cases e; rfl) (.inr ⟨rfl, by decide, by decide, _, _, rfl, rfl⟩))) (by decide +kernel)
theorem flt_17 : Fault (Str.ofString "-5Z") 2 := fault_of (l := [45, 53, 90]) (by decide +kernel) (LE.bad (c := _) (r' := _) rfl (by decide) (by decide) (bad_figure (sg := [45]) (ds := []) (r := [90]) (d := 53) (.inr rfl) (by decide +kernel) (fun c r e => by cases e; rfl) (.inr ⟨rfl, by decide, by decide, _, _, rfl, rfl⟩))) (by decide +kernel)
theorem flt_18 : Fault (Str.ofString "a $") 2 := fault_of (l := [97, 32, 36]) (by decide +kernel) (LE.tok (.word [97]) ⟨⟨97, [], rfl, rfl⟩, by decide⟩ (fun c r e => by cases e; decide) (LE.sp (LE.bad (c := _) (r' := _) rfl (by decide) (by decide) (bad_sign (c := 36) (t := []) rfl (by decide) (fun z => absurd z (by decide)) (by decide) (by decide +kernel))))) (by decide +kernel)
theorem flt_19 : Fault (Str.ofString "\"abc") 0 := fault_of (l := [34, 97, 98, 99]) (by decide +kernel) (LE.bad (c := _) (r' := _) rfl (by decide) (by decide) (bad_string [97, 98, 99])) (by decide +kernel)
theorem flt_20 : Fault (Str.ofString "\"") 0 := fault_of (l := [34]) (by decide +kernel) (LE.bad (c := _) (r' := _) rfl (by decide) (by decide) (bad_string [])) (by decide +kernel)
theorem flt_21 : Fault (Str.ofString "\"\"\"") 0 := fault_of (l := [34, 34, 34]) (by decide +kernel) (LE.bad (c := _) (r' := _) rfl (by decide) (by decide) (bad_string [34])) (by decide +kernel)
theorem flt_22 : Fault (Str.ofString "b\"012\"") 0 := fault_of (l := [98, 34, 48, 49, 50, 34]) (by decide +kernel) (LE.bad (c := _) (r' := _) rfl (by decide) (by decide) (bad_quoted (s := [48, 49]) (t := [50, 34]) (q := 98) (.inl rfl) (by decide +kernel) (fun c r e => by cases e; rfl) (.inl fun c r e => by cases e; decide))) (by decide +kernel)
theorem flt_23 : Fault (Str.ofString "b\"01") 0 := fault_of (l := [98, 34, 48, 49]) (by decide +kernel) (LE.bad (c := _) (r' := _) rfl (by decide) (by decide) (bad_quoted (s := [48, 49]) (t := []) (q := 98) (.inl rfl) (by decide +kernel) (fun c r e => by cases e) (.inl fun c r e => by cases e))) (by decide +kernel)
theorem flt_24 : Fault (Str.ofString "h\"0\"") 0 := fault_of (l := [104, 34, 48, 34]) (by decide +kernel) (LE.bad (c := _) (r' := _) rfl (by decide) (by decide) (bad_quoted (s := [48]) (t := [34]) (q := 104) (.inr rfl) (by decide +kernel) (fun c r e => by cases e; rfl) (.inr ⟨rfl, rfl⟩))) (by decide +kernel)
theorem flt_25 : Fault (Str.ofString "h\"AB\"") 0 := fault_of (l := [104, 34, 65, 66, 34]) (by decide +kernel) (LE.bad (c := _) (r' := _) rfl (by decide) (by decide) (bad_quoted (s := []) (t := [65, 66, 34]) (q := 104) (.inr rfl) (by decide +kernel) (fun c r e => by cases e; rfl) (.inl fun c r e => by cases e; decide))) (by decide +kernel)
theorem flt_26 : Fault (Str.ofString "h\"0 1\"") 0 := fault_of (l := [104, 34, 48, 32, 49, 34]) (by decide +kernel) (LE.bad (c := _) (r' := _) rfl (by decide) (by decide) (bad_quoted (s := [48]) (t := [32, 49, 34]) (q := 104) (.inr rfl) (by decide +kernel) (fun c r e => by cases e; rfl) (.inl fun c r e => by cases e; decide))) (by decide +kernel)
theorem flt_27 : Fault (Str.ofString "h\"") 0 := fault_of (l := [104, 34]) (by decide +kernel) (LE.bad (c := _) (r' := _) rfl (by decide) (by decide) (bad_quoted (s := []) (t := []) (q := 104) (.inr rfl) (by decide +kernel) (fun c r e => by cases e) (.inl fun c r e => by cases e))) (by decide +kernel)
theorem flt_28 : Fault (Str.ofString "+1") 0 := fault_of (l := [43, 49]) (by decide +kernel) (LE.bad (c := _) (r' := _) rfl (by decide) (by decide) (bad_sign (c := 43) (t := [49]) rfl (by decide) (fun z => absurd z (by decide)) (by decide) (by decide +kernel))) (by decide +kernel)
theorem flt_29 : Fault (Str.ofString "a-") 1 := fault_of (l := [97, 45]) (by decide +kernel) (LE.tok (.word [97]) ⟨⟨97, [], rfl, rfl⟩, by decide⟩ (fun c r e => by cases e; decide) (LE.bad (c := _) (r' := _) rfl (by decide) (by decide) (bad_sign (c := 45) (t := []) rfl (by decide) (fun _ d r e => by cases e) (by decide) (by decide +kernel)))) (by decide +kernel)
theorem flt_30 : Fault (Str.ofString "/") 0 := fault_of (l := [47]) (by decide +kernel) (LE.bad (c := _) (r' := _) rfl (by decide) (by decide) (bad_sign (c := 47) (t := []) rfl (by decide) (fun z => absurd z (by decide)) (by decide) (by decide +kernel))) (by decide +kernel)
theorem flt_31 : Fault (Str.ofString "?") 0 := fault_of (l := [63]) (by decide +kernel) (LE.bad (c := _) (r' := _) rfl (by decide) (by decide) (bad_sign (c := 63) (t := []) rfl (by decide) (fun z => absurd z (by decide)) (by decide) (by decide +kernel))) (by decide +kernel)
theorem flt_32 : Fault (Str.ofString "&") 0 := fault_of (l := [38]) (by decide +kernel) (LE.bad (c := _) (r' := _) rfl (by decide) (by decide) (bad_sign (c := 38) (t := []) rfl (by decide) (fun z => absurd z (by decide)) (by decide) (by decide +kernel))) (by decide +kernel)
theorem flt_33 : Fault (Str.ofString "a_b") 1 := fault_of (l := [97, 95, 98]) (by decide +kernel) (LE.tok (.word [97]) ⟨⟨97, [], rfl, rfl⟩, by decide⟩ (fun c r e => by cases e; decide) (LE.bad (c := _) (r' := _) rfl (by decide) (by decide) (bad_sign (c := 95) (t := [98]) rfl (by decide) (fun z => absurd z (by decide)) (by decide) (by decide +kernel)))) (by decide +kernel)
theorem flt_34 : Fault (Str.ofString "@") 0 := fault_of (l := [64]) (by decide +kernel) (LE.bad (c := _) (r' := _) rfl (by decide) (by decide) (bad_sign (c := 64) (t := []) rfl (by decide) (fun z => absurd z (by decide)) (by decide) (by decide +kernel))) (by decide +kernel)
theorem flt_35 : Fault (Str.ofString "a\"") 1 := fault_of (l := [97, 34]) (by decide +kernel) (LE.tok (.word [97]) ⟨⟨97, [], rfl, rfl⟩, by decide⟩ (fun c r e => by cases e; decide) (LE.bad (c := _) (r' := _) rfl (by decide) (by decide) (bad_string []))) (by decide +kernel)
theorem flt_36 : Fault (Str.ofString "h\"aa\"\"") 5 := fault_of (l := [104, 34, 97, 97, 34, 34]) (by decide +kernel) (LE.tok (.hex [170]) (show ∀ o ∈ [170], o < 256 by decide) (fun c r e => rfl) (LE.bad (c := _) (r' := _) rfl (by decide) (by decide) (bad_string []))) (by decide +kernel)
def BADS : List (Str × Nat) := [((Str.ofString "$"), 0), ((Str.ofString "~"), 0), ((Str.ofString "_a"), 0), ((Str.ofString "!"), 0), ((Str.ofString "'"), 0), ((Str.ofString "\\"), 0), ((Str.ofString "-"), 0), ((Str.ofString "-a"), 0), ((Str.ofString "- 1"), 0), ((Str.ofString "007"), 0), ((Str.ofString "00"), 0), ((Str.ofString "-0"), 0), ((Str.ofString "-01"), 0), (NINES, 0), ((Str.ofString "-" ++ NINES), 0), ((Str.ofString "12a"), 2), ((Str.ofString "0x1"), 1), ((Str.ofString "-5Z"), 2), ((Str.ofString "a $"), 2), ((Str.ofString "\"abc"), 0), ((Str.ofString "\""), 0), ((Str.ofString "\"\"\""), 0), ((Str.ofString "b\"012\""), 0), ((Str.ofString "b\"01"), 0), ((Str.ofString "h\"0\""), 0), ((Str.ofString "h\"AB\""), 0), ((Str.ofString "h\"0 1\""), 0), ((Str.ofString "h\""), 0), ((Str.ofString "+1"), 0), ((Str.ofString "a-"), 1), ((Str.ofString "/"), 0), ((Str.ofString "?"), 0), ((Str.ofString "&"), 0), ((Str.ofString "a_b"), 1), ((Str.ofString "@"), 0), ((Str.ofString "a\""), 1), ((Str.ofString "h\"aa\"\""), 5)]
theorem bads : ∀ x ∈ BADS, Fault x.1 x.2 := by
  intro x hx
  unfold BADS at hx
  simp only [List.mem_cons, List.not_mem_nil, or_false] at hx
  rcases hx with rfl | rfl | rfl | rfl | rfl | rfl | rfl | rfl | rfl | rfl | rfl | rfl | rfl | rfl | rfl | rfl | rfl | rfl | rfl | rfl | rfl | rfl | rfl | rfl | rfl | rfl | rfl | rfl | rfl | rfl | rfl | rfl | rfl | rfl | rfl | rfl | rfl
  · exact flt_0
  · exact flt_1
  · exact flt_2
  · exact flt_3
  · exact flt_4
  · exact flt_5
  · exact flt_6
  · exact flt_7
  · exact flt_8
  · exact flt_9
  · exact flt_10
  · exact flt_11
  · exact flt_12
  · exact flt_13
  · exact flt_14
  · exact flt_15
  · exact flt_16
  · exact flt_17
  · exact flt_18
  · exact flt_19
  · exact flt_20
  · exact flt_21
  · exact flt_22
  · exact flt_23
  · exact flt_24
  · exact flt_25
  · exact flt_26
  · exact flt_27
  · exact flt_28
  · exact flt_29
  · exact flt_30
  · exact flt_31
  · exact flt_32
  · exact flt_33
  · exact flt_34
  · exact flt_35
  · exact flt_36
end Lxr
set_option Elab.async false
set_option linter.all false
set_option maxRecDepth 100000
set_option maxHeartbeats 2000000
namespace Lxr
open PySem PySem.Spec PyProof.Rows L2 Mp Pl
def gpB (s : Str) (thr : Bool) : Bool := (if thr then thruB (cs s) else endB (cs s)) && gapH (cs s) && decide (s.length ≤ 12) && PyData.strOk s
theorem gp_of {s : Str} {t : Bool} (h : gpB s t = true) : (t = true → Thru (cs s)) ∧ (t = false → Last (cs s)) ∧ gapH (cs s) = true ∧ s.length ≤ 12 ∧ PyData.strOk s = true := by
  unfold gpB at h
  simp only [Bool.and_eq_true, decide_eq_true_eq] at h
  obtain ⟨⟨⟨a, b⟩, c⟩, d⟩ := h
  refine ⟨fun e => (thru_of _).1 (by rw [e] at a; exact a), fun e => (last_of _).1 (by rw [e] at a; exact a), b, c, d⟩
def Sofar (t : List Nat) (due : List D) (P : List Nat → Prop) : Prop := ∀ T out, P T → LX (adv (1, 1) t) T out → LX (1, 1) (t ++ T) (due ++ out)
theorem sofar_0 {P : List Nat → Prop} : Sofar [] [] P := fun T out _ h => h
theorem Sofar.gap {t due g} {P Q : List Nat → Prop} (h : Sofar t due P) (hg : Thru g) (hq : ∀ T, Q T → P (g ++ T)) : Sofar (t ++ g) due Q := fun T out hT hx => by
  rw [List.append_assoc]
  refine h _ _ (hq T hT) (hg _ _ _ ?_)
  rw [← adv_app]
  exact hx
theorem Sofar.to {t due} {P Q : List Nat → Prop} (h : Sofar t due P) (hq : ∀ T, Q T → P T) : Sofar t due Q := fun T out hT hx => h _ _ (hq T hT) hx
theorem Sofar.tok {t due} {Q : List Nat → Prop} {k : Tk} (h : Sofar t due Q) (hk : TkOk k) (hq : ∀ T, Q (k.txt ++ T)) : Sofar (t ++ k.txt) (due ++ [tokD k (adv (1, 1) t).1 (adv (1, 1) t).2]) k.folL := fun T out hT hx => by
  rw [List.append_assoc, List.append_assoc]
  refine h _ _ (hq T) (LX.tok k hk.ok hT hk.nl ?_)
  rw [← adv_app]
  exact hx
theorem Sofar.fin {t due g} {P : List Nat → Prop} (h : Sofar t due P) (hg : Last g) (hp : P g) : LX (1, 1) (t ++ g) (due ++ [endD (adv (1, 1) (t ++ g))]) := by
  refine h _ _ hp ?_
  rw [adv_app]
  exact hg _
def prv (ts : List Tk) (i : Nat) (T : List Nat) : Prop := ∀ k, 0 < i → ts[i - 1]? = some k → k.folL T
theorem cut_sub {xs : List D} {lo hi : Option Int} : (Mp.cutD xs lo hi).Sublist xs := (List.take_sublist _ _).trans (List.drop_sublist _ _)
abbrev SGL : Str := Str.ofString "{}()[]<>,;:=|"
theorem in_sgl {a : Str} (h : (!(Builtin.Str.occurrences SGL a 0 SGL.length 1).isEmpty) = true) : ∀ c ∈ cs a, c ∈ cs SGL := by
  obtain ⟨i, _, h2⟩ := (StrLaws.found_iff SGL a).mp h
  rw [StrLaws.subAt_eq] at h2
  have e := eq_of_beq h2
  intro c hc
  have hc' : c ∈ a.cps.toList := hc
  rw [← e] at hc'
  exact List.mem_of_mem_drop (List.mem_of_mem_take hc')
theorem single_in {s : List Nat} (h : s ∈ singles) : inE (.str (mkS s)) (singles.map fun m => .str (mkS m)) = true := by
  have : ∀ s ∈ singles, inE (.str (mkS s)) (singles.map fun m => .str (mkS m)) = true := by decide +kernel
  exact this s h
theorem sgl_tk {t : Tk} (ht : t.ok) (h : ∀ c ∈ t.txt, c ∈ cs SGL) : t.isM = true ∧ inE t.con (singles.map fun m => .str (mkS m)) = true := by
  have hs : ∀ c ∈ cs SGL, letC c = false ∧ digC c = false ∧ c ≠ 45 ∧ c ≠ 34 ∧ c ≠ 46 := by decide +kernel
  obtain ⟨c, r, e⟩ := tx_head ht
  have hc := hs c (h c (by rw [e]; simp))
  have hm : t.isM = true := by
    cases z : t.isM with
    | true => rfl
    | false =>
      rcases head_no ht z e with ⟨_, q | q⟩ | ⟨_, q⟩ | ⟨_, _, q⟩
      · exact absurd q hc.2.2.1
      · rw [hc.2.1] at q; cases q
      · exact absurd q hc.2.2.2.1
      · rw [hc.1] at q; cases q
  refine ⟨hm, ?_⟩
  cases t with
  | mark s =>
    refine single_in ?_
    have hm : s ∈ marks := ht
    have n46 : 46 ∉ s := fun z => (hs 46 (h 46 z)).2.2.2.2 rfl
    have all : ∀ s ∈ marks, 46 ∉ s → s ∈ singles := by decide +kernel
    exact all s hm n46
  | _ => cases hm
end Lxr
set_option Elab.async false
set_option linter.all false
set_option maxRecDepth 100000
set_option maxHeartbeats 2000000
namespace Qk35
open PySem PySem.Spec PyProof.Rows L2 Mp Pl Lxr
section
variable {hp : List O} {n : Nat} {o : O} {R : S → List O → Prop} {Xp : MX}
theorem sp_gap {ti : Bool} {tg : Tg (m__law_gap, R, Xp)} (ho : hp[n]? = some o) (hs : St o) (h : ∀ (s : Str) o', St o' → gpB s true = true → (s = Str.ofString "" → ti = true) → R (.d (.str s)) (hp.set n o')) : mfH m__law_gap hp [.mu n, .d (.bl ti)] R Xp tg := by
  have at0 : ∀ o' : O, (hp.set n o')[n]? = some o' := fun o' => set_at ho o'
  have ss : ∀ o1 o2 : O, (hp.set n o1).set n o2 = hp.set n o2 := fun o1 o2 => List.set_set ..
  refine mfH_of ?_
  unfold m__law_gap
  simp [-x_seq]
  rw [x_seq]
  simp [-x_seq]
  refine s_take ho hs (by omega) fun u o1 hs1 _ _ _ => ?_
  simp [-x_seq]
  refine seq_cut (fun hp' env' => hp' = hp.set n o1 ∧ env' = [some (.mu n), some (.d (.bl ti)), some (.d (.int u))]) (fun N hN => ?_) ?_
  · have hN := hN _ _ ⟨rfl, rfl⟩
    simp
    refine brH_of (fun hb => ?_) fun hb => ?_
    · simp
      cases ti with
      | true =>
        simp
        exact h _ o1 hs1 (by decide +kernel) (fun _ => rfl)
      | false =>
        simp
        exact hN
    · simp
      exact hN
  rintro _ _ ⟨rfl, rfl⟩
  simp
  refine brH_of (fun hb => ?_) fun hb => ?_
  · simp
    exact h _ o1 hs1 (by decide +kernel) (fun e => absurd e (by decide +kernel))
  simp
  refine pick_memD (at0 _) hs1 (by simp) (by simp) fun d o2 hs2 hd => ?_
  simp [ss]
  simp at hd
  rcases hd with rfl | rfl | rfl | rfl | rfl | rfl | rfl | rfl <;> exact h _ o2 hs2 (by decide +kernel) (fun e => absurd e (by decide +kernel))
def inS (a : Str) : Bool := !(Builtin.Str.occurrences SGL a 0 SGL.length 1).isEmpty
theorem finS {a : Str} {P : D → Prop} (h : P (.bl (inS a))) : fIn false (.str a) (.str SGL) P := .inl h
def txs (ts : List Tk) : List D := ts.map fun t => .str (mkS t.txt)
theorem sp_laid {ts : List Tk} (hts : ∀ t ∈ ts, TkOk t) (lts : ts.length ≤ 20) {tg : Tg (m__law_laid, R, Xp)} (ho : hp[n]? = some o) (hs : St o)
    (h : ∀ (x : Str) (sp : D) out o', St o' → LX (1, 1) (cs x) out → x.length ≤ 20000 → PyData.strOk x = true → R (.d (.tup [.str x, sp])) (hp.set n o')) :
    mfH m__law_laid hp [.mu n, .d (.lst (txs ts)), .d (.bl false)] R Xp tg := by
  have hn : n < hp.length := (List.getElem?_eq_some_iff.mp ho).1
  have at1 : ∀ (o' x : O), (hp.set n o' ++ [x])[n]? = some o' := fun o' x => app_at3 hn
  have ss1 : ∀ (o' x o'' : O), (hp.set n o' ++ [x]).set n o'' = hp.set n o'' ++ [x] := fun o' x o'' => app_set4 hn
  have ll : (txs ts).length = ts.length := List.length_map _
  refine mfH_of ?_
  unfold m__law_laid
  simp [-x_seq]
  rw [x_seq]
  simp [-x_seq]
  rw [x_seq]
  simp [-x_seq]
  rw [x_seq]
  simp [-x_seq]
  have e0 : hp ++ [O.lst []] = hp.set n o ++ [O.lst []] := by rw [set_same ho]
  rw [e0]
  rw [x_seq]
  simp [-x_seq]
  refine pick_memD (at1 _ _) hs (by simp) (by simp) fun d o1 hs1 hd => ?_
  obtain ⟨x0, rfl, hg⟩ : ∃ s : Str, d = .str s ∧ gpB s true = true := by
    simp at hd
    rcases hd with rfl | rfl | rfl | rfl | rfl <;> exact ⟨_, rfl, by decide +kernel⟩
  obtain ⟨g1, _, _, xl0, xk0⟩ := gp_of hg
  simp [ss1, -x_seq]
  rw [x_seq]
  simp [-x_seq]
  refine ⟨by omega, ?_⟩
  refine forH_rng (fun i hp' env' => ∃ (x : Str) (o' : O) (due : List D) (sp : List D) (e6 : Option S), St o' ∧ Sofar (cs x) due (prv ts i) ∧ x.length ≤ 20 + 221 * i ∧ PyData.strOk x = true ∧ sp.length = i ∧ hp' = hp.set n o' ++ [O.lst sp] ∧ env' = [some (.mu n), some (.d (.lst (txs ts))), some (.d (.bl false)), some (.d (.str SGL)), some (.d (.str x)), some (.mu hp.length), e6]) ⟨x0, o1, [], [], none, hs1, by have := (sofar_0 (P := fun _ => True)).gap (g1 rfl) (Q := prv ts 0) fun _ _ => trivial; simpa using this, by omega, xk0, rfl, rfl, rfl⟩ ?_ ?_
  · rintro i _ _ N hi ⟨x, o2, due, sp, e6, hs2, hx, xl, xk, sl, rfl, rfl⟩ hN
    have hi' : i < ts.length := by omega
    have ea : atI (txs ts) (i : Int) = some (.str (mkS ts[i].txt)) := atI_some (m := i) (by simp [txs, hi']) rfl
    have k2 := hts _ (List.getElem_mem hi')
    simp [-x_seq]
    refine seq_cut (fun hp' env' => ∃ (x : Str) (o' : O), St o' ∧ Sofar (cs x) due (fun T => ∃ r, T = ts[i].txt ++ r) ∧ x.length ≤ 20 + 221 * i + 12 ∧ PyData.strOk x = true ∧ hp' = hp.set n o' ++ [O.lst sp] ∧ env' = [some (.mu n), some (.d (.lst (txs ts))), some (.d (.bl false)), some (.d (.str SGL)), some (.d (.str x)), some (.mu hp.length), some (.d (.int i))]) (fun N2 hN2 => ?_) ?_
    · cases i with
      | zero =>
        simp
        exact hN2 _ _ ⟨x, o2, hs2, hx.to fun T _ k z => absurd z (Nat.lt_irrefl _), by omega, xk, rfl, rfl⟩
      | succ i =>
        have hii : i < ts.length := by omega
        have eb : atI (txs ts) (i : Int) = some (.str (mkS ts[i].txt)) := atI_some (m := i) (by simp [txs, hii]) rfl
        have ea' : atI (txs ts) ((i : Int) + 1) = some (.str (mkS ts[i + 1].txt)) := ea
        have k1 := hts _ (List.getElem_mem hii)
        have gap : ∀ (b : Bool) (s : Str) o', St o' → gpB s true = true → (s = Str.ofString "" → b = true) → (b = true → Fits ts[i] ts[i + 1]) → N2 ⟨hp.set n o' ++ [O.lst sp], [some (.mu n), some (.d (.lst (txs ts))), some (.d (.bl false)), some (.d (.str SGL)), some (.d (.str (x ++ s))), some (.mu hp.length), some (.d (.int ((i : Int) + 1)))], hp.length⟩ := fun b s o' hs' hg hb hf => by
          obtain ⟨g1, _, g3, g4, g5⟩ := gp_of hg
          have hpr : ∀ T, ts[i].folL T → prv ts (i + 1) T := fun T hT k _ e => by
            have : ts[i] = k := by simpa [hii] using e
            rw [← this]; exact hT
          refine hN2 _ _ ⟨x ++ s, o', hs', ?_, by rw [Str.length_append]; omega, by rw [Tb.strOk_app, xk, g5]; rfl, rfl, rfl⟩
          rw [cs_app]
          refine hx.gap (g1 rfl) fun T ⟨r, e⟩ => hpr _ ?_
          by_cases z : cs s = []
          · have : s = Str.ofString "" := by rw [← mk_cs (x := s), z]; rfl
            rw [z, e]
            exact (hf (hb this)).folL k2.ok r
          · exact folL_gap g3 z
        simp [eb, ea']
        refine finS ?_
        cases hA : inS (mkS ts[i].txt) with
        | true =>
          obtain ⟨f1, f2⟩ := sgl_tk k1.ok (fun c hc => in_sgl hA c hc)
          simp
          refine sp_gap (at1 _ _) hs2 fun s o3 hs3 hg hb => ?_
          obtain ⟨_, _, _, g4, _⟩ := gp_of hg
          simp [ss1]
          exact ⟨by omega, gap true s o3 hs3 hg hb fun _ => fits_1 f1 f2⟩
        | false =>
          simp [eb, ea']
          refine finS ?_
          refine sp_gap (at1 _ _) hs2 fun s o3 hs3 hg hb => ?_
          obtain ⟨_, _, _, g4, _⟩ := gp_of hg
          simp [ss1]
          exact ⟨by omega, gap _ s o3 hs3 hg hb fun z => by
            obtain ⟨f1, f2⟩ := sgl_tk k2.ok (fun c hc => in_sgl z c hc)
            exact fits_2 f1 f2⟩
    · rintro _ _ ⟨x2, o3, hs3, hx3, xl3, xk3, rfl, rfl⟩
      have l0 : (mkS ts[i].txt).length ≤ 200 := by have := k2.len; rw [← len_cs]; exact this
      have oku := low_ok k2.low
      have hk := hx3.tok k2 (fun T => ⟨T, rfl⟩)
      have ek : cs x2 ++ ts[i].txt = cs (x2 ++ mkS ts[i].txt) := by rw [cs_app]; rfl
      rw [ek] at hk
      rw [x_seq]
      simp [-x_seq]
      refine sp_spot (by omega) ?_
      simp [ea]
      refine ⟨by omega, by omega, hN _ _ ⟨x2 ++ mkS ts[i].txt, o3, due ++ [tokD ts[i] (adv (1, 1) (cs x2)).1 (adv (1, 1) (cs x2)).2], _, _, hs3, hk.to (fun T hT => hT ts[i] (by omega) (by simp [hi'])), by rw [Str.length_append]; omega, by rw [Tb.strOk_app, xk3, oku]; rfl, by simp [sl], rfl, rfl⟩⟩
  · rintro _ _ ⟨x, o2, due, sp, e6, hs2, hx, xl, xk, sl, rfl, rfl⟩
    have xl' : x.length ≤ 20 + 221 * 20 := Nat.le_trans xl (by omega)
    rw [x_seq]
    simp [-x_seq]
    refine pick_memD (at1 _ _) hs2 (by simp) (by simp) fun d o3 hs3 hd => ?_
    obtain ⟨s, rfl, hg⟩ : ∃ s : Str, d = .str s ∧ gpB s false = true := by
      simp at hd
      rcases hd with rfl | rfl | rfl | rfl | rfl | rfl | rfl <;> exact ⟨_, rfl, by decide +kernel⟩
    obtain ⟨_, g2, g3, g4, g5⟩ := gp_of hg
    have hf := hx.fin (g2 rfl) (fun k _ _ => folL_last g3)
    rw [← cs_app] at hf
    simp [ss1]
    refine ⟨by omega, ?_⟩
    refine sp_spot (by rw [Str.length_append]; omega) ?_
    simp
    refine ⟨by omega, ?_⟩
    exact h (x ++ s) _ _ o3 hs3 hf (by rw [Str.length_append]; omega) (by rw [Tb.strOk_app, xk, g5]; rfl)
end
end Qk35
set_option Elab.async false
set_option linter.all false
set_option maxRecDepth 100000
set_option maxHeartbeats 2000000
namespace Qk35
open PySem PySem.Spec PyProof.Rows L2 Mp Pl Lxr
section
variable {hp : List O} {n : Nat} {o : O} {R : S → List O → Prop} {Xp : MX}
def BLST : List D := [D.tup [D.str (Str.ofString "$"), D.int 0], D.tup [D.str (Str.ofString "~"), D.int 0], D.tup [D.str (Str.ofString "_a"), D.int 0], D.tup [D.str (Str.ofString "!"), D.int 0], D.tup [D.str (Str.ofString "'"), D.int 0], D.tup [D.str (Str.ofString "\\"), D.int 0], D.tup [D.str (Str.ofString "-"), D.int 0], D.tup [D.str (Str.ofString "-a"), D.int 0], D.tup [D.str (Str.ofString "- 1"), D.int 0], D.tup [D.str (Str.ofString "007"), D.int 0], D.tup [D.str (Str.ofString "00"), D.int 0], D.tup [D.str (Str.ofString "-0"), D.int 0], D.tup [D.str (Str.ofString "-01"), D.int 0], D.tup [D.str (Txt.mul (Str.ofString "9") 61), D.int 0], D.tup [D.str (Str.ofString "-" ++ Txt.mul (Str.ofString "9") 61), D.int 0], D.tup [D.str (Str.ofString "12a"), D.int 2], D.tup [D.str (Str.ofString "0x1"), D.int 1], D.tup [D.str (Str.ofString "-5Z"), D.int 2], D.tup [D.str (Str.ofString "a $"), D.int 2], D.tup [D.str (Str.ofString "\"abc"), D.int 0], D.tup [D.str (Str.ofString "\""), D.int 0], D.tup [D.str (Str.ofString "\"\"\""), D.int 0], D.tup [D.str (Str.ofString "b\"012\""), D.int 0], D.tup [D.str (Str.ofString "b\"01"), D.int 0], D.tup [D.str (Str.ofString "h\"0\""), D.int 0], D.tup [D.str (Str.ofString "h\"AB\""), D.int 0], D.tup [D.str (Str.ofString "h\"0 1\""), D.int 0], D.tup [D.str (Str.ofString "h\""), D.int 0], D.tup [D.str (Str.ofString "+1"), D.int 0], D.tup [D.str (Str.ofString "a-"), D.int 1], D.tup [D.str (Str.ofString "/"), D.int 0], D.tup [D.str (Str.ofString "?"), D.int 0], D.tup [D.str (Str.ofString "&"), D.int 0], D.tup [D.str (Str.ofString "a_b"), D.int 1], D.tup [D.str (Str.ofString "@"), D.int 0], D.tup [D.str (Str.ofString "a\""), D.int 1], D.tup [D.str (Str.ofString "h\"aa\"\""), D.int 5]]
theorem sp_bad_token {tg : Tg (m__law_bad_token, R, Xp)} (ho : hp[n]? = some o) (hs : St o) (h : ∀ (s : Str) (k : Nat) o', St o' → Fault s k → R (.d (.tup [.str s, .int k])) (hp.set n o')) : mfH m__law_bad_token hp [.mu n] R Xp tg := by
  have ss : ∀ o1 o2 : O, (hp.set n o1).set n o2 = hp.set n o2 := fun o1 o2 => List.set_set ..
  refine mfH_of ?_
  unfold m__law_bad_token
  simp only [x_def]
  rw [x_seq]
  simp [-x_seq]
  obtain ⟨m1, m2, m3⟩ := Tb.mul_ok (x := Str.ofString "9") (n := 61) ofS_ok (by decide +kernel) (by omega) (by omega)
  have l1 : (Str.ofString "-").length = 1 := rfl
  have l9 : (Str.ofString "9").length = 1 := rfl
  have l61 : (Txt.mul (Str.ofString "9") 61).length = 61 := by decide +kernel
  refine ⟨m1, by omega, ?_⟩
  obtain ⟨bl, ebl⟩ : ∃ bl : List D, bl = BADS.map (fun x => .tup [.str x.1, .int x.2]) := ⟨_, rfl⟩
  have eb : bl = BLST := ebl
  show mfH m__law_pick hp [S.mu n, S.d (D.lst BLST)] _ _ _
  rw [← eb]
  refine pick_memD ho hs (by rw [ebl]; decide) (by rw [ebl]; decide) fun d o2 hs2 hd => ?_
  rw [ebl] at hd
  obtain ⟨x, hx, rfl⟩ := List.mem_map.mp hd
  simp [ss]
  exact h _ _ o2 hs2 (bads x hx)
structure Cs (x : Str) (l c : Int) : Prop where
  ex : ∃ (H B T : List Nat) (o : List D) (k : Nat), cs x = H ++ 10 :: (B ++ 10 :: T) ∧ 10 ∉ B ∧ LX (1, 1) H o ∧ LE 0 B k ∧ l = (((adv (1, 1) H).1 + 1 : Nat) : Int) ∧ c = ((k + 1 : Nat) : Int)
  hz : x.length ≤ 1000000
  ok : PyData.strOk x = true
theorem sp_spoilt_text {ts : List Tk} (hts : ∀ t ∈ ts, TkOk t) (lts : ts.length ≤ 20) {tg : Tg (m__law_spoilt_text, R, Xp)} (ho : hp[n]? = some o) (hs : St o) (h : ∀ (x : Str) (l c : Int) o', St o' → Cs x l c → R (.d (.tup [.str x, .int l, .int c])) (hp.set n o')) : mfH m__law_spoilt_text hp [.mu n, .d (.lst (txs ts))] R Xp tg := by
  have at0 : ∀ o' : O, (hp.set n o')[n]? = some o' := fun o' => set_at ho o'
  have ss : ∀ o1 o2 : O, (hp.set n o1).set n o2 = hp.set n o2 := fun o1 o2 => List.set_set ..
  have ll : (txs ts).length = ts.length := List.length_map _
  have sub : ∀ a b, ∃ ts2, (∀ t ∈ ts2, TkOk t) ∧ ts2.length ≤ 20 ∧ Mp.cutD (txs ts) a b = txs ts2 := fun a b => by
    obtain ⟨ts2, s2, e⟩ := List.sublist_map_iff.mp (cut_sub (xs := txs ts) (lo := a) (hi := b))
    exact ⟨ts2, fun t ht => hts t (s2.subset ht), Nat.le_trans s2.length_le lts, e⟩
  refine mfH_of ?_
  unfold m__law_spoilt_text
  simp [-x_seq]
  rw [x_seq]
  simp [ll, -x_seq]
  refine s_take ho hs (by omega) fun u o1 hs1 _ _ _ => ?_
  simp [-x_seq]
  obtain ⟨t1, h1, l1, e1⟩ := sub none (some u)
  obtain ⟨t2, h2, l2, e2⟩ := sub (some u) none
  rw [x_seq]
  simp [e1, -x_seq]
  refine sp_laid h1 l1 (at0 _) hs1 fun x1 d1 out1 o2 hs2 hx1 xl1 xk1 => ?_
  simp [ss, -x_seq]
  rw [x_seq]
  simp [e2, -x_seq]
  refine sp_laid h2 l2 (at0 _) hs2 fun x2 d2 out2 o3 hs3 hx2 xl2 xk2 => ?_
  simp [ss, -x_seq]
  rw [x_seq]
  simp [-x_seq]
  refine sp_bad_token (at0 _) hs3 fun s k o4 hs4 hf => ?_
  simp [ss, -x_seq]
  rw [x_seq]
  simp [-x_seq]
  have l2' : (Str.ofString "\n ").length = 2 := rfl
  have l1' : (Str.ofString "\n").length = 1 := rfl
  refine ⟨by omega, ?_⟩
  refine sp_spot (by rw [Str.length_append]; omega) ?_
  simp
  have len := hf.len
  have ca : cs (x1 ++ Str.ofString "\n ") = cs x1 ++ [10, 32] := by rw [cs_app]; rfl
  have ea : adv (1, 1) (cs (x1 ++ Str.ofString "\n ")) = ((adv (1, 1) (cs x1)).1 + 1, 2) := by rw [ca, adv_app]; rfl
  have cX : cs (x1 ++ Str.ofString "\n " ++ s ++ Str.ofString "\n" ++ x2) = cs x1 ++ 10 :: ((32 :: cs s) ++ 10 :: cs x2) := by
    rw [cs_app, cs_app, cs_app, ca]
    show cs x1 ++ [10, 32] ++ cs s ++ [10] ++ cs x2 = _
    simp
  have okA : ∀ a b : Str, PyData.strOk a = true → PyData.strOk b = true → PyData.strOk (a ++ b) = true := fun a b h1 h2 => by rw [Tb.strOk_app, h1, h2]; rfl
  rw [ea]
  refine ⟨by omega, by rw [Str.length_append]; omega, by rw [Str.length_append, Str.length_append]; omega, by rw [Str.length_append, Str.length_append, Str.length_append]; omega, ?_⟩
  refine h _ _ _ o4 hs4 ⟨⟨cs x1, 32 :: cs s, cs x2, _, 1 + k, cX, fun z => ?_, hx1, hf.le, rfl, by show (2 : Int) + k = _; omega⟩, ?_, okA _ _ (okA _ _ (okA _ _ (okA _ _ xk1 ofS_ok) hf.ok) ofS_ok) xk2⟩
  · rcases List.mem_cons.mp z with z | z
    · cases z
    · exact hf.nl z
  · rw [Str.length_append, Str.length_append, Str.length_append, Str.length_append]
    omega
end
end Qk35
set_option Elab.async false
set_option linter.all false
set_option maxRecDepth 100000
set_option maxHeartbeats 2000000
namespace Qk35
open PySem PySem.Spec PyProof.Rows L2 Mp Pl Lxr
section
variable {hp : List O} {n : Nat} {o : O} {R : S → List O → Prop} {Xp : MX}
theorem sp_case {tg : Tg (m__law_case, R, Xp)} (ho : hp[n]? = some o) (hs : St o) (h : ∀ (x : Str) (l c : Int) o', St o' → Cs x l c → R (.d (.tup [.str x, .int l, .int c])) (hp.set n o')) : mfH m__law_case hp [.mu n] R Xp tg := by
  have at0 : ∀ o' : O, (hp.set n o')[n]? = some o' := fun o' => set_at ho o'
  have ss : ∀ o1 o2 : O, (hp.set n o1).set n o2 = hp.set n o2 := fun o1 o2 => List.set_set ..
  refine mfH_of ?_
  unfold m__law_case
  simp [-x_seq]
  rw [x_seq]
  simp [-x_seq]
  refine pick_mem (xs := [0, 1, 2, 4, 8, 20]) ho hs (by simp) (by simp) fun m o1 hs1 hm => ?_
  obtain ⟨m, rfl⟩ : ∃ m' : Nat, m = m' := ⟨m.toNat, by simp at hm; omega⟩
  have m20 : m ≤ 20 := by simp at hm; omega
  simp [-x_seq]
  refine ⟨by omega, ?_⟩
  refine compH_rngI (fun k acc hp' => ∃ (o' : O) (ts : List Tk), St o' ∧ ts.length = k ∧ (∀ t ∈ ts, TkOk t) ∧ acc = txs ts ∧ hp' = hp.set n o') (Nat.le_trans m20 (by decide)) ⟨o1, [], hs1, rfl, by simp, rfl, rfl⟩ ?_ ?_
  · rintro k acc _ N hk ⟨o2, ts, hs2, tl, hts, rfl, rfl⟩ hN
    simp
    refine sp_token (at0 _) hs2 fun t o3 hs3 ht => ?_
    have e2 : atI [D.str t.sort, t.con, D.str (mkS t.txt)] 2 = some (D.str (mkS t.txt)) := rfl
    simp [ss, Tk.d, e2]
    refine hN _ _ ⟨o3, ts ++ [t], hs3, by simp [tl], fun x hx => ?_, by simp [txs], rfl⟩
    rcases List.mem_append.mp hx with q | q
    · exact hts x q
    · simp at q; rw [q]; exact ht
  rintro acc _ ⟨o2, ts, hs2, tl, hts, rfl, rfl⟩
  simp
  refine sp_spoilt_text hts (by omega) (at0 _) hs2 fun x l c o3 hs3 hc => ?_
  simp [ss]
  exact h x l c o3 hs3 hc
theorem sp_parse_n {x : Str} {l c : Int} {tg : Tg (m_parse_schema, R, Xp)} (hc : Cs x l c) (hX : Xp (unX l c) hp) : mfH m_parse_schema hp [.d (.str x)] R Xp tg := by
  obtain ⟨H, B, T, o, k, h1, h2, h3, h4, el, ec⟩ := hc.ex
  refine mfH_of ?_
  unfold m_parse_schema
  simp [-x_seq]
  rw [x_seq]
  simp [-x_seq]
  refine mfH_of ?_
  unfold m_Cursor___init__
  simp [-x_seq]
  rw [x_seq]
  simp [-x_seq]
  refine sp_tokens_f h1 h2 h3 h4 hc.hz hc.ok ?_
  rw [← el, ← ec]
  have e1 : ∀ x : O, List.take hp.length (List.take (hp.length + 1) (hp ++ [x])) = hp := fun x => by rw [List.take_take]; simp
  simp [e1]
  exact hX
theorem sp_place {x : Str} {l c : Int} {w : Bool} {tg : Tg (m__law_place, R, Xp)} (hc : Cs x l c) (hR : R (.d (.tup [.int l, .int c])) hp) : mfH m__law_place hp [.d (.str x), .d (.bl w)] R Xp tg := by
  have k1 : List.lookup (Str.ofString "line") [(Str.ofString "column", D.int c), (Str.ofString "line", D.int l)] = some (.int l) := rfl
  have k2 : List.lookup (Str.ofString "column") [(Str.ofString "column", D.int c), (Str.ofString "line", D.int l)] = some (.int c) := rfl
  refine mfH_of ?_
  unfold m__law_place
  simp [-x_seq]
  rw [x_seq]
  simp [-x_seq]
  cases w with
  | true =>
    simp [-x_seq]
    refine sp_parse_n hc ?_
    simp [unX]
    intro a cv d
    simp [k1, k2]
    exact hR
  | false =>
    obtain ⟨H, B, T, o, k, h1, h2, h3, h4, el, ec⟩ := hc.ex
    simp [-x_seq]
    refine sp_tokens_f h1 h2 h3 h4 hc.hz hc.ok ?_
    rw [← el, ← ec]
    simp [unX]
    intro a cv d
    simp [k1, k2]
    exact hR
theorem sp_place_y {x : Str} {out : List D} {tg : Tg (m__law_place, R, Xp)} (hx : LX (1, 1) (cs x) out) (hz : x.length ≤ 1000000) (ok : PyData.strOk x = true) (hR : R (.d (.str (Str.ofString "read"))) hp) : mfH m__law_place hp [.d (.str x), .d (.bl false)] R Xp tg := by
  refine mfH_of ?_
  unfold m__law_place
  simp [-x_seq]
  rw [x_seq]
  simp [-x_seq]
  refine sp_tokens hx hz ok ?_
  simp
  exact hR
end
structure Ca (d : D) : Prop where
  ex : ∃ (x : Str) (l c : Int), d = .tup [.str x, .int l, .int c] ∧ Cs x l c
theorem pure_law (ns : List Int) (hl : ns.length ≤ 63) (hb : ∀ z ∈ ns, Builtin.Int.intBits z ≤ 1048576) : m_law [] [.d (.fl (ns.map D.int))] (fun s _ => s = .d (.bl true)) (fun _ _ => False) := by
  unfold m_law
  simp [-x_seq]
  rw [x_seq]
  simp [-x_seq]
  refine s_store hl fun o ho => ?_
  simp [-x_seq]
  rw [x_seq]
  simp [-x_seq]
  refine sp_case (hp := [o]) (n := 0) rfl ho fun x1 a1 b1 o1 hs1 hc1 => ?_
  simp [-x_seq]
  refine sp_case (hp := [o1]) (n := 0) rfl hs1 fun x2 a2 b2 o2 hs2 hc2 => ?_
  simp [-x_seq]
  rw [x_seq]
  simp [-x_seq]
  refine compH_rngI (m := 5) (fun k acc hp' => ∃ (o' : O) (ts : List Tk), St o' ∧ ts.length = k ∧ (∀ t ∈ ts, TkOk t) ∧ acc = txs ts ∧ hp' = [o']) (by decide) ⟨o2, [], hs2, rfl, by simp, rfl, rfl⟩ ?_ ?_
  · rintro k acc _ N hk ⟨o2, ts, hs2, tl, hts, rfl, rfl⟩ hN
    simp
    refine sp_token (hp := [o2]) (n := 0) rfl hs2 fun t o3 hs3 ht => ?_
    have e2 : atI [D.str t.sort, t.con, D.str (mkS t.txt)] 2 = some (D.str (mkS t.txt)) := rfl
    simp [Tk.d, e2]
    refine hN _ _ ⟨o3, ts ++ [t], hs3, by simp [tl], fun x hx => ?_, by simp [txs], rfl⟩
    rcases List.mem_append.mp hx with q | q
    · exact hts x q
    · simp at q; rw [q]; exact ht
  rintro acc _ ⟨o3, ts, hs3, tl, hts, rfl, rfl⟩
  simp [-x_seq]
  refine sp_laid hts (by omega) (hp := [o3]) (n := 0) rfl hs3 fun x3 sp3 out3 o4 hs4 hx3 xl3 xk3 => ?_
  have e0 : atI [D.str x3, sp3] 0 = some (D.str x3) := rfl
  simp [e0, -x_seq]
  obtain ⟨cl, ecl⟩ : ∃ cl, cl = [D.tup [D.str x1, D.int a1, D.int b1], D.tup [D.str x2, D.int a2, D.int b2]] := ⟨_, rfl⟩
  have hcl : ∀ d ∈ cl, Ca d := fun d hd => by
    rw [ecl] at hd
    simp at hd
    rcases hd with rfl | rfl
    · exact ⟨_, _, _, rfl, hc1⟩
    · exact ⟨_, _, _, rfl, hc2⟩
  rw [x_seq]
  simp [-x_seq]
  rw [← ecl]
  have csub : (Mp.cutD cl none (some 1)).Sublist cl := cut_sub
  have cll : cl.length = 2 := by rw [ecl]; rfl
  refine ⟨by have := csub.length_le; omega, ?_⟩
  obtain ⟨ds, eds⟩ : ∃ ds, ds = cl ++ Mp.cutD cl none (some 1) := ⟨_, rfl⟩
  have hds : ∀ d ∈ ds, Ca d := fun d hd => by
    rw [eds] at hd
    rcases List.mem_append.mp hd with q | q
    · exact hcl d q
    · exact hcl d (csub.subset q)
  have eds2 : (D.tup [D.str x1, D.int a1, D.int b1] :: D.tup [D.str x2, D.int a2, D.int b2] :: Mp.cutD cl none (some 1)) = ds := by rw [eds, ecl]; rfl
  rw [eds2]
  refine forH_of (fun r hp' env' => ∃ (a : List D) (e5 e6 e7 e8 e9 : Option S), ds = a ++ r ∧ env' = [some (S.d (D.fl (List.map D.int ns))), some (S.mu 0), some (S.d (D.lst cl)), some (S.d (D.lst [D.str x3, D.str (Str.ofString "")])), none, e5, e6, e7, e8, e9]) ⟨[], none, none, none, none, none, rfl, rfl⟩ ?_ ?_
  · rintro d r hq _ N ⟨a, e5, e6, e7, e8, e9, er, rfl⟩ hN
    obtain ⟨x, l, c, rfl, hc⟩ := (hds d (by rw [er]; simp)).ex
    simp [-x_seq]
    refine seq_cut (fun hp' env' => ∃ e8, env' = [some (S.d (D.fl (List.map D.int ns))), some (S.mu 0), some (S.d (D.lst cl)), some (S.d (D.lst [D.str x3, D.str (Str.ofString "")])), none, some (.d (.str x)), some (.d (.int l)), some (.d (.int c)), e8, e9]) (fun N2 hN2 => ?_) ?_
    · simp [-x_seq]
      refine forH_of (fun r2 hp' env' => ∃ e8, (∀ d ∈ r2, ∃ b, d = D.bl b) ∧ env' = [some (S.d (D.fl (List.map D.int ns))), some (S.mu 0), some (S.d (D.lst cl)), some (S.d (D.lst [D.str x3, D.str (Str.ofString "")])), none, some (.d (.str x)), some (.d (.int l)), some (.d (.int c)), e8, e9]) ⟨e8, fun d hd => by simp at hd; rcases hd with rfl | rfl | rfl <;> exact ⟨_, rfl⟩, rfl⟩ ?_ ?_
      · rintro d r2 hq2 _ N3 ⟨e8, hb2, rfl⟩ hN3
        obtain ⟨b, rfl⟩ := hb2 d (by simp)
        simp
        refine sp_place hc ?_
        simp
        have pl : plN 8 (.tup [.int l, .int c]) = true := rfl
        refine sp_equal 8 _ _ pl pl rfl rfl ?_
        rw [eqS_refl pl]
        simp
        exact hN3 _ _ trivial ⟨_, fun d hd => hb2 d (by simp [hd]), rfl⟩
      · rintro hq2 _ ⟨e8, hb2, rfl⟩
        exact hN2 _ _ ⟨e8, rfl⟩
    · rintro hq2 _ ⟨e8, rfl⟩
      simp [-x_seq]
      refine forH_of (fun r2 hp' env' => ∃ e9, (∀ d ∈ r2, ∃ (y : Str) (out : List D), d = D.str y ∧ LX (1, 1) (cs y) out ∧ y.length ≤ 1000000 ∧ PyData.strOk y = true) ∧ env' = [some (S.d (D.fl (List.map D.int ns))), some (S.mu 0), some (S.d (D.lst cl)), some (S.d (D.lst [D.str x3, D.str (Str.ofString "")])), none, some (.d (.str x)), some (.d (.int l)), some (.d (.int c)), e8, e9]) ⟨e9, fun d hd => by
        simp at hd
        rcases hd with rfl | rfl
        · exact ⟨_, _, rfl, hx3, by omega, xk3⟩
        · exact ⟨_, _, rfl, LX.nil, by decide, ofS_ok⟩, rfl⟩ ?_ ?_
      · rintro d r2 hq2 _ N3 ⟨e9, hb2, rfl⟩ hN3
        obtain ⟨y, out, rfl, w1, w2, w3⟩ := hb2 d (by simp)
        simp
        refine sp_place_y w1 w2 w3 ?_
        simp
        exact hN3 _ _ trivial ⟨_, fun d hd => hb2 d (by simp [hd]), rfl⟩
      · rintro hq2 _ ⟨e9, hb2, rfl⟩
        exact hN _ _ trivial ⟨a ++ [.tup [.str x, .int l, .int c]], _, _, _, _, _, by simp [er], rfl⟩
  · rintro hq _ ⟨a, e5, e6, e7, e8, e9, er, rfl⟩
    simp
end Qk35
set_option Elab.async false
set_option linter.all false
set_option maxRecDepth 100000
set_option maxHeartbeats 0
namespace Qk35
open PySem PySem.Spec PyProof.Rows L2 Mp Pl
def loose : List Str := (["TagoctetsError", "Refused", "Unfit", "Unread", "Unresolved", "DIGITS", "LETTERS", "HEX", "MARKS", "FIGURE_MOST", "run_end", "is_figure", "read_figure", "read_string", "read_quoted", "read_token", "line_tokens", "tokens", "RESERVED", "is_name", "is_big", "Cursor", "PLAIN_WORDS", "parse_schema", "parsed_module", "parsed_bigs", "parsed_definition", "parsed_shape", "parsed_prefix", "parsed_core"] : List Str) ++ (["parsed_names", "parsed_entries", "parsed_record", "parsed_parts", "parsed_literal", "parsed_choice", "parsed_others", "parsed_reference", "parsed_limits", "parsed_limit", "parsed_range", "parsed_bound", "_law_mix", "_law_store", "_law_take", "_law_pick", "_law_span", "_law_count", "_law_equal", "_law_chars", "_law_reserved", "_law_name", "_law_power", "_law_clamp", "_law_lowest", "_law_highest", "_law_figure", "_law_octet", "_law_octet_row", "_law_big"] : List Str) ++ (["_law_string", "_law_hex", "_law_long_figure", "_law_token", "_law_spot", "_law_gap", "_law_laid", "_law_bad_token", "_law_spoilt_text", "_law_case", "_law_place"] : List Str)
abbrev R : PySem.W.OpenRow := PySem.W.OpenLaw.row PySem.Challenge.rw_tagoctets_k35_unread_places
def as_ : List Addr := [3, 43, 64, 85, 106, 119, 126, 133, 140, 145, 152, 159, 166, 174, 181, 195, 202, 209, 216, 223, 230, 237, 244, 251, 258, 265, 280, 287, 294, 301, 308, 315, 322, 329, 336, 343, 350, 357, 364, 371, 378, 385, 392, 399, 406, 413, 420, 427, 434, 441, 448, 455, 462, 469, 476, 483, 490, 497, 504, 511, 518, 523, 530, 537, 542, 549, 556, 563, 570, 577, 584, 591, 596, 603, 608, 9, 13, 20, 34, 42, 55, 63, 76, 84, 97, 105, 118, 125, 132, 139, 144, 151, 158, 165, 173, 180, 187, 194, 201, 208, 215, 222, 229, 236, 243, 250, 257, 264, 279, 286, 293, 300, 307, 314, 321, 328, 335, 342, 349, 356, 363, 370, 377, 384, 391, 398, 405, 412, 419, 426, 433, 440, 447, 454, 461, 468, 475, 482, 489, 496, 503, 510, 517, 522, 529, 536, 541, 548, 555, 562, 569, 576, 583, 590, 595, 602, 607, 0, 1, 6, 17, 23, 30, 45, 51, 66, 72, 87, 93, 108, 184, 267, 24, 46, 67, 88, 109, 268, 10, 14, 16, 21, 25, 26, 27, 29, 35, 47, 48, 50, 56, 68, 69, 71, 77, 89, 90, 92, 98, 110, 111, 183, 188, 269, 270, 271, 272, 31, 52, 73, 94, 4, 5, 7, 11, 15, 18, 22, 28, 32, 36, 37, 39, 40, 44, 49, 53, 57, 58, 60, 61, 65, 70, 74, 78, 79, 81, 82, 86, 91, 95, 99, 100, 102, 103, 107, 112, 113, 115, 116, 120, 122, 123, 127, 129, 130, 134, 136, 137, 141, 146, 148, 149, 153, 155, 156, 160, 162, 163, 167, 168, 170, 171, 175, 177, 178, 182, 185, 189, 191, 192, 196, 198, 199, 203, 205, 206, 210, 212, 213, 217, 219, 220, 224, 226, 227, 231, 233, 234, 238, 240, 241, 245, 247, 248, 252, 254, 255, 259, 261, 262, 266, 273, 274, 276, 277, 281, 283, 284, 288, 290, 291, 295, 297, 298, 302, 304, 305, 309, 311, 312, 316, 318, 319, 323, 325, 326, 330, 332, 333, 337, 339, 340, 344, 346, 347, 351, 353, 354, 358, 360, 361, 365, 367, 368, 372, 374, 375, 379, 381, 382, 386, 388, 389, 393, 395, 396, 400, 402, 403, 407, 409, 410, 414, 416, 417, 421, 423, 424, 428, 430, 431, 435, 437, 438, 442, 444, 445, 449, 451, 452, 456, 458, 459, 463, 465, 466, 470, 472, 473, 477, 479, 480, 484, 486, 487, 491, 493, 494, 498, 500, 501, 505, 507, 508, 512, 514, 515, 519, 524, 526, 527, 531, 533, 534, 538, 543, 545, 546, 550, 552, 553, 557, 559, 560, 564, 566, 567, 571, 573, 574, 578, 580, 581, 585, 587, 588, 592, 597, 599, 600, 604, 2, 8, 12, 19, 33, 38, 41, 54, 59, 62, 75, 80, 83, 96, 101, 104, 114, 117, 121, 124, 128, 131, 135, 138, 142, 143, 147, 150, 154, 157, 161, 164, 169, 172, 176, 179, 186, 190, 193, 197, 200, 204, 207, 211, 214, 218, 221, 225, 228, 232, 235, 239, 242, 246, 249, 253, 256, 260, 263, 275, 278, 282, 285, 289, 292, 296, 299, 303, 306, 310, 313, 317, 320, 324, 327, 331, 334, 338, 341, 345, 348, 352, 355, 359, 362, 366, 369, 373, 376, 380, 383, 387, 390, 394, 397, 401, 404, 408, 411, 415, 418, 422, 425, 429, 432, 436, 439, 443, 446, 450, 453, 457, 460, 464, 467, 471, 474, 478, 481, 485, 488, 492, 495, 499, 502, 506, 509, 513, 516, 520, 521, 525, 528, 532, 535, 539, 540, 544, 547, 551, 554, 558, 561, 565, 568, 572, 575, 579, 582, 586, 589, 593, 594, 598, 601, 605, 606]
abbrev hk : PySem.W.Hook := hookZL P as_ fa fn xs bs prs tabs
def ob (s : PySem.W.SharedT) : AlZ := obsZL P as_ fa fn xs bs prs tabs (HandSHeadRun.getT s)
theorem ob_eq (s : PySem.W.SharedT) : ob s = hk.obs s.abs := obsZL_eq (HandSHeadRun.getT_eq s)
theorem run0 (w : World) (os : OsState) : (HandSHeadRun.endF (HandSHeadRun.stepQ (HandSHeadRun.denQ HandSHeadRun.tabQ) R.prog w) 20000 R.prog w os).map (fun s => (HandSHeadRun.looksF R.prog (PySem.W.boot_heap w.params) s.abs, HandSHeadRun.seenQ (PySem.W.view R.prog [76]) loose (importedModules R.prog.main.body) (fun s => PySem.W.xlAt (PySem.W.view R.prog [76]) [] s && PySem.W.recOk R.toRowW.records s) s.abs)) = some (true, PySem.W.openGood (PySem.W.view R.prog [76]) loose) := by
  kernel_rfl
theorem run1 (w : World) (os : OsState) : (HandSHeadRun.endF (HandSHeadRun.stepQ (HandSHeadRun.denQ HandSHeadRun.tabQ) R.prog w) 20000 R.prog w os).map (fun s => fa.all fun f => f.ok (He.frG (HandSHeadRun.getT s) (cStatics :: as_))) = some true := by
  kernel_rfl
theorem run2 (w : World) (os : OsState) : (HandSHeadRun.endF (HandSHeadRun.stepQ (HandSHeadRun.denQ HandSHeadRun.tabQ) R.prog w) 20000 R.prog w os).map (fun s => fn.all fun d => d.ok (He.frG (HandSHeadRun.getT s) (cStatics :: as_))) = some true := by
  kernel_rfl
theorem run3 (w : World) (os : OsState) : (HandSHeadRun.endF (HandSHeadRun.stepQ (HandSHeadRun.denQ HandSHeadRun.tabQ) R.prog w) 20000 R.prog w os).map (fun s => fn.map fun d => He.fnW (He.frG (HandSHeadRun.getT s) (cStatics :: as_)) d.at_) = some (fn.map He.DefD.val) := by
  kernel_rfl
theorem run4 (w : World) (os : OsState) : (HandSHeadRun.endF (HandSHeadRun.stepQ (HandSHeadRun.denQ HandSHeadRun.tabQ) R.prog w) 20000 R.prog w os).map (fun s => (((xs.all fun d => (d.tests P (He.frG (HandSHeadRun.getT s) (cStatics :: as_))).all id) && bs.all fun b => b (He.frG (HandSHeadRun.getT s) (cStatics :: as_))), (xs.map fun d => xObs (He.frG (HandSHeadRun.getT s) (cStatics :: as_)) d.x), (prs.all fun d => d.ok (He.frG (HandSHeadRun.getT s) (cStatics :: as_))), (prs.map fun d => d.obs (He.frG (HandSHeadRun.getT s) (cStatics :: as_))))) = some (true, xs.map XcD.val, true, prs.map PrD.val) := by
  kernel_rfl
theorem run5 (w : World) (os : OsState) : (HandSHeadRun.endF (HandSHeadRun.stepQ (HandSHeadRun.denQ HandSHeadRun.tabQ) R.prog w) 20000 R.prog w os).map (fun s => tabs.map fun t => He.dicW (He.frG (HandSHeadRun.getT s) (cStatics :: as_)) (gtA t.1 (He.frG (HandSHeadRun.getT s) (cStatics :: as_)))) = some (tabs.map fun t => some (He.keysIn w.params t.2)) := by
  kernel_rfl
theorem run (w : World) : HandSHeadRun.RunEq R (PySem.W.view R.prog [76]) hk ob 20000 loose w := runZ_of (run0 w) (run1 w) (run2 w) (run3 w) (run4 w) (run5 w)
theorem at_law {w : World} {K : PySem.W.Frag} {h : Heap} {mg : Str → Option Value} {f : Addr} (X : K.In h) (G : h.Ns mainGlobals mg) (hfa : mg ("law" : Str) = some (.ref f)) (c : SaysZ P fa fn xs bs prs tabs w K) :
    EndAtS PySem.Challenge.rw_tagoctets_k35_unread_places w K (L2.CX (PySem.Challenge.rw_tagoctets_k35_unread_places).prog w) 11 63 "_law_script" mg f h := by
  obtain ⟨Z, _⟩ := zs (w := w) X G c
  have e : f = Z.f_law := by
    have q := hfa.symm.trans Z.g_law
    injection q with q
    injection q
  subst e
  have b := FunD.bindsA (ps := ["_law_script"]) Z.F_law fun _ _ _ _ _ _ us hl => match us, hl with | [_], _ => rfl
  refine ⟨Z.fd_law, [], spM K 1 false m_law, fun _ h => (List.not_mem_nil h).elim, fun _ h => (List.not_mem_nil h).elim, fun _ h => (List.not_mem_nil h).elim, fun s v => b s [v] rfl, fun H a ns hl hb _ hS => ?_, fun base _ _ _ => ok_law Z⟩
  exact script_start hS (pure_law ns hl hb)
end Qk35
open PySem PySem.W PySem.Calls PyProof.Rows
theorem PySem.Challenge.cw_tagoctets_k35_unread_places_holds : PySem.Challenge.rw_tagoctets_k35_unread_places.Holds := by
  w_on; o_law
  refine HandSHeadRun.head_any (r := OpenLaw.row PySem.Challenge.rw_tagoctets_k35_unread_places) (q := view (OpenLaw.row PySem.Challenge.rw_tagoctets_k35_unread_places).prog [76]) (H := Qk35.hk) (ob := Qk35.ob) (M := 20000) (loose := Qk35.loose) (d := HandSHeadRun.topDef (OpenLaw.row PySem.Challenge.rw_tagoctets_k35_unread_places).prog 76) (kwd := []) Qk35.ob_eq
    (by kernel_rfl) (fun s => by kernel_rfl) Qk35.run (by kernel_rfl) (by kernel_rfl) (by kernel_rfl) (by rfl) (by first | assumption | decide +kernel) (by decide +kernel) ⟨rfl, rfl, rfl, rfl, rfl, by decide +kernel⟩ ?hw ?hc
  case hw => w_witness2
  case hc =>
    refine LamX.walk_ofTsE (l := PySem.Challenge.rw_tagoctets_k35_unread_places) (n := 63) (k := 11) (x := "_law_script") (CX := fun w => L2.CX (PySem.Challenge.rw_tagoctets_k35_unread_places).prog w) rfl (by decide) (by kernel_rfl) ⟨rfl, by decide, by decide⟩ ?F (fun w H s e s' z => Mp.cx_end z)
    intro w mg f h Y G hmg0
    obtain ⟨K, KX, c⟩ := Y
    have hmg : mg ("law" : PySem.Str) = some (.ref f) := by
      have e : (HandSHeadRun.topDef (OpenLaw.row PySem.Challenge.rw_tagoctets_k35_unread_places).prog 76).name = ("law" : PySem.Str) := by kernel_rfl
      rw [← e]
      exact hmg0
    exact ⟨K, KX, Qk35.at_law KX G hmg c⟩
