import PyProof.Rows.All
import HandS.ForMost
import HandS.ForExc
import HandS.Lambda
import HandS.ExcInit
import HandS.Defaults
import HandS.IsInst
import HandS.Deep
import HandS.More
import HandS.TupAny
import HandS.TupLe
import HandS.CallLocal
import HandS.TryMany
import HandS.Flow
import HandS.StrMore
import HandS.SetFor
import HandS.NoneIn
import HandS.Comp
import HandS.Zip
import HandS.Walk
import KE.GoesEnum
import HandS.WordsDict
import HandS.Text
import HandS.RaiseMore
import KE.KTupSum
import HandS.Iter
import KE.SortData
import KE.DataMinMax
import HandS.ExcField
import HandS.Words
import PyProof.ReprRoads
import HandS.HeadWalk
import HandS.HeadHook4
import HandS.Style
import HandS.Head2
import HandS.NestedK
import PySem.Challenge.RW_leastroutes_k18_whole_no_refusal
set_option Elab.async false
set_option linter.all false
set_option maxRecDepth 100000
set_option maxHeartbeats 4000000
namespace MP
open PySem PySem.Spec L2
/-- the tables of code objects that lambdas are laid in -/
class Tb where
  T : List (Addr × Str)

/-! ### values as trees; things that change are handles -/
inductive Con where
  | tup | lst | scr | ctup | dK (ks : List Key) | dT (ks : List (List Key)) | ins (C : Str) (fs : List Str)
  deriving DecidableEq
inductive D where
  | non | bl (b : Bool) | int (i : Int) | str (x : Str) | fn (f : Str) | ptr (k : Nat)
  | con (c : Con) (l : List D)
instance : Inhabited D := ⟨.non⟩
abbrev D.tup (l : List D) : D := .con .tup l
abbrev D.lst (l : List D) : D := .con .lst l

/-- an object that may change: let go (known to be frozen), or alive (locked while a loop walks it) -/
inductive Ob where
  | dead
  | lv (lk : Bool) (c : Con) (l : List D)
abbrev Mu := List Ob
abbrev Rho := List (Option D)

inductive R (β : Type) where
  | ok (x : β) (μ : Mu)
  | exc (c : Str) (x : D) (μ : Mu)
  | stuck
def R.bind {β γ : Type} (r : R β) (f : β → Mu → R γ) : R γ := match r with
  | .ok x μ => f x μ
  | .exc c x μ => .exc c x μ
  | .stuck => .stuck
theorem R.bind_ok {β γ : Type} (x : β) (μ : Mu) (f : β → Mu → R γ) : (R.ok x μ).bind f = f x μ := rfl
theorem R.bind_exc {β γ : Type} (c : Str) (x : D) (μ : Mu) (f : β → Mu → R γ) : (R.exc c x μ : R β).bind f = .exc c x μ := rfl
theorem R.bind_stuck {β γ : Type} (f : β → Mu → R γ) : (R.stuck : R β).bind f = .stuck := rfl
def lift {β : Type} (o : Option β) (μ : Mu) : R β := match o with
  | some x => .ok x μ
  | none => .stuck

/-! ### the world -/
structure Ws where
  F : Hp
  α : List Addr
  H : Hp

def HOof (mg : Str → Option Value) (c : Con) (vs : List V) (u : HO) : Prop := match c with
  | .tup => u = .tup vs
  | .lst => u = .lst vs
  | .scr => False
  | .ctup => False
  | .dK ks => ks.length = vs.length ∧ u = .dK (ks.zip vs)
  | .dT ks => ks.length = vs.length ∧ u = .dT (ks.zip vs)
  | .ins C fs => fs.length = vs.length ∧ ∃ Ca dx, mg C = some (.ref Ca) ∧ u = .ins Ca dx (fs.zip vs)
/-- what may be read at a -/
def HoldR (K : PySem.W.Frag) (mg : Str → Option Value) (c : Con) (H : Hp) (a : Addr) (vs : List V) : Prop := match c with
  | .tup => H a = some (.tup vs)
  | .lst => H a = some (.lst vs)
  | .ctup => SqT K H a vs
  | .scr => SqL K H a vs
  | .dK ks => ks.length = vs.length ∧ Rd H a (.dK (ks.zip vs))
  | .dT ks => ks.length = vs.length ∧ Rd H a (.dT (ks.zip vs))
  | .ins C fs => fs.length = vs.length ∧ ∃ Ca dx, mg C = some (.ref Ca) ∧ H a = some (.ins Ca dx (fs.zip vs))

section
variable (K : PySem.W.Frag) (mg : Str → Option Value)
mutual
def Rep (F : Hp) (α : List Addr) : D → V → Prop
  | .non, v => v = .non
  | .bl b, v => v = .bl b
  | .int i, v => v = .int i
  | .str x, v => v = .str x
  | .fn f, v => ∃ a, v = .ref a ∧ mg f = some (.ref a)
  | .ptr k, v => ∃ a, v = .ref a ∧ α[k]? = some a
  | .con c l, v => ∃ a vs, v = .ref a ∧ HoldR K mg c F a vs ∧ RepL F α l vs
def RepL (F : Hp) (α : List Addr) : List D → List V → Prop
  | [], vs => vs = []
  | d :: ds, vs => ∃ v r, vs = v :: r ∧ Rep F α d v ∧ RepL F α ds r
end
def RepO (F : Hp) (α : List Addr) : Option D → Option V → Prop
  | none, _ => True
  | some d, some v => Rep K mg F α d v
  | some _, none => False
def RepS (F : Hp) (α : List Addr) : Rho → St → Prop
  | [], σ => σ = []
  | o :: ρ, σ => ∃ x r, σ = x :: r ∧ RepO K mg F α o x ∧ RepS F α ρ r
/-- the frozen part stands (a dict may be locked) -/
def isDct : HO → Bool
  | .dK _ => true
  | .dT _ => true
  | _ => false
def isTb : HO → Bool
  | .tbl _ => true
  | _ => false
def Sub (F H : Hp) : Prop := ∀ a u, F a = some u → isTb u = false ∧ (H a = some u ∨ (isDct u = true ∧ ∃ o, H a = some (.frz o u)))
def Held (lk : Bool) (H : Hp) (a : Addr) (u : HO) : Prop := if lk = true then isDct u = true ∧ ∃ o, H a = some (.frz o u) else H a = some u
def ObAt (w : Ws) (a : Addr) : Ob → Prop
  | .dead => w.F a ≠ none
  | .lv lk c l => w.F a = none ∧ c ≠ .tup ∧ ∃ vs u, HOof mg c vs u ∧ Held lk w.H a u ∧ RepL K mg w.F w.α l vs
variable [Tb]
structure StOk (w : Ws) (μ : Mu) : Prop where
  sub : Sub w.F w.H
  len : w.α.length = μ.length
  nd : w.α.Nodup
  own : ∀ (k : Nat) (a : Addr) (ob : Ob), w.α[k]? = some a → μ[k]? = some ob → ObAt K mg w a ob
  tb : LamX.Tabs Tb.T w.H
/-- the tables of code objects stay -/
def TbS (H H' : Hp) : Prop := ∀ T, LamX.Tabs T H → LamX.Tabs T H'
def Ext (F F' : Hp) : Prop := ∀ a u, F a = some u → F' a = some u
/-- what we don't know of stays; locks stay -/
structure Fr (w w' : Ws) : Prop where
  fr : ∀ a, w.F a = none → a ∉ w.α → w.H a ≠ none → (∀ ps, w.H a ≠ some (.tbl ps)) → w'.F a = none ∧ a ∉ w'.α ∧ w'.H a = w.H a
  fz : ∀ a o u, w.H a = some (.frz o u) → w'.H a = some (.frz o u)
structure Nx (w w' : Ws) (μ' : Mu) : Prop where
  ext : Ext w.F w'.F
  pre : w.α <+: w'.α
  st : StOk K mg w' μ'
  fr : Fr w w'
end

section
variable [Tb]
variable {K : PySem.W.Frag} {mg : Str → Option Value} {F F' H H' : Hp} {α α' : List Addr} {w w' w'' : Ws} {μ μ' μ'' : Mu}
theorem Ext.refl : Ext F F := fun _ _ h => h
theorem Ext.trans {F'' : Hp} (a : Ext F F') (b : Ext F' F'') : Ext F F'' := fun x u h => b x u (a x u h)
theorem TbS.refl : TbS H H := fun _ h => h
theorem TbS.trans {H'' : Hp} (a : TbS H H') (b : TbS H' H'') : TbS H H'' := fun T h => b T (a T h)
theorem Fr.refl : Fr w w := ⟨fun _ h1 h2 _ _ => ⟨h1, h2, rfl⟩, fun _ _ _ h => h⟩
theorem Fr.trans (x : Fr w w') (y : Fr w' w'') : Fr w w'' := ⟨fun a h1 h2 h3 h4 => by
    obtain ⟨k1, k2, k3⟩ := x.fr a h1 h2 h3 h4
    obtain ⟨j1, j2, j3⟩ := y.fr a k1 k2 (by rw [k3]; exact h3) (by rw [k3]; exact h4)
    exact ⟨j1, j2, j3.trans k3⟩, fun a o u h => y.fz a o u (x.fz a o u h)⟩
/-- one address p is written, where nothing stood or which is a handle's -/
theorem Fr.at (p : Addr) (hF : ∀ a, a ≠ p → w'.F a = w.F a) (hα : ∀ a, a ≠ p → a ∈ w'.α → a ∈ w.α) (hH : ∀ a, a ≠ p → w'.H a = w.H a) (hp : w.H p = none ∨ p ∈ w.α) (hz : ∀ o u, w.H p ≠ some (.frz o u)) : Fr w w' := by
  refine ⟨fun a h1 h2 h3 _ => ?_, fun a o u h => ?_⟩
  · have hap : a ≠ p := fun z => by
      subst z
      rcases hp with q | q
      · exact h3 q
      · exact h2 q
    exact ⟨by rw [hF a hap]; exact h1, fun z => h2 (hα a hap z), hH a hap⟩
  · have hap : a ≠ p := fun z => by
      subst z
      exact hz o u h
    rw [hH a hap]
    exact h
theorem Nx.refl (s : StOk K mg w μ) : Nx K mg w w μ := ⟨Ext.refl, List.prefix_rfl, s, .refl⟩
theorem Nx.trans (a : Nx K mg w w' μ') (b : Nx K mg w' w'' μ'') : Nx K mg w w'' μ'' := ⟨a.ext.trans b.ext, a.pre.trans b.pre, b.st, a.fr.trans b.fr⟩

theorem ext_rd (e : Ext F F') {a : Addr} {u : HO} (h : Rd F a u) : Rd F' a u := by
  rcases h with h | ⟨o, h⟩
  · exact .inl (e _ _ h)
  · exact .inr ⟨o, e _ _ h⟩
theorem HoldR.mono {c : Con} {a : Addr} {vs : List V} (e : Ext F F') (h : HoldR K mg c F a vs) : HoldR K mg c F' a vs := by
  cases c with
  | tup => exact e _ _ h
  | ctup =>
    rcases h with h | h
    · exact .inl (ext_rd e h)
    · exact .inr h
  | lst => exact e _ _ h
  | scr =>
    rcases h with h | h
    · exact .inl (ext_rd e h)
    · exact .inr h
  | dK ks => exact ⟨h.1, ext_rd e h.2⟩
  | dT ks => exact ⟨h.1, ext_rd e h.2⟩
  | ins C fs =>
    obtain ⟨h1, Ca, dx, h2, h3⟩ := h
    exact ⟨h1, Ca, dx, h2, e _ _ h3⟩
theorem get_pre (p : α <+: α') {k : Nat} {a : Addr} (h : α[k]? = some a) : α'[k]? = some a := by
  obtain ⟨t, rfl⟩ := p
  rw [List.getElem?_append_left]
  · exact h
  · exact (List.getElem?_eq_some_iff.mp h).1
mutual
theorem Rep.mono (e : Ext F F') (p : α <+: α') : ∀ (d : D) (v : V), Rep K mg F α d v → Rep K mg F' α' d v
  | .non, _, h => by simpa only [Rep] using h
  | .bl _, _, h => by simpa only [Rep] using h
  | .int _, _, h => by simpa only [Rep] using h
  | .str _, _, h => by simpa only [Rep] using h
  | .fn _, _, h => by simpa only [Rep] using h
  | .ptr _, _, h => by
    simp only [Rep] at h ⊢
    obtain ⟨a, h1, h2⟩ := h
    exact ⟨a, h1, get_pre p h2⟩
  | .con c l, _, h => by
    simp only [Rep] at h ⊢
    obtain ⟨a, vs, h1, h2, h3⟩ := h
    exact ⟨a, vs, h1, h2.mono e, RepL.mono e p l vs h3⟩
theorem RepL.mono (e : Ext F F') (p : α <+: α') : ∀ (l : List D) (vs : List V), RepL K mg F α l vs → RepL K mg F' α' l vs
  | [], _, h => by simpa only [RepL] using h
  | d :: ds, _, h => by
    simp only [RepL] at h ⊢
    obtain ⟨v, r, h1, h2, h3⟩ := h
    exact ⟨v, r, h1, Rep.mono e p d v h2, RepL.mono e p ds r h3⟩
end
theorem RepO.mono (e : Ext F F') (p : α <+: α') {o : Option D} {x : Option V} (h : RepO K mg F α o x) : RepO K mg F' α' o x := by
  cases o with
  | none => exact trivial
  | some d =>
    cases x with
    | none => exact h
    | some v => exact Rep.mono e p d v h
theorem RepS.mono (e : Ext F F') (p : α <+: α') : ∀ {ρ : Rho} {σ : St}, RepS K mg F α ρ σ → RepS K mg F' α' ρ σ
  | [], _, h => h
  | _ :: _, _, ⟨x, r, h1, h2, h3⟩ => ⟨x, r, h1, h2.mono e p, RepS.mono e p h3⟩
theorem RepS.get {ρ : Rho} {σ : St} (h : RepS K mg F α ρ σ) {i : Nat} {d : D} (e : ρ[i]? = some (some d)) : ∃ v, σ[i]? = some (some v) ∧ Rep K mg F α d v := by
  induction ρ generalizing σ i with
  | nil => simp at e
  | cons o ρ ih =>
    obtain ⟨x, r, rfl, h2, h3⟩ := h
    cases i with
    | zero =>
      simp at e
      subst e
      cases x with
      | none => exact h2.elim
      | some v => exact ⟨v, rfl, h2⟩
    | succ i =>
      obtain ⟨v, h4, h5⟩ := ih h3 (by simpa using e)
      exact ⟨v, by simpa using h4, h5⟩
theorem RepS.set {ρ : Rho} {σ : St} (h : RepS K mg F α ρ σ) (i : Nat) {o : Option D} {x : Option V} (r : RepO K mg F α o x) : RepS K mg F α (ρ.set i o) (σ.set i x) := by
  induction ρ generalizing σ i with
  | nil =>
    have h' : σ = [] := h
    subst h'
    exact rfl
  | cons o' ρ ih =>
    obtain ⟨x', r', rfl, h2, h3⟩ := h
    cases i with
    | zero => exact ⟨x, r', rfl, r, h3⟩
    | succ i => exact ⟨x', _, rfl, h2, ih h3 i⟩
theorem RepL.length : ∀ {l : List D} {vs : List V}, RepL K mg F α l vs → l.length = vs.length
  | [], _, h => by
    simp only [RepL] at h
    subst h
    rfl
  | _ :: ds, _, h => by
    simp only [RepL] at h
    obtain ⟨v, r, rfl, _, h3⟩ := h
    simp [RepL.length h3]
theorem RepL.get {l : List D} {vs : List V} (h : RepL K mg F α l vs) {i : Nat} {d : D} (e : l[i]? = some d) : ∃ v, vs[i]? = some v ∧ Rep K mg F α d v := by
  induction l generalizing vs i with
  | nil => simp at e
  | cons o l ih =>
    simp only [RepL] at h
    obtain ⟨x, r, rfl, h2, h3⟩ := h
    cases i with
    | zero =>
      simp at e
      subst e
      exact ⟨x, rfl, h2⟩
    | succ i =>
      obtain ⟨v, h4, h5⟩ := ih h3 (by simpa using e)
      exact ⟨v, by simpa using h4, h5⟩
theorem RepL.get' {l : List D} {vs : List V} (h : RepL K mg F α l vs) {i : Nat} {v : V} (e : vs[i]? = some v) : ∃ d, l[i]? = some d ∧ Rep K mg F α d v := by
  have hi := (List.getElem?_eq_some_iff.mp e).1
  rw [← h.length] at hi
  obtain ⟨v', h1, h2⟩ := h.get (List.getElem?_eq_getElem hi)
  rw [e] at h1
  cases h1
  exact ⟨_, List.getElem?_eq_getElem hi, h2⟩
theorem RepL.nil : RepL K mg F α [] [] := by simp only [RepL]
theorem RepL.cons {d : D} {v : V} {l : List D} {vs : List V} (h : Rep K mg F α d v) (t : RepL K mg F α l vs) : RepL K mg F α (d :: l) (v :: vs) := by
  simp only [RepL]
  exact ⟨v, vs, rfl, h, t⟩
theorem RepL.append {l m : List D} {vs us : List V} (h : RepL K mg F α l vs) (t : RepL K mg F α m us) : RepL K mg F α (l ++ m) (vs ++ us) := by
  induction l generalizing vs with
  | nil =>
    simp only [RepL] at h
    subst h
    exact t
  | cons d l ih =>
    simp only [RepL] at h
    obtain ⟨v, r, rfl, h1, h2⟩ := h
    exact .cons h1 (ih h2)
theorem RepL.take {l : List D} {vs : List V} (n : Nat) (h : RepL K mg F α l vs) : RepL K mg F α (l.take n) (vs.take n) := by
  induction l generalizing vs n with
  | nil =>
    simp only [RepL] at h
    subst h
    simpa using RepL.nil
  | cons d l ih =>
    simp only [RepL] at h
    obtain ⟨v, r, rfl, h1, h2⟩ := h
    cases n with
    | zero => exact .nil
    | succ n => exact .cons h1 (ih n h2)
theorem RepL.drop {l : List D} {vs : List V} (n : Nat) (h : RepL K mg F α l vs) : RepL K mg F α (l.drop n) (vs.drop n) := by
  induction l generalizing vs n with
  | nil =>
    simp only [RepL] at h
    subst h
    simpa using RepL.nil
  | cons d l ih =>
    simp only [RepL] at h
    obtain ⟨v, r, rfl, h1, h2⟩ := h
    cases n with
    | zero => exact .cons h1 h2
    | succ n => exact ih n h2
theorem RepL.set {l : List D} {vs : List V} (n : Nat) {d : D} {v : V} (h : RepL K mg F α l vs) (r : Rep K mg F α d v) : RepL K mg F α (l.set n d) (vs.set n v) := by
  induction l generalizing vs n with
  | nil =>
    simp only [RepL] at h
    subst h
    simpa using RepL.nil
  | cons d' l ih =>
    simp only [RepL] at h
    obtain ⟨v', r', rfl, h1, h2⟩ := h
    cases n with
    | zero => exact .cons r h2
    | succ n => exact .cons h1 (ih n h2)
theorem RepL.eraseIdx {l : List D} {vs : List V} (n : Nat) (h : RepL K mg F α l vs) : RepL K mg F α (l.eraseIdx n) (vs.eraseIdx n) := by
  induction l generalizing vs n with
  | nil =>
    simp only [RepL] at h
    subst h
    simpa using RepL.nil
  | cons d' l ih =>
    simp only [RepL] at h
    obtain ⟨v', r', rfl, h1, h2⟩ := h
    cases n with
    | zero => exact h2
    | succ n => exact .cons h1 (ih n h2)
theorem RepL.reverse {l : List D} {vs : List V} (h : RepL K mg F α l vs) : RepL K mg F α l.reverse vs.reverse := by
  induction l generalizing vs with
  | nil =>
    simp only [RepL] at h
    subst h
    exact .nil
  | cons d l ih =>
    simp only [RepL] at h
    obtain ⟨v, r, rfl, h1, h2⟩ := h
    rw [List.reverse_cons, List.reverse_cons]
    exact (ih h2).append (.cons h1 .nil)
theorem RepL.replicate (n : Nat) {d : D} {v : V} (r : Rep K mg F α d v) : RepL K mg F α (List.replicate n d) (List.replicate n v) := by
  induction n with
  | zero => exact .nil
  | succ n ih => exact .cons r ih

/-! ### reading -/
theorem Sub.rd (s : Sub F H) {a : Addr} {u : HO} (h : Rd F a u) : Rd H a u := by
  rcases h with h | ⟨o, h⟩
  · rcases (s _ _ h).2 with q | ⟨_, o, q⟩
    · exact .inl q
    · exact .inr ⟨o, q⟩
  · rcases (s _ _ h).2 with q | ⟨q, _⟩
    · exact .inr ⟨o, q⟩
    · cases q
theorem Sub.hold (s : Sub F H) {c : Con} {a : Addr} {vs : List V} (h : HoldR K mg c F a vs) : HoldR K mg c H a vs := by
  cases c with
  | tup =>
    rcases (s _ _ h).2 with q | ⟨q, _⟩
    · exact q
    · cases q
  | ctup =>
    rcases h with h | h
    · exact .inl (s.rd h)
    · exact .inr h
  | lst =>
    rcases (s _ _ h).2 with q | ⟨q, _⟩
    · exact q
    · cases q
  | scr =>
    rcases h with h | h
    · exact .inl (s.rd h)
    · exact .inr h
  | dK ks => exact ⟨h.1, s.rd h.2⟩
  | dT ks => exact ⟨h.1, s.rd h.2⟩
  | ins C fs =>
    obtain ⟨h1, Ca, dx, h2, h3⟩ := h
    refine ⟨h1, Ca, dx, h2, ?_⟩
    rcases (s _ _ h3).2 with q | ⟨q, _⟩
    · exact q
    · cases q
theorem HOof.hold {c : Con} {a : Addr} {vs : List V} {u : HO} {lk : Bool} (h : HOof mg c vs u) (x : Held lk H a u) : HoldR K mg c H a vs := by
  have rd : Rd H a u := by
    cases lk with
    | false => exact .inl x
    | true => exact .inr x.2
  cases c with
  | tup =>
    have h' : u = .tup vs := h
    subst h'
    cases lk with
    | false => exact x
    | true => cases x.1
  | ctup => exact h.elim
  | lst =>
    have h' : u = .lst vs := h
    subst h'
    cases lk with
    | false => exact x
    | true => cases x.1
  | scr => exact h.elim
  | dK ks =>
    obtain ⟨h1, rfl⟩ := h
    exact ⟨h1, rd⟩
  | dT ks =>
    obtain ⟨h1, rfl⟩ := h
    exact ⟨h1, rd⟩
  | ins C fs =>
    obtain ⟨h1, Ca, dx, h2, rfl⟩ := h
    cases lk with
    | false => exact ⟨h1, Ca, dx, h2, x⟩
    | true => cases x.1
/-- a handle's content stands in for it -/
def view (μ : Mu) (d : D) : D := match d with
  | .ptr k => match μ[k]? with
    | some (.lv _ c l) => .con c l
    | _ => .ptr k
  | d => d
theorem StOk.read (s : StOk K mg w μ) {d : D} {v : V} {c : Con} {l : List D} (r : Rep K mg w.F w.α d v) (e : view μ d = .con c l) : ∃ a vs, v = .ref a ∧ HoldR K mg c w.H a vs ∧ RepL K mg w.F w.α l vs := by
  cases d with
  | ptr k =>
    simp only [Rep] at r
    obtain ⟨a, rfl, ha⟩ := r
    unfold view at e
    simp only at e
    split at e
    · rename_i lk c' l' hk
      cases e
      obtain ⟨_, _, vs, u, h1, h2, h3⟩ := s.own k a _ ha hk
      exact ⟨a, vs, rfl, h1.hold h2, h3⟩
    · cases e
  | con c' l' =>
    have e' : D.con c' l' = .con c l := e
    cases e'
    simp only [Rep] at r
    obtain ⟨a, vs, rfl, h1, h2⟩ := r
    exact ⟨a, vs, rfl, s.sub.hold h1, h2⟩
  | non => cases e
  | bl b => cases e
  | int i => cases e
  | str x => cases e
  | fn f => cases e

/-! ### new things -/
theorem StOk.freshF (s : StOk K mg w μ) {p : Addr} (h : w.H p = none) : w.F p = none := by
  cases q : w.F p with
  | none => rfl
  | some u =>
    rcases (s.sub _ _ q).2 with z | ⟨_, o, z⟩ <;> rw [h] at z <;> cases z
theorem StOk.freshA (s : StOk K mg w μ) {p : Addr} (h : w.H p = none) : p ∉ w.α := fun hm => by
  obtain ⟨k, hk⟩ := List.getElem?_of_mem hm
  have hl : k < μ.length := by
    rw [← s.len]
    exact (List.getElem?_eq_some_iff.mp hk).1
  have o := s.own k p _ hk (List.getElem?_eq_getElem hl)
  cases q : μ[k] with
  | dead =>
    rw [q] at o
    exact o (s.freshF h)
  | lv lk c l =>
    rw [q] at o
    obtain ⟨_, _, vs, u, _, h2, _⟩ := o
    unfold Held at h2
    cases lk with
    | false =>
      have h2' : w.H p = some u := h2
      rw [h] at h2'
      cases h2'
    | true =>
      obtain ⟨_, o, h2'⟩ := h2
      rw [h] at h2'
      cases h2'
theorem ext_upd {p : Addr} {u : HO} (h : F p = none) : Ext F (upd F p u) := fun a x e => by
  rw [upd_ne (ne_of_none e h)]
  exact e
theorem tt_of (h : ∀ b o, H b = some o → H' b = some o) : TbS H H' := fun T t => t.ext h
theorem tt_upd {p : Addr} {u : HO} (h : H p = none) : TbS H (upd H p u) := tt_of fun b o e => by
  rw [upd_ne (ne_of_none e h)]
  exact e
/-- a change at an address that holds a list, a dict or an instance: tables don't see it -/
def chg : HO → Bool
  | .lst _ => true
  | .dK _ => true
  | .dT _ => true
  | .ins _ _ _ => true
  | .own _ => true
  | .xd _ => true
  | .tup _ => true
  | _ => false
theorem tt_chg {p : Addr} {u o : HO} (h : H p = some o) (hc : chg o = true) : TbS H (upd H p u) := fun T t q hq => by
  obtain ⟨ps, h1, h2, h3⟩ := t q hq
  have n1 : q.1 ≠ p := fun z => by
    rw [z, h] at h1
    cases h1
    cases hc
  refine ⟨ps, by rw [upd_ne n1]; exact h1, h2, fun pos cv hcv => ?_⟩
  obtain ⟨c, e1, e2⟩ := h3 pos cv hcv
  refine ⟨c, e1, ?_⟩
  have n2 : c ≠ p := fun z => by
    rw [z, h] at e2
    have e3 := Option.some.inj e2
    rw [e3] at hc
    cases hc
  rw [upd_ne n2]
  exact e2
theorem Sub.upd {p : Addr} {u : HO} (s : Sub F H) (hF : F p = none) (hu : isTb u = false) : Sub (upd F p u) (upd H p u) := fun a x e => by
  by_cases ha : a = p
  · subst ha
    rw [upd_same] at e ⊢
    cases e
    exact ⟨hu, .inl rfl⟩
  · rw [upd_ne ha] at e ⊢
    exact s a x e
theorem Sub.updH {p : Addr} {u : HO} (s : Sub F H) (hF : F p = none) : Sub F (L2.upd H p u) := fun a x e => by
  have ha : a ≠ p := fun z => by
    rw [z, hF] at e
    cases e
  rw [upd_ne ha]
  exact s a x e
theorem Held.ne {lk : Bool} {a p : Addr} {u x : HO} (h : Held lk H a u) (hp : a ≠ p) : Held lk (upd H p x) a u := by
  unfold Held at h ⊢
  rw [upd_ne hp]
  exact h
/-- a new frozen thing -/
theorem HOof.ntb {c : Con} {vs : List V} {u : HO} (h : HOof mg c vs u) : isTb u = false := by
  cases c with
  | tup =>
    have h' : u = .tup vs := h
    subst h'
    rfl
  | lst =>
    have h' : u = .lst vs := h
    subst h'
    rfl
  | scr => exact h.elim
  | ctup => exact h.elim
  | dK ks =>
    obtain ⟨_, rfl⟩ := h
    rfl
  | dT ks =>
    obtain ⟨_, rfl⟩ := h
    rfl
  | ins C fs =>
    obtain ⟨_, Ca, dx, _, rfl⟩ := h
    rfl
theorem StOk.new (s : StOk K mg w μ) {p : Addr} {u : HO} (h : w.H p = none) (hu : isTb u = false := by rfl) : Nx K mg w ⟨upd w.F p u, w.α, upd w.H p u⟩ μ := by
  have hF := s.freshF h
  have hA := s.freshA h
  refine ⟨ext_upd hF, List.prefix_rfl, ⟨s.sub.upd hF hu, s.len, s.nd, fun k a ob ha hk => ?_, tt_upd h _ s.tb⟩, Fr.at p (fun a h => upd_ne h) (fun a _ z => z) (fun a h => upd_ne h) (.inl h) (fun o u z => by rw [h] at z; cases z)⟩
  have o := s.own k a ob ha hk
  have hap : a ≠ p := fun z => hA (by rw [← z]; exact List.mem_of_getElem? ha)
  cases ob with
  | dead =>
    show upd w.F p u a ≠ none
    rw [upd_ne hap]
    exact o
  | lv lk c l =>
    obtain ⟨h1, h0, vs, x, h2, h3, h4⟩ := o
    refine ⟨?_, h0, vs, x, h2, h3.ne hap, RepL.mono (ext_upd hF) List.prefix_rfl _ _ h4⟩
    show upd w.F p u a = none
    rw [upd_ne hap]
    exact h1
theorem Rep.new {c : Con} {l : List D} {vs : List V} {p : Addr} {u : HO} (hF : F p = none) (hu : HOof mg c vs u) (r : RepL K mg F α l vs) : Rep K mg (upd F p u) α (.con c l) (.ref p) := by
  simp only [Rep]
  refine ⟨p, vs, rfl, hu.hold (lk := false) (K := K) ?_, RepL.mono (ext_upd hF) List.prefix_rfl _ _ r⟩
  show upd F p u p = some u
  rw [upd_same]
theorem nodup_get {l : List Addr} (h : l.Nodup) {i j : Nat} {a : Addr} (e1 : l[i]? = some a) (e2 : l[j]? = some a) : i = j := by
  obtain ⟨h1, q1⟩ := List.getElem?_eq_some_iff.mp e1
  obtain ⟨h2, q2⟩ := List.getElem?_eq_some_iff.mp e2
  exact (List.getElem_inj h).mp (q1.trans q2.symm)
/-- a new handle -/
theorem StOk.push (s : StOk K mg w μ) {p : Addr} {u : HO} {c : Con} {l : List D} {vs : List V} (h : w.H p = none) (hc : c ≠ .tup) (hu : HOof mg c vs u) (r : RepL K mg w.F w.α l vs) :
    Nx K mg w ⟨w.F, w.α ++ [p], upd w.H p u⟩ (μ ++ [.lv false c l]) := by
  have hF := s.freshF h
  have hA := s.freshA h
  have pre : w.α <+: w.α ++ [p] := List.prefix_append _ _
  refine ⟨Ext.refl, pre, ⟨s.sub.updH hF, by simp [s.len], ?_, fun k a ob ha hk => ?_, tt_upd h _ s.tb⟩, Fr.at p (fun a _ => rfl) (fun a hn z => ?_) (fun a h => upd_ne h) (.inl h) (fun o u z => by rw [h] at z; cases z)⟩
  · rw [List.nodup_append]
    exact ⟨s.nd, by simp, fun a ha b hb => by
      have e : b = p := by simpa using hb
      subst e
      exact fun z => hA (z ▸ ha)⟩
  · by_cases hl : k < w.α.length
    · have ha' : w.α[k]? = some a := by
        have ha : (w.α ++ [p])[k]? = some a := ha
        rw [List.getElem?_append_left hl] at ha
        exact ha
      have hk' : μ[k]? = some ob := by
        rw [List.getElem?_append_left (by rw [← s.len]; exact hl)] at hk
        exact hk
      have o := s.own k a ob ha' hk'
      have hap : a ≠ p := fun z => hA (by rw [← z]; exact List.mem_of_getElem? ha')
      cases ob with
      | dead => exact o
      | lv lk c' l' =>
        obtain ⟨h1, h0, vs', x, h2, h3, h4⟩ := o
        exact ⟨h1, h0, vs', x, h2, h3.ne hap, RepL.mono Ext.refl pre _ _ h4⟩
    · have hk2 : k = w.α.length := by
        have := (List.getElem?_eq_some_iff.mp ha).1
        simp at this
        omega
      subst hk2
      have ha : (w.α ++ [p])[w.α.length]? = some a := ha
      rw [s.len] at hk
      simp at ha hk
      subst ha hk
      refine ⟨hF, hc, vs, u, hu, ?_, RepL.mono Ext.refl pre _ _ r⟩
      show upd w.H p u p = some u
      rw [upd_same]
  · have z : a ∈ w.α ++ [p] := z
    rcases List.mem_append.mp z with q | q
    · exact q
    · exact absurd (by simpa using q) hn
/-- a handle's content is written -/
theorem StOk.write (s : StOk K mg w μ) {k : Nat} {a : Addr} {u u0 : HO} {c : Con} {l : List D} {vs : List V} (ha : w.α[k]? = some a) (hF : w.F a = none) (h0 : w.H a = some u0) (hch : chg u0 = true) (hc : c ≠ .tup) (lk : Bool) (hu : HOof mg c vs u) (r : RepL K mg w.F w.α l vs)
    (x : HO) (hx : if lk = true then isDct u = true ∧ ∃ o, x = .frz o u else x = u) : Nx K mg w ⟨w.F, w.α, upd w.H a x⟩ (μ.set k (.lv lk c l)) := by
  refine ⟨Ext.refl, List.prefix_rfl, ⟨s.sub.updH hF, by simp [s.len], s.nd, fun k' a' ob ha' hk' => ?_, tt_chg h0 hch _ s.tb⟩, Fr.at a (fun _ _ => rfl) (fun _ _ z => z) (fun _ h => upd_ne h) (.inr (List.mem_of_getElem? ha)) (fun o u z => by rw [h0] at z; cases z; cases hch)⟩
  by_cases hk : k = k'
  · subst hk
    have hl : k < μ.length := by
      rw [← s.len]
      exact (List.getElem?_eq_some_iff.mp ha).1
    rw [List.getElem?_set_self hl] at hk'
    cases hk'
    have e : a' = a := Option.some.inj (ha'.symm.trans ha)
    subst e
    refine ⟨hF, hc, vs, u, hu, ?_, r⟩
    unfold Held
    show if lk = true then isDct u = true ∧ ∃ o, upd w.H a' x a' = some (.frz o u) else upd w.H a' x a' = some u
    rw [upd_same]
    cases lk with
    | false =>
      have hx' : x = u := hx
      rw [hx']
      exact rfl
    | true =>
      obtain ⟨h1, o, h2⟩ := hx
      rw [h2]
      exact ⟨h1, o, rfl⟩
  · rw [List.getElem?_set_ne hk] at hk'
    have o := s.own k' a' ob ha' hk'
    have hap : a' ≠ a := fun z => hk (nodup_get s.nd ha (z ▸ ha'))
    cases ob with
    | dead => exact o
    | lv lk' c' l' =>
      obtain ⟨h1, h0', vs', x', h2, h3, h4⟩ := o
      exact ⟨h1, h0', vs', x', h2, h3.ne hap, h4⟩
end

/-! ### what is wanted behind a step -/
section
variable [Tb]
variable (K : PySem.W.Frag) (mg : Str → Option Value)
def post {β : Type} (w : Ws) (r : R β) (P : β → Ws → Mu → Prop) (E : XK) : Prop := match r with
  | .ok x μ' => ∀ w', Nx K mg w w' μ' → P x w' μ'
  | .exc c x μ' => ∀ w' ca dx v, Nx K mg w w' μ' → mg c = some (.ref ca) → w'.H dx = some (.xd [(("value" : Str), v)]) → Rep K mg w'.F w'.α x v → E (.ref ca) (some dx) w'.H
  | .stuck => False
end
section
variable [Tb]
variable {K : PySem.W.Frag} {mg : Str → Option Value} {w w' : Ws} {μ : Mu} {E : XK}
theorem post.mono {β : Type} {r : R β} {P P' : β → Ws → Mu → Prop} (h : post K mg w r P E) (f : ∀ x w' μ', Nx K mg w w' μ' → P x w' μ' → P' x w' μ') : post K mg w r P' E := by
  cases r with
  | ok x μ' => exact fun w' n => f x w' μ' n (h w' n)
  | exc c x μ' => exact h
  | stuck => exact h
theorem post.bind {β γ : Type} {r : R β} {f : β → Mu → R γ} {P : γ → Ws → Mu → Prop} (h : post K mg w (r.bind f) P E) : post K mg w r (fun x w' μ' => post K mg w' (f x μ') P E) E := by
  cases r with
  | ok x μ' =>
    intro w' n
    have h' : post K mg w (f x μ') P E := h
    cases q : f x μ' with
    | ok y μ2 =>
      rw [q] at h'
      exact fun w2 n2 => h' w2 (n.trans n2)
    | exc c y μ2 =>
      rw [q] at h'
      exact fun w2 ca dx v n2 => h' w2 ca dx v (n.trans n2)
    | stuck =>
      rw [q] at h'
      exact h'
  | exc c x μ' => exact h
  | stuck => exact h
/-- from a later world -/
theorem post.later {β : Type} {r : R β} {P : β → Ws → Mu → Prop} {μ0 : Mu} (n : Nx K mg w w' μ0) (h : post K mg w r P E) : post K mg w' r P E := by
  cases r with
  | ok x μ' => exact fun w2 n2 => h w2 (n.trans n2)
  | exc c x μ' => exact fun w2 ca dx v n2 => h w2 ca dx v (n.trans n2)
  | stuck => exact h
theorem post.ok {β : Type} {x : β} {P : β → Ws → Mu → Prop} (s : StOk K mg w μ) (h : post K mg w (.ok x μ) P E) : P x w μ := h w (.refl s)
theorem post.lift {β : Type} {o : Option β} {P : β → Ws → Mu → Prop} (h : post K mg w (lift o μ) P E) : ∃ x, o = some x ∧ post K mg w (.ok x μ) P E := by
  cases o with
  | none => exact h.elim
  | some x => exact ⟨x, rfl, h⟩
end

/-! ### programs -/
abbrev ME := Rho → Mu → R D
abbrev MT := Rho → Mu → R Bool
abbrev MA := Rho → Mu → R (List D)
inductive Fl where
  | nx | bk | ct | rt (d : D)
abbrev MS := Rho → Mu → R (Fl × Rho)

section
variable [Tb]
variable (K : PySem.W.Frag) (mg : Str → Option Value) (E : XK)
def tG {β : Type} (m : Rho → Mu → R β) (σ : St) (H : Hp) (P : β → Ws → Mu → Rho → Prop) : Prop :=
  ∃ w μ ρ, w.H = H ∧ StOk K mg w μ ∧ RepS K mg w.F w.α ρ σ ∧ post K mg w (m ρ μ) (fun x w' μ' => P x w' μ' ρ) E
def tE (m : ME) : TE := fun σ H Q => tG K mg E m σ H fun d w' _ _ => ∀ v, Rep K mg w'.F w'.α d v → Q v w'.H
def tT (m : MT) : TT := fun σ H Q => tG K mg E m σ H fun b w' _ _ => Q b w'.H
def tA (m : MA) : TA := fun σ H Q => tG K mg E m σ H fun l w' _ _ => ∀ vs, RepL K mg w'.F w'.α l vs → Q vs w'.H
def Ends.to (D : Ends) (f : Fl) (w : Ws) (σ : St) : Prop := match f with
  | .nx => D.nx σ w.H
  | .bk => D.bk σ w.H
  | .ct => D.ct σ w.H
  | .rt d => ∀ v, Rep K mg w.F w.α d v → D.rt v w.H
def tS (m : MS) : TS := fun D σ H => tG K mg E m σ H fun x w' _ _ => ∀ σ', RepS K mg w'.F w'.α x.2 σ' → Ends.to K mg D x.1 w' σ'
end
section
variable [Tb]
abbrev PDE (X : Cx) (E : XK) (e : Expr) (m : ME) : Prop := PE X e (tE X.K X.mg E m)
abbrev PDT (X : Cx) (E : XK) (e : Expr) (m : MT) : Prop := PT X e (tT X.K X.mg E m)
abbrev PDA (X : Cx) (E : XK) (es : List Expr) (m : MA) : Prop := PA X es (tA X.K X.mg E m)
abbrev PDS (X : Cx) (E : XK) (st : Stmt) (m : MS) : Prop := PS X st (tS X.K X.mg E m)
abbrev PDSs (X : Cx) (E : XK) (st : List Stmt) (m : MS) : Prop := PSs X st (tS X.K X.mg E m)
end

end MP
namespace L2
open PySem PySem.Spec
section
variable {X : Cx} {E : XK}
theorem PE.weak {e : Expr} {t t' : TE} (h : PE X e t) (f : ∀ σ H Q, t' σ H Q → t σ H Q) : PE X e t' := ⟨fun pins s σ H Q I q => h.run pins s σ H Q I (f σ H Q q)⟩
theorem PT.weak {e : Expr} {t t' : TT} (h : PT X e t) (f : ∀ σ H Q, t' σ H Q → t σ H Q) : PT X e t' := ⟨fun pins s σ H Q I q => h.run pins s σ H Q I (f σ H Q q)⟩
theorem PA.weak {e : List Expr} {t t' : TA} (h : PA X e t) (f : ∀ σ H Q, t' σ H Q → t σ H Q) : PA X e t' := ⟨fun pos pins s σ H Q I q => h.run pos pins s σ H Q I (f σ H Q q)⟩
theorem PS.weak {e : Stmt} {t t' : TS} (h : PS X e t) (f : ∀ D σ H, t' D σ H → t D σ H) : PS X e t' := ⟨fun pins s σ H D I q => h.run pins s σ H D I (f D σ H q)⟩
theorem PSs.weak {e : List Stmt} {t t' : TS} (h : PSs X e t) (f : ∀ D σ H, t' D σ H → t D σ H) : PSs X e t' := ⟨fun pins s σ H D I q => h.run pins s σ H D I (f D σ H q)⟩
theorem PW.weak {e : Expr} {t t' : TT} (h : PW X e t) (f : ∀ σ H Q, t' σ H Q → t σ H Q) : PW X e t' := ⟨fun wh pins s σ H Q I q => h.run wh pins s σ H Q I (f σ H Q q)⟩
end
end L2

namespace MP
open PySem PySem.Spec L2
variable [Tb]

section
variable {X : Cx} {E : XK}

/-! ### names, constants -/
def eVar (i : Nat) : ME := fun ρ μ => match ρ[i]? with
  | some (some d) => .ok d μ
  | _ => .stuck
theorem pd_var (i : Nat) {x : Str} {pos : Pos} (hN : X.N[i]? = some x := by rfl) (hv : Vis X.env.scope x := by first | exact Or.inl rfl | exact Or.inr (Or.inl rfl) | exact Or.inr (Or.inr rfl)) (hd : (x == ("__debug__" : Str)) = false := by decide)
    (hcd : (x == ("__classdict__" : Str)) = false := by decide) : PDE X E (.Name x pos) (eVar i) := by
  refine (pe_var (i := i) hN hv hd hcd).weak fun σ H Q h => ?_
  obtain ⟨w, μ, ρ, rfl, st, rs, p⟩ := h
  unfold eVar at p
  split at p
  · rename_i d e
    obtain ⟨v, h1, h2⟩ := rs.get e
    exact ⟨v, h1, p w (.refl st) v h2⟩
  · exact p.elim
def eC (d : D) : ME := fun _ μ => .ok d μ
theorem pd_const {e : Expr} {v : V} {d : D} (h : PE X e (tC v)) (hd : ∀ F α, Rep X.K X.mg F α d v) : PDE X E e (eC d) := by
  refine h.weak fun σ H Q h => ?_
  obtain ⟨w, μ, ρ, rfl, st, rs, p⟩ := h
  exact p w (.refl st) v (hd _ _)
theorem pd_int {i j pos} : PDE X E (.Constant (.int i) j pos) (eC (.int i)) := pd_const pe_int fun _ _ => by simp only [Rep]
theorem pd_bl {b j pos} : PDE X E (.Constant (.bool b) j pos) (eC (.bl b)) := pd_const pe_bl fun _ _ => by simp only [Rep]
theorem pd_non {j pos} : PDE X E (.Constant .none j pos) (eC .non) := pd_const pe_non fun _ _ => by simp only [Rep]
theorem pd_str {x j pos} : PDE X E (.Constant (.str x) j pos) (eC (.str x)) := pd_const pe_str fun _ _ => by simp only [Rep]
/-- a module's constant -/
theorem pd_gint {x : Str} {i : Int} {pos : Pos} (hg : Gl X x) (hm : ∃ t, X.mg x = some (.int i t)) (hd : (x == ("__debug__" : Str)) = false := by decide) : PDE X E (.Name x pos) (eC (.int i)) := by
  obtain ⟨t, hm⟩ := hm
  exact pd_const (pe_glob (v := .int i) hg hm ⟨t, rfl⟩ hd) fun _ _ => by simp only [Rep]
/-- a def of the module as a value -/
theorem pd_fn {x : Str} {f : Addr} {pos : Pos} (hg : Gl X x) (hm : X.mg x = some (.ref f)) (hd : (x == ("__debug__" : Str)) = false := by decide) : PDE X E (.Name x pos) (eC (.fn x)) :=
  pd_const (pe_glob (v := .ref f) hg hm rfl hd) fun _ _ => by
    simp only [Rep]
    exact ⟨f, rfl, hm⟩
/-- a module's tuple -/
theorem pd_gtup {x : Str} {f : Addr} {l : List D} {vs : List V} {pos : Pos} (hg : Gl X x) (hm : X.mg x = some (.ref f)) (hs : ∀ H, SqT X.K H f vs) (hr : ∀ F α, RepL X.K X.mg F α l vs) (hd : (x == ("__debug__" : Str)) = false := by decide) : PDE X E (.Name x pos) (eC (.con .ctup l)) :=
  pd_const (pe_glob (v := .ref f) hg hm rfl hd) fun F α => by
    simp only [Rep]
    exact ⟨f, vs, rfl, hs F, hr F α⟩

/-! ### one operand, two operands, many -/
def U1 (X : Cx) (r : V → Hp → VK → Prop) (f : Mu → D → Option D) : Prop :=
  ∀ (w : Ws) (μ : Mu) (x d : D) (vx : V) (Q : VK), StOk X.K X.mg w μ → Rep X.K X.mg w.F w.α x vx → f μ x = some d → (∀ w' v, Nx X.K X.mg w w' μ → Rep X.K X.mg w'.F w'.α d v → Q v w'.H) → r vx w.H Q
def B2 (X : Cx) (r : R2) (f : Mu → D → D → Option D) : Prop :=
  ∀ (w : Ws) (μ : Mu) (x y d : D) (vx vy : V) (Q : VK), StOk X.K X.mg w μ → Rep X.K X.mg w.F w.α x vx → Rep X.K X.mg w.F w.α y vy → f μ x y = some d →
    (∀ w' v, Nx X.K X.mg w w' μ → Rep X.K X.mg w'.F w'.α d v → Q v w'.H) → r vx vy w.H Q
def CN (X : Cx) (r : List V → Hp → VK → Prop) (f : Mu → List D → Option D) : Prop :=
  ∀ (w : Ws) (μ : Mu) (l : List D) (d : D) (vs : List V) (Q : VK), StOk X.K X.mg w μ → RepL X.K X.mg w.F w.α l vs → f μ l = some d → (∀ w' v, Nx X.K X.mg w w' μ → Rep X.K X.mg w'.F w'.α d v → Q v w'.H) → r vs w.H Q
def eU1 (f : Mu → D → Option D) (a : ME) : ME := fun ρ μ => (a ρ μ).bind fun x μ1 => lift (f μ1 x) μ1
def eB2 (f : Mu → D → D → Option D) (a b : ME) : ME := fun ρ μ => (a ρ μ).bind fun x μ1 => (b ρ μ1).bind fun y μ2 => lift (f μ2 x y) μ2
def eCN (f : Mu → List D → Option D) (a : MA) : ME := fun ρ μ => (a ρ μ).bind fun l μ1 => lift (f μ1 l) μ1
theorem tG_unary {a : ME} {f : Mu → D → Option D} {r : V → Hp → VK → Prop} (hf : U1 X r f) {σ : St} {H : Hp} {Q : VK} (h : tE X.K X.mg E (eU1 f a) σ H Q) : tE X.K X.mg E a σ H fun x H1 => r x H1 Q := by
  obtain ⟨w, μ, ρ, rfl, st, rs, p⟩ := h
  refine ⟨w, μ, ρ, rfl, st, rs, (post.bind p).mono fun x w1 μ1 n1 q => ?_⟩
  intro vx hx
  obtain ⟨d, e, q⟩ := post.lift q
  exact hf w1 μ1 x d vx Q n1.st hx e fun w' v n r => q w' n v r
theorem tG_binary {a b : ME} {f : Mu → D → D → Option D} {r : R2} (hf : B2 X r f) {σ : St} {H : Hp} {Q : VK} (h : tE X.K X.mg E (eB2 f a b) σ H Q) :
    tE X.K X.mg E a σ H fun x H1 => tE X.K X.mg E b σ H1 fun y H2 => r x y H2 Q := by
  obtain ⟨w, μ, ρ, rfl, st, rs, p⟩ := h
  refine ⟨w, μ, ρ, rfl, st, rs, (post.bind p).mono fun x w1 μ1 n1 q => ?_⟩
  intro vx hx
  refine ⟨w1, μ1, ρ, rfl, n1.st, rs.mono n1.ext n1.pre, (post.bind q).mono fun y w2 μ2 n2 q => ?_⟩
  intro vy hy
  obtain ⟨d, e, q⟩ := post.lift q
  exact hf w2 μ2 x y d vx vy Q n2.st (Rep.mono n2.ext n2.pre _ _ hx) hy e fun w' v n r => q w' n v r
theorem tG_many {a : MA} {f : Mu → List D → Option D} {r : List V → Hp → VK → Prop} (hf : CN X r f) {σ : St} {H : Hp} {Q : VK} (h : tE X.K X.mg E (eCN f a) σ H Q) : tA X.K X.mg E a σ H fun vs H1 => r vs H1 Q := by
  obtain ⟨w, μ, ρ, rfl, st, rs, p⟩ := h
  refine ⟨w, μ, ρ, rfl, st, rs, (post.bind p).mono fun x w1 μ1 n1 q => ?_⟩
  intro vx hx
  obtain ⟨d, e, q⟩ := post.lift q
  exact hf w1 μ1 x d vx Q n1.st hx e fun w' v n r => q w' n v r
section
variable {a b : Expr} {ma mb : ME} {pos : Pos}
theorem pd_op {op : Operator} {r : R2} {f : Mu → D → D → Option D} (ho : OpR X (binaryOp op) r) (hf : B2 X r f) (ha : PDE X E a ma) (hb : PDE X E b mb) : PDE X E (.BinOp a op b pos) (eB2 f ma mb) :=
  (pe_op ho ha hb).weak fun _ _ _ h => tG_binary hf h
theorem pd_un {op : UnaryOp} {r : V → Hp → VK → Prop} {f : Mu → D → Option D} (ho : UnR X (unaryOp op) r) (hf : U1 X r f) (ha : PDE X E a ma) : PDE X E (.UnaryOp op a pos) (eU1 f ma) :=
  (pe_un ho ha).weak fun _ _ _ h => tG_unary hf h
theorem pd_cmp {op : CmpOp} {r : R2} {f : Mu → D → D → Option D} (ho : OpR X (compareOp op) r) (hf : B2 X r f) (ha : PDE X E a ma) (hb : PDE X E b mb) (hm : behindInMarks op b = false) : PDE X E (.Compare a [op] [b] pos) (eB2 f ma mb) :=
  (pe_cmpR ho ha hb hm).weak fun _ _ _ h => tG_binary hf h
theorem pd_ix {r : R2} {f : Mu → D → D → Option D} (hr : IxR X r) (hf : B2 X r f) (ha : PDE X E a ma) (hb : PDE X E b mb) (hs : PlainIx b := by exact fun _ _ => rfl) : PDE X E (.Subscript a b pos) (eB2 f ma mb) :=
  (pe_ix hr ha hb hs).weak fun _ _ _ h => tG_binary hf h
end
/-! ### lists of arguments -/
def aNil : MA := fun _ μ => .ok [] μ
def aCons (m : ME) (r : MA) : MA := fun ρ μ => (m ρ μ).bind fun x μ1 => (r ρ μ1).bind fun l μ2 => .ok (x :: l) μ2
theorem pd_nil : PDA X E [] aNil := pa_nil.weak fun σ H Q h => by
  obtain ⟨w, μ, ρ, rfl, st, rs, p⟩ := h
  exact p w (.refl st) [] .nil
theorem pd_cons {e : Expr} {es : List Expr} {m : ME} {r : MA} (he : PDE X E e m) (hr : PDA X E es r) (hs : starEach (e :: es) X.env = (false, eval e X.env) :: starEach es X.env := by rfl) : PDA X E (e :: es) (aCons m r) :=
  (pa_cons he hr hs).weak fun σ H Q h => by
    obtain ⟨w, μ, ρ, rfl, st, rs, p⟩ := h
    refine ⟨w, μ, ρ, rfl, st, rs, (post.bind p).mono fun x w1 μ1 n1 q => ?_⟩
    intro vx hx
    refine ⟨w1, μ1, ρ, rfl, n1.st, rs.mono n1.ext n1.pre, (post.bind q).mono fun y w2 μ2 n2 q => ?_⟩
    intro vy hy
    exact q w2 (.refl n2.st) _ (.cons (Rep.mono n2.ext n2.pre _ _ hx) hy)
/-! ### built-ins by name -/
section
variable {x : Str} {p pos : Pos} {e : Expr} {es : List Expr} {m : MA} {id T : String} {r : List V → Hp → VK → Prop} {f : Mu → List D → Option D}
theorem pd_callB (hc : CallR X (.builtin id) r) (hf : CN X r f) (hg : Gl X x) (hm : X.mg x = none) (hv : bootBuiltins x = some (.builtin id)) (ha : PDA X E (e :: es) m) (hn : x ≠ "__name__" := by decide) (hdb : (x == ("__debug__" : Str)) = false := by decide)
    (he : starEach (e :: es) X.env = (false, eval e X.env) :: starEach es X.env := by rfl) (hpl : (backTo pos (starEach es X.env)).any (·.1) = false := by rfl) : PDE X E (.Call (.Name x p) (e :: es) [] pos) (eCN f m) :=
  (pe_callB hc hg hm hv ha hn hdb he hpl).weak fun _ _ _ h => tG_many hf h
theorem pd_callTy (hc : CallR X (.type T) r) (hf : CN X r f) (hg : Gl X x) (hm : X.mg x = none) (hv : bootBuiltins x = some (.type T)) (ha : PDA X E (e :: es) m) (hn : x ≠ "__name__" := by decide) (hdb : (x == ("__debug__" : Str)) = false := by decide)
    (he : starEach (e :: es) X.env = (false, eval e X.env) :: starEach es X.env := by rfl) (hpl : (backTo pos (starEach es X.env)).any (·.1) = false := by rfl) : PDE X E (.Call (.Name x p) (e :: es) [] pos) (eCN f m) :=
  (pe_callTy hc hg hm hv ha hn hdb he hpl).weak fun _ _ _ h => tG_many hf h
end
/-! ### displays -/
def conD (c : Con) : Mu → List D → Option D := fun _ l => if l.length ≤ sizeLine then some (.con c l) else none
theorem cn_new {r : List V → Hp → VK → Prop} {c : Con} (hr : ∀ vs H Q, vs.length ≤ sizeLine → (∀ p, H p = none → ∃ u, HOof X.mg c vs u ∧ Q (.ref p) (upd H p u)) → r vs H Q) (hc : ∀ (vs : List V), ∃ u, HOof X.mg c vs u) : CN X r (conD c) := by
  intro w μ l d vs Q st hl e k
  unfold conD at e
  split at e
  · rename_i hz
    cases e
    refine hr vs w.H Q (by rw [← hl.length]; exact hz) fun p hp => ?_
    obtain ⟨u, hu⟩ := hc vs
    exact ⟨u, hu, k _ _ (st.new hp hu.ntb) (Rep.new (st.freshF hp) hu hl)⟩
  · cases e
theorem pd_tup {es : List Expr} {m : MA} {x1 pos} (h : PDA X E es m) : PDE X E (.Tuple es x1 pos) (eCN (conD .tup) m) :=
  (pe_tup h).weak fun σ H Q q => by
    have hf : CN X (fun vs H Q => vs.length ≤ sizeLine ∧ ∀ p, H p = none → Q (.ref p) (upd H p (.tup vs))) (conD .tup) := cn_new (fun vs H Q h1 h2 => ⟨h1, fun p hp => by
      obtain ⟨u, e, q⟩ := h2 p hp
      have e' : u = .tup vs := e
      rw [← e']
      exact q⟩) fun vs => ⟨_, rfl⟩
    exact tG_many hf q
theorem pd_lst {es : List Expr} {m : MA} {pos} (h : PDA X E es m) : PDE X E (.List es pos) (eCN (conD .lst) m) :=
  (pe_lst h).weak fun σ H Q q => by
    have hf : CN X (fun vs H Q => vs.length ≤ sizeLine ∧ ∀ p, H p = none → Q (.ref p) (upd H p (.lst vs))) (conD .lst) := cn_new (fun vs H Q h1 h2 => ⟨h1, fun p hp => by
      obtain ⟨u, e, q⟩ := h2 p hp
      have e' : u = .lst vs := e
      rw [← e']
      exact q⟩) fun vs => ⟨_, rfl⟩
    exact tG_many hf q
/-- the same, for a name that is to hold a list that changes -/
def hNew (c : Con) (m : MA) : ME := fun ρ μ => (m ρ μ).bind fun l μ1 => if l.length ≤ sizeLine then .ok (.ptr μ1.length) (μ1 ++ [.lv false c l]) else .stuck
theorem tG_hnew {c : Con} {m : MA} (hc : c ≠ .tup) {σ : St} {H : Hp} {Q : VK} (h : tE X.K X.mg E (hNew c m) σ H Q) : tA X.K X.mg E m σ H fun vs H1 => vs.length ≤ sizeLine ∧ ∀ p u, H1 p = none → HOof X.mg c vs u → Q (.ref p) (upd H1 p u) := by
  obtain ⟨w, μ, ρ, rfl, st, rs, p⟩ := h
  refine ⟨w, μ, ρ, rfl, st, rs, (post.bind p).mono fun x w1 μ1 n1 q => ?_⟩
  intro vs hx
  split at q
  · rename_i hz
    refine ⟨by rw [← hx.length]; exact hz, fun p u hp hu => ?_⟩
    have n := n1.st.push hp hc hu hx
    refine q _ n _ ?_
    simp only [Rep]
    exact ⟨p, rfl, by rw [← n1.st.len]; simp⟩
  · exact q.elim
theorem pd_hlst {es : List Expr} {m : MA} {pos} (h : PDA X E es m) : PDE X E (.List es pos) (hNew .lst m) :=
  (pe_lst h).weak fun σ H Q q => by
    have q' := tG_hnew (by decide) q
    obtain ⟨w, μ, ρ, e, st, rs, p⟩ := q'
    exact ⟨w, μ, ρ, e, st, rs, p.mono fun l w1 μ1 n1 z vs hv => ⟨(z vs hv).1, fun p hp => (z vs hv).2 p _ hp rfl⟩⟩
theorem pd_hdict {pos} : PDE X E (.Dict [] [] pos) (hNew (.dK []) aNil) :=
  pe_dnewK.weak fun σ H Q q => by
    obtain ⟨w, μ, ρ, rfl, st, rs, p⟩ := q
    intro a ha
    have n := st.push (c := .dK []) (l := []) (vs := []) ha (by decide) ⟨rfl, rfl⟩ .nil
    have p' : post X.K X.mg w (.ok (.ptr μ.length) (μ ++ [.lv false (.dK []) []])) (fun d w' _ => ∀ v, Rep X.K X.mg w'.F w'.α d v → Q v w'.H) E := by
      have e : hNew (.dK []) aNil ρ μ = .ok (.ptr μ.length) (μ ++ [.lv false (.dK []) []]) := by
        unfold hNew aNil
        simp [R.bind]
      rw [e] at p
      exact p
    refine p' _ n _ ?_
    simp only [Rep]
    exact ⟨a, rfl, by rw [← st.len]; simp⟩
theorem pd_hdictT {pos} : PDE X E (.Dict [] [] pos) (hNew (.dT []) aNil) :=
  pe_dnewT.weak fun σ H Q q => by
    obtain ⟨w, μ, ρ, rfl, st, rs, p⟩ := q
    intro a ha
    have n := st.push (c := .dT []) (l := []) (vs := []) ha (by decide) ⟨rfl, rfl⟩ .nil
    have p' : post X.K X.mg w (.ok (.ptr μ.length) (μ ++ [.lv false (.dT []) []])) (fun d w' _ => ∀ v, Rep X.K X.mg w'.F w'.α d v → Q v w'.H) E := by
      have e : hNew (.dT []) aNil ρ μ = .ok (.ptr μ.length) (μ ++ [.lv false (.dT []) []]) := by
        unfold hNew aNil
        simp [R.bind]
      rw [e] at p
      exact p
    refine p' _ n _ ?_
    simp only [Rep]
    exact ⟨a, rfl, by rw [← st.len]; simp⟩
/-- a dict display without entries, frozen -/
theorem pd_dict0 {pos} : PDE X E (.Dict [] [] pos) (eC (.con (.dK []) [])) :=
  pe_dnewK.weak fun σ H Q q => by
    obtain ⟨w, μ, ρ, rfl, st, rs, p⟩ := q
    intro a ha
    exact p _ (st.new ha) _ (Rep.new (vs := []) (st.freshF ha) ⟨rfl, rfl⟩ .nil)
end
end MP

namespace MP
open PySem PySem.Spec L2
variable [Tb]

/-! ### keys -/
def keyD : D → Option Key
  | .int i => some (.inl i)
  | .str x => some (.inr x)
  | _ => none
def keysD (l : List D) : Option (List Key) := match l with
  | [] => some []
  | d :: r => match keyD d, keysD r with
    | some k, some ks => some (k :: ks)
    | _, _ => none
def dKey : Key → D
  | .inl i => .int i
  | .inr x => .str x
section
variable {κ : Type} [DecidableEq κ]
def findD : List κ → List D → κ → Option D
  | k :: ks, d :: l, x => if k = x then some d else findD ks l x
  | _, _, _ => none
def putKs (ks : List κ) (x : κ) : List κ := if ks.any (fun k => decide (k = x)) = true then ks else ks ++ [x]
def setD : List κ → List D → κ → D → List D
  | k :: ks, d :: l, x, v => (if k = x then v else d) :: setD ks l x v
  | _, _, _, _ => []
def putDs (ks : List κ) (l : List D) (x : κ) (v : D) : List D := if ks.any (fun k => decide (k = x)) = true then setD ks l x v else l ++ [v]
def dropKs (ks : List κ) (x : κ) : List κ := ks.filter fun k => decide (k ≠ x)
def dropDs : List κ → List D → κ → List D
  | k :: ks, d :: l, x => if k = x then dropDs ks l x else d :: dropDs ks l x
  | _, _, _ => []
end
section
variable {K : PySem.W.Frag} {mg : Str → Option Value} {F H : Hp} {α : List Addr} {w : Ws} {μ : Mu}
theorem keyD_rep {d : D} {k : Key} {v : V} (h : keyD d = some k) (r : Rep K mg F α d v) : v = kV k := by
  cases d with
  | int i =>
    cases h
    simp only [Rep] at r
    exact r
  | str x =>
    cases h
    simp only [Rep] at r
    exact r
  | _ => cases h
theorem keysD_rep : ∀ {l : List D} {ks : List Key} {vs : List V}, keysD l = some ks → RepL K mg F α l vs → vs = ks.map kV
  | [], ks, vs, h, r => by
    cases h
    simp only [RepL] at r
    exact r
  | d :: l, ks, vs, h, r => by
    simp only [RepL] at r
    obtain ⟨v, r', rfl, h1, h2⟩ := r
    unfold keysD at h
    split at h
    · rename_i k ks' e1 e2
      cases h
      rw [keyD_rep e1 h1, keysD_rep e2 h2]
      rfl
    · cases h
variable {κ : Type} [DecidableEq κ]
theorem findD_rep : ∀ {ks : List κ} {l : List D} {vs : List V} {x : κ} {d : D}, RepL K mg F α l vs → findD ks l x = some d → ∃ v, valV (ks.zip vs) x = some v ∧ Rep K mg F α d v
  | k :: ks, d' :: l, vs, x, d, r, h => by
    simp only [RepL] at r
    obtain ⟨v, r', rfl, h1, h2⟩ := r
    unfold findD at h
    split at h
    · rename_i e
      cases h
      exact ⟨v, valV_pos e, h1⟩
    · rename_i e
      obtain ⟨v', h3, h4⟩ := findD_rep h2 h
      exact ⟨v', (valV_neg e).trans h3, h4⟩
  | [], _, _, _, _, _, h => by cases h
  | _ :: _, [], _, _, _, _, h => by cases h
theorem findD_none : ∀ {ks : List κ} {l : List D} {vs : List V} {x : κ}, RepL K mg F α l vs → findD ks l x = none → valV (ks.zip vs) x = none
  | k :: ks, d' :: l, vs, x, r, h => by
    simp only [RepL] at r
    obtain ⟨v, r', rfl, h1, h2⟩ := r
    unfold findD at h
    split at h
    · cases h
    · rename_i e
      exact (valV_neg e).trans (findD_none h2 h)
  | [], _, _, _, _, _ => rfl
  | _ :: _, [], vs, _, r, _ => by
    simp only [RepL] at r
    subst r
    rfl
theorem findD_isSome {ks : List κ} {l : List D} {vs : List V} {x : κ} (r : RepL K mg F α l vs) : (valV (ks.zip vs) x).isSome = (findD ks l x).isSome := by
  cases h : findD ks l x with
  | none =>
    rw [findD_none r h]
    rfl
  | some d =>
    obtain ⟨v, h1, _⟩ := findD_rep r h
    rw [h1]
    rfl
theorem any_zip : ∀ {ks : List κ} {vs : List V} (x : κ), ks.length = vs.length → ((ks.zip vs).any fun kv => decide (kv.1 = x)) = ks.any fun k => decide (k = x)
  | [], [], _, _ => rfl
  | [], _ :: _, _, h => by cases h
  | _ :: _, [], _, h => by cases h
  | k :: ks, v :: vs, x, h => by
    have h' : ks.length = vs.length := by simpa using h
    simp only [List.zip_cons_cons, List.any_cons, any_zip x h']
theorem setD_rep : ∀ {ks : List κ} {l : List D} {vs : List V} {x : κ} {d : D} {v : V}, ks.length = vs.length → RepL K mg F α l vs → Rep K mg F α d v →
    ∃ us, (ks.zip vs).map (fun kv => if kv.1 = x then (kv.1, v) else kv) = ks.zip us ∧ RepL K mg F α (setD ks l x d) us ∧ ks.length = us.length
  | [], l, vs, x, d, v, hl, r, rv => by
    refine ⟨[], rfl, ?_, rfl⟩
    cases l <;> exact .nil
  | k :: ks, [], vs, x, d, v, hl, r, rv => by
    simp only [RepL] at r
    subst r
    cases hl
  | k :: ks, d' :: l, vs, x, d, v, hl, r, rv => by
    simp only [RepL] at r
    obtain ⟨v', r', rfl, h1, h2⟩ := r
    obtain ⟨us, h3, h4, h5⟩ := setD_rep (x := x) (by simpa using hl) h2 rv
    refine ⟨(if k = x then v else v') :: us, ?_, ?_, by simp [h5]⟩
    · simp only [List.zip_cons_cons, List.map_cons, h3]
      by_cases e : k = x
      · simp [e]
      · simp [e]
    · unfold setD
      refine .cons ?_ h4
      by_cases e : k = x
      · rw [if_pos e, if_pos e]
        exact rv
      · rw [if_neg e, if_neg e]
        exact h1
theorem putD_rep {ks : List κ} {l : List D} {vs : List V} {x : κ} {d : D} {v : V} (hl : ks.length = vs.length) (r : RepL K mg F α l vs) (rv : Rep K mg F α d v) :
    ∃ us, putK (ks.zip vs) x v = (putKs ks x).zip us ∧ RepL K mg F α (putDs ks l x d) us ∧ (putKs ks x).length = us.length := by
  unfold putK putKs putDs
  rw [any_zip x hl]
  split
  · exact setD_rep hl r rv
  · refine ⟨vs ++ [v], ?_, r.append (.cons rv .nil), by simp [hl]⟩
    rw [List.zip_append hl]
    rfl
theorem dropD_rep : ∀ {ks : List κ} {l : List D} {vs : List V} {x : κ}, ks.length = vs.length → RepL K mg F α l vs →
    ∃ us, dropK (ks.zip vs) x = (dropKs ks x).zip us ∧ RepL K mg F α (dropDs ks l x) us ∧ (dropKs ks x).length = us.length
  | [], l, vs, x, hl, r => by
    refine ⟨[], rfl, ?_, rfl⟩
    cases l <;> exact .nil
  | k :: ks, [], vs, x, hl, r => by
    simp only [RepL] at r
    subst r
    cases hl
  | k :: ks, d' :: l, vs, x, hl, r => by
    simp only [RepL] at r
    obtain ⟨v', r', rfl, h1, h2⟩ := r
    obtain ⟨us, h3, h4, h5⟩ := dropD_rep (x := x) (by simpa using hl) h2
    unfold dropK at h3
    unfold dropKs at h3 h5
    by_cases e : k = x
    · refine ⟨us, ?_, ?_, ?_⟩
      · simp only [dropK, dropKs, List.zip_cons_cons, List.filter_cons, e, ne_eq, not_true, decide_false]
        simpa using h3
      · simp only [dropDs, if_pos e]
        exact h4
      · simp only [dropKs, List.filter_cons, e, ne_eq, not_true, decide_false]
        simpa using h5
    · refine ⟨v' :: us, ?_, ?_, ?_⟩
      · simp only [dropK, dropKs, List.zip_cons_cons, List.filter_cons, e, ne_eq, not_false_eq_true, decide_true, if_true]
        simpa using h3
      · simp only [dropDs, if_neg e]
        exact .cons h1 h4
      · simp only [dropKs, List.filter_cons, e, ne_eq, not_false_eq_true, decide_true, if_true, List.length_cons]
        simpa using h5
end

/-! ### data as PyData -/
mutual
def toPy : D → Option PyData
  | .non => some .none
  | .bl b => some (.bool b)
  | .int i => some (.int i)
  | .str x => some (.str x)
  | .con .tup l => (toPyL l).map .tuple
  | .con .lst l => (toPyL l).map .list
  | _ => none
def toPyL : List D → Option (List PyData)
  | [] => some []
  | d :: l => match toPy d, toPyL l with
    | some p, some q => some (p :: q)
    | _, _ => none
end
section
variable {K : PySem.W.Frag} {mg : Str → Option Value} {F H : Hp} {α : List Addr} {w : Ws} {μ : Mu}
mutual
theorem toPy_rep (s : Sub F H) : ∀ (d : D) (v : V) (p : PyData), Rep K mg F α d v → toPy d = some p → Dp K H v p
  | .non, v, p, r, h => by
    simp only [Rep] at r
    simp only [toPy, Option.some.injEq] at h
    subst r h
    exact .non
  | .bl b, v, p, r, h => by
    simp only [Rep] at r
    simp only [toPy, Option.some.injEq] at h
    subst r h
    exact .bl b
  | .int i, v, p, r, h => by
    simp only [Rep] at r
    simp only [toPy, Option.some.injEq] at h
    subst r h
    exact .int i
  | .str x, v, p, r, h => by
    simp only [Rep] at r
    simp only [toPy, Option.some.injEq] at h
    subst r h
    exact .str x
  | .con .tup l, v, p, r, h => by
    simp only [Rep] at r
    obtain ⟨a, vs, rfl, h1, h2⟩ := r
    simp only [toPy, Option.map_eq_some_iff] at h
    obtain ⟨ps, h3, rfl⟩ := h
    exact .tup (SqT.of (s.hold (K := K) (mg := mg) (c := .tup) h1)) (toPyL_rep s l vs ps h2 h3)
  | .con .lst l, v, p, r, h => by
    simp only [Rep] at r
    obtain ⟨a, vs, rfl, h1, h2⟩ := r
    simp only [toPy, Option.map_eq_some_iff] at h
    obtain ⟨ps, h3, rfl⟩ := h
    exact .lst (SqL.of (s.hold (K := K) (mg := mg) (c := .lst) h1)) (toPyL_rep s l vs ps h2 h3)
  | .con .scr l, v, p, r, h => by simp [toPy] at h
  | .con .ctup l, v, p, r, h => by simp [toPy] at h
  | .con (.dK _) l, v, p, r, h => by simp [toPy] at h
  | .con (.dT _) l, v, p, r, h => by simp [toPy] at h
  | .con (.ins _ _) l, v, p, r, h => by simp [toPy] at h
  | .fn _, v, p, r, h => by simp [toPy] at h
  | .ptr _, v, p, r, h => by simp [toPy] at h
theorem toPyL_rep (s : Sub F H) : ∀ (l : List D) (vs : List V) (ps : List PyData), RepL K mg F α l vs → toPyL l = some ps → DpAll K H vs ps
  | [], vs, ps, r, h => by
    simp only [RepL] at r
    simp only [toPyL, Option.some.injEq] at h
    subst r h
    exact .nil
  | d :: l, vs, ps, r, h => by
    simp only [RepL] at r
    obtain ⟨v, r', rfl, h1, h2⟩ := r
    simp only [toPyL] at h
    split at h
    · rename_i p q e1 e2
      cases h
      exact .cons (toPy_rep s d v p h1 e1) (toPyL_rep s l r' q h2 e2)
    · cases h
end
/-- a handle's list as data -/
theorem StOk.py (s : StOk K mg w μ) {d : D} {v : V} {p : PyData} (r : Rep K mg w.F w.α d v) (h : toPy (view μ d) = some p) : Dp K w.H v p := by
  cases e : view μ d with
  | con c l =>
    rw [e] at h
    obtain ⟨a, vs, rfl, h1, h2⟩ := s.read r e
    cases c with
    | tup =>
      simp only [toPy, Option.map_eq_some_iff] at h
      obtain ⟨ps, h3, rfl⟩ := h
      exact .tup (SqT.of h1) (toPyL_rep s.sub l vs ps h2 h3)
    | lst =>
      simp only [toPy, Option.map_eq_some_iff] at h
      obtain ⟨ps, h3, rfl⟩ := h
      exact .lst (SqL.of h1) (toPyL_rep s.sub l vs ps h2 h3)
    | _ => simp [toPy] at h
  | ptr k =>
    rw [e] at h
    simp [toPy] at h
  | fn f =>
    rw [e] at h
    simp [toPy] at h
  | non =>
    have : d = .non := by
      cases d <;> first | rfl | (simp [view] at e; done) | (simp only [view] at e; split at e <;> cases e)
    subst this
    rw [e] at h
    exact toPy_rep s.sub _ _ _ r h
  | bl b =>
    have : d = .bl b := by
      cases d <;> first | (simp only [view] at e; exact e) | (simp only [view] at e; split at e <;> cases e)
    subst this
    rw [e] at h
    exact toPy_rep s.sub _ _ _ r h
  | int i =>
    have : d = .int i := by
      cases d <;> first | (simp only [view] at e; exact e) | (simp only [view] at e; split at e <;> cases e)
    subst this
    rw [e] at h
    exact toPy_rep s.sub _ _ _ r h
  | str x =>
    have : d = .str x := by
      cases d <;> first | (simp only [view] at e; exact e) | (simp only [view] at e; split at e <;> cases e)
    subst this
    rw [e] at h
    exact toPy_rep s.sub _ _ _ r h
end
end MP

namespace MP
open PySem PySem.Spec L2
variable [Tb]

theorem OpR.or' {X : Cx} {f : Value → Value → Sem Value} {r r' : R2} (h : OpR X f r) (h' : OpR X f r') : OpR X f (fun x y H Q => r x y H Q ∨ r' x y H Q) := OpR.or h h'

section
variable {X : Cx}
section
variable {K : PySem.W.Frag} {mg : Str → Option Value} {w : Ws} {μ : Mu} {F : Hp} {α : List Addr}
theorem view_int {d : D} {i : Int} {v : V} (e : view μ d = .int i) (r : Rep K mg F α d v) : v = .int i := by
  cases d with
  | int j =>
    have e' : D.int j = .int i := e
    cases e'
    simp only [Rep] at r
    exact r
  | ptr k =>
    simp only [view] at e
    split at e <;> cases e
  | _ => exact nomatch e
theorem view_str {d : D} {i : Str} {v : V} (e : view μ d = .str i) (r : Rep K mg F α d v) : v = .str i := by
  cases d with
  | str j =>
    have e' : D.str j = .str i := e
    cases e'
    simp only [Rep] at r
    exact r
  | ptr k =>
    simp only [view] at e
    split at e <;> cases e
  | _ => exact nomatch e
theorem view_bl {d : D} {i : Bool} {v : V} (e : view μ d = .bl i) (r : Rep K mg F α d v) : v = .bl i := by
  cases d with
  | bl j =>
    have e' : D.bl j = .bl i := e
    cases e'
    simp only [Rep] at r
    exact r
  | ptr k =>
    simp only [view] at e
    split at e <;> cases e
  | _ => exact nomatch e
theorem view_non {d : D} {v : V} (e : view μ d = .non) (r : Rep K mg F α d v) : v = .non := by
  cases d with
  | non =>
    simp only [Rep] at r
    exact r
  | ptr k =>
    simp only [view] at e
    split at e <;> cases e
  | _ => exact nomatch e
theorem rep_int {i : Int} : Rep K mg F α (.int i) (.int i) := by simp only [Rep]
theorem rep_str {i : Str} : Rep K mg F α (.str i) (.str i) := by simp only [Rep]
theorem rep_bl {i : Bool} : Rep K mg F α (.bl i) (.bl i) := by simp only [Rep]
theorem rep_non : Rep K mg F α .non .non := by simp only [Rep]
end

/-! ### + -/
def fitL (n : Nat) : Bool := decide (n ≤ sizeLine)
def addD (μ : Mu) (x y : D) : Option D := match view μ x, view μ y with
  | .int i, .int j => some (.int (i + j))
  | .str a, .str b => if fitL (a.length + b.length) = true then some (.str (a ++ b)) else none
  | .con .lst l, .con .lst m => if fitL (l.length + m.length) = true then some (.lst (l ++ m)) else none
  | .con .tup l, .con .tup m => if fitL (l.length + m.length) = true then some (.tup (l ++ m)) else none
  | _, _ => none
def rAdd4 (K : PySem.W.Frag) : R2 := fun x y H Q => (((rI0 fun i j => .int (i + j)) x y H Q ∨ (∃ i j, x = .str i ∧ y = .str j ∧ i.length + j.length ≤ sizeLine ∧ Q (.str (i ++ j)) H)) ∨ rCat x y H Q) ∨ rCatA K x y H Q
theorem op_add4 : OpR X (binaryOp .Add) (rAdd4 X.K) := OpR.or' (OpR.or' (OpR.or' op_add op_add_str) op_cat) op_catA
theorem b2_add : B2 X (rAdd4 X.K) addD := by
  intro w μ x y d vx vy Q st hx hy e k
  unfold addD at e
  split at e
  · rename_i i j e1 e2
    cases e
    cases view_int e1 hx
    cases view_int e2 hy
    exact .inl (.inl (.inl ⟨i, j, rfl, rfl, k w _ (.refl st) rep_int⟩))
  · rename_i i j e1 e2
    split at e
    · rename_i hz
      cases e
      cases view_str e1 hx
      cases view_str e2 hy
      exact .inl (.inl (.inr ⟨i, j, rfl, rfl, of_decide_eq_true hz, k w _ (.refl st) rep_str⟩))
    · cases e
  · rename_i l m e1 e2
    split at e
    · rename_i hz
      cases e
      obtain ⟨a, vs, rfl, h1, h2⟩ := st.read hx e1
      obtain ⟨b, us, rfl, h3, h4⟩ := st.read hy e2
      refine .inl (.inr ⟨a, b, vs, us, rfl, rfl, h1, h3, ?_, fun p hp => k _ _ (st.new hp) (Rep.new (st.freshF hp) rfl (h2.append h4))⟩)
      rw [← h2.length, ← h4.length]
      exact of_decide_eq_true hz
    · cases e
  · rename_i l m e1 e2
    split at e
    · rename_i hz
      cases e
      obtain ⟨a, vs, rfl, h1, h2⟩ := st.read hx e1
      obtain ⟨b, us, rfl, h3, h4⟩ := st.read hy e2
      have nl : vs = [] → l = [] := fun z => by
        have := h2.length
        rw [z] at this
        exact List.length_eq_zero_iff.mp this
      have nm : us = [] → m = [] := fun z => by
        have := h4.length
        rw [z] at this
        exact List.length_eq_zero_iff.mp this
      have rx : Rep X.K X.mg w.F w.α x (.ref a) := hx
      -- a tuple that is returned itself: the handle is no tuple
      have self : ∀ {z : D} {n : List D} {b : Addr}, view μ z = .con .tup n → Rep X.K X.mg w.F w.α z (.ref b) → Rep X.K X.mg w.F w.α (.tup n) (.ref b) := fun {z n b} ez rz => by
        cases z with
        | ptr q =>
          simp only [view] at ez
          split at ez
          · rename_i lk c l' hk
            cases ez
            simp only [Rep] at rz
            obtain ⟨a', _, ha'⟩ := rz
            exact absurd rfl (st.own q a' _ ha' hk).2.1
          · cases ez
        | con c l' =>
          have ez' : D.con c l' = .con .tup n := ez
          cases ez'
          exact rz
        | _ => exact nomatch ez
      refine .inr ⟨a, b, vs, us, rfl, rfl, SqT.of h1, SqT.of h3, ?_, fun z => ?_, fun _ z => ?_, fun _ _ p hp => k _ _ (st.new hp) (Rep.new (st.freshF hp) rfl (h2.append h4))⟩
      · rw [← h2.length, ← h4.length]
        exact of_decide_eq_true hz
      · have := nl z
        subst this
        exact k w _ (.refl st) (self e2 hy)
      · have := nm z
        subst this
        rw [List.append_nil] at k
        exact k w _ (.refl st) (self e1 hx)
    · cases e
  · cases e

/-! ### - * // % ** << >> & -/
def intD (g : Int → Int → Option D) (μ : Mu) (x y : D) : Option D := match x, y with
  | .int i, .int j => g i j
  | _, _ => none
theorem b2_int {C : Int → Int → Prop} {g : Int → Int → V} {f : Int → Int → Option D} (h : ∀ i j d, f i j = some d → C i j ∧ ∀ F α, Rep X.K X.mg F α d (g i j)) : B2 X (rI C g) (intD f) := by
  intro w μ x y d vx vy Q st hx hy e k
  unfold intD at e
  split at e
  · rename_i i j
    simp only [Rep] at hx hy
    subst hx hy
    obtain ⟨h1, h2⟩ := h i j d e
    exact ⟨i, j, rfl, rfl, h1, k w _ (.refl st) (h2 _ _)⟩
  · cases e
theorem b2_int0 {g : Int → Int → V} {f : Int → Int → Option D} (h : ∀ i j d, f i j = some d → ∀ F α, Rep X.K X.mg F α d (g i j)) : B2 X (rI0 g) (intD f) := by
  intro w μ x y d vx vy Q st hx hy e k
  unfold intD at e
  split at e
  · rename_i i j
    simp only [Rep] at hx hy
    subst hx hy
    exact ⟨i, j, rfl, rfl, k w _ (.refl st) (h i j d e _ _)⟩
  · cases e
def subD : Mu → D → D → Option D := intD fun i j => some (.int (i - j))
theorem b2_sub : B2 X (rI0 fun i j => .int (i - j)) subD := b2_int0 fun i j d e F α => by
  cases e
  exact rep_int
def fdivD : Mu → D → D → Option D := intD fun i j => if 0 < j ∧ j < 1073741824 then some (.int (i / j)) else none
theorem b2_fdiv : B2 X (rI CDiv fun i j => .int (i / j)) fdivD := b2_int fun i j d e => by
  split at e
  · cases e
    exact ⟨by assumption, fun _ _ => rep_int⟩
  · cases e
def modD : Mu → D → D → Option D := intD fun i j => if 0 < j then some (.int (i % j)) else none
theorem b2_mod : B2 X (rI (fun _ j => 0 < j) fun i j => .int (i % j)) modD := b2_int fun i j d e => by
  split at e
  · cases e
    exact ⟨by assumption, fun _ _ => rep_int⟩
  · cases e
def powOk (i j : Int) : Bool := decide (0 ≤ j ∧ j ≤ 1000000 ∧ i.natAbs < 2 ^ 64)
def powD : Mu → D → D → Option D := intD fun i j => if powOk i j = true then some (.int (i ^ j.toNat)) else none
theorem b2_pow : B2 X (rI CPow fun i j => .int (i ^ j.toNat)) powD := b2_int fun i j d e => by
  split at e
  · rename_i h
    cases e
    exact ⟨(of_decide_eq_true h : 0 ≤ j ∧ j ≤ 1000000 ∧ i.natAbs < 2 ^ 64), fun _ _ => rep_int⟩
  · cases e
def shlD : Mu → D → D → Option D := intD fun i j => if powOk i j = true then some (.int (i * 2 ^ j.toNat)) else none
theorem b2_shl : B2 X (rI CPow fun i j => .int (i * 2 ^ j.toNat)) shlD := b2_int fun i j d e => by
  split at e
  · rename_i h
    cases e
    exact ⟨(of_decide_eq_true h : 0 ≤ j ∧ j ≤ 1000000 ∧ i.natAbs < 2 ^ 64), fun _ _ => rep_int⟩
  · cases e
def shrD : Mu → D → D → Option D := intD fun i j => if 0 ≤ j then some (.int (i / 2 ^ j.toNat)) else none
theorem b2_shr : B2 X (rI (fun _ j => 0 ≤ j) fun i j => .int (i / 2 ^ j.toNat)) shrD := b2_int fun i j d e => by
  split at e
  · cases e
    exact ⟨by assumption, fun _ _ => rep_int⟩
  · cases e
def bandD : Mu → D → D → Option D := intD fun i j => some (.int (Builtin.bitAnd i j))
theorem b2_band : B2 X (rI0 fun i j => .int (Builtin.bitAnd i j)) bandD := b2_int0 fun i j d e F α => by
  cases e
  exact rep_int
/-- ints, a text times an int, a list times an int -/
def mulOk (i j : Int) : Bool := decide ((-(2 ^ 64) < i ∧ i < 2 ^ 64) ∨ (-(2 ^ 64) < j ∧ j < 2 ^ 64))
def repS (x : Str) (n : Int) : Str := ⟨((List.replicate n.toNat x.cps.toList).flatten).toArray⟩
def mulD (μ : Mu) (x y : D) : Option D := match view μ x, view μ y with
  | .int i, .int j => if mulOk i j = true then some (.int (i * j)) else none
  | .str a, .int n => if decide (-(2 ^ 63) ≤ n) && decide (n < 2 ^ 63) && fitL (a.length * n.toNat) = true then some (.str (repS a n)) else none
  | .con .lst l, .int n => if decide (-(2 ^ 63) ≤ n) && decide (n < 2 ^ 63) && fitL (l.length * n.toNat) = true then some (.lst (List.replicate n.toNat l).flatten) else none
  | _, _ => none
theorem mul_repS (x : Str) (n : Int) : Txt.mul x n = repS x n := by
  unfold Txt.mul repS
  by_cases h1 : n < 1
  · rw [if_pos h1, show n.toNat = 0 by omega]
    rfl
  · rw [if_neg h1]
    by_cases h2 : (n == 1 || x.length == 0) = true
    · rw [if_pos h2]
      rw [Bool.or_eq_true, beq_iff_eq, beq_iff_eq] at h2
      rcases h2 with h2 | h2
      · subst h2
        show x = ⟨((List.replicate 1 x.cps.toList).flatten).toArray⟩
        simp
      · have e : x.cps.toList = [] := by
          have : x.cps.toList.length = 0 := by
            rw [Array.length_toList]
            exact h2
          exact List.length_eq_zero_iff.mp this
        have ex : x = ⟨#[]⟩ := by
          cases x with
          | mk c =>
            have : c.toList = [] := e
            have : c = #[] := by simpa using this
            rw [this]
        rw [e, ex]
        simp
    · rw [if_neg h2]
      congr 1
      have gen : ∀ (k : Nat) (acc : Array Nat), (List.replicate k x.cps).foldl (· ++ ·) acc = (acc.toList ++ (List.replicate k x.cps.toList).flatten).toArray := by
        intro k
        induction k with
        | zero => intro acc; simp
        | succ k ih =>
          intro acc
          rw [List.replicate_succ, List.foldl_cons, ih, List.replicate_succ, List.flatten_cons]
          simp
      rw [gen]
      simp
def rMulS : R2 := fun x y H Q => ∃ a n, x = .str a ∧ y = .int n ∧ -(2 ^ 63) ≤ n ∧ n < 2 ^ 63 ∧ a.length * n.toNat ≤ sizeLine ∧ Q (.str (repS a n)) H
theorem op_mulS : OpR X (binaryOp .Mult) rMulS := by
  intro pins s σ H x y v u Q I rx ry h
  obtain ⟨a, n, rfl, rfl, h1, h2, h3, q⟩ := h
  obtain ⟨t, rfl⟩ := rx
  obtain ⟨t', rfl⟩ := ry
  have hz : a.length * n.toNat ≤ 16777216 := by
    rw [← sizeLine_eq]
    exact h3
  refine PySem.SB.mul ?_ fun t'' k => ?_
  · refine ⟨?_, fun h4 h5 => ?_, fun h4 h5 => ?_⟩
    · have a1 : ¬ n < -(2 ^ 63 : Int) := by omega
      have a2 : ¬ n ≥ (2 ^ 63 : Int) := by omega
      rw [decide_eq_false a1, decide_eq_false a2]
      rfl
    · have hpos : 0 < n := by omega
      have e : ((a.length * n.toNat : Nat) : Int) = (a.length : Int) * n := by
        rw [Int.natCast_mul, Int.toNat_of_nonneg (by omega)]
      have h6 : (a.length : Int) * n ≤ 2 ^ 63 - 1 := by
        rw [← e]
        omega
      have h7 : (a.length : Int) ≤ (2 ^ 63 - 1) / n := (Int.le_ediv_iff_mul_le hpos).mpr h6
      omega
    · unfold Builtin.Str.tooLong
      first
        | exact decide_eq_false (by omega)
        | (simp; omega)
  · rw [mul_repS]
    exact ⟨.str (repS a n), H, I.tok k, ⟨t'', rfl⟩, q⟩
def rMul3 : R2 := fun x y H Q => ((rI CMul fun i j => .int (i * j)) x y H Q ∨ rMulS x y H Q) ∨ rRep x y H Q
theorem op_mul3 : OpR X (binaryOp .Mult) rMul3 := OpR.or' (OpR.or' op_mul op_mulS) op_rep
theorem b2_mul : B2 X rMul3 mulD := by
  intro w μ x y d vx vy Q st hx hy e k
  unfold mulD at e
  split at e
  · rename_i i j e1 e2
    split at e
    · rename_i hz
      cases e
      cases view_int e1 hx
      cases view_int e2 hy
      exact .inl (.inl ⟨i, j, rfl, rfl, (of_decide_eq_true hz : (-(2 ^ 64) < i ∧ i < 2 ^ 64) ∨ (-(2 ^ 64) < j ∧ j < 2 ^ 64)), k w _ (.refl st) rep_int⟩)
    · cases e
  · rename_i a n e1 e2
    split at e
    · rename_i hz
      cases e
      cases view_str e1 hx
      cases view_int e2 hy
      simp only [Bool.and_eq_true, decide_eq_true_eq] at hz
      exact .inl (.inr ⟨a, n, rfl, rfl, hz.1.1, hz.1.2, of_decide_eq_true hz.2, k w _ (.refl st) rep_str⟩)
    · cases e
  · rename_i l n e1 e2
    split at e
    · rename_i hz
      cases e
      obtain ⟨a, vs, rfl, h1, h2⟩ := st.read hx e1
      cases view_int e2 hy
      simp only [Bool.and_eq_true, decide_eq_true_eq] at hz
      refine .inr ⟨a, n, vs, rfl, rfl, h1, hz.1.1, hz.1.2, ?_, fun p hp => k _ _ (st.new hp) (Rep.new (st.freshF hp) rfl ?_)⟩
      · rw [← h2.length]
        exact of_decide_eq_true hz.2
      · have rep : ∀ m : Nat, RepL X.K X.mg w.F w.α (List.replicate m l).flatten (List.replicate m vs).flatten := by
          intro m
          induction m with
          | zero => exact .nil
          | succ m ih =>
            rw [List.replicate_succ, List.replicate_succ, List.flatten_cons, List.flatten_cons]
            exact h2.append ih
        exact rep _
    · cases e
  · cases e
def negD (μ : Mu) (x : D) : Option D := match x with
  | .int i => some (.int (-i))
  | _ => none
theorem u1_neg : U1 X (rU fun i => .int (-i)) negD := by
  intro w μ x d vx Q st hx e k
  unfold negD at e
  split at e
  · rename_i i
    cases e
    simp only [Rep] at hx
    subst hx
    exact ⟨i, rfl, k w _ (.refl st) rep_int⟩
  · cases e
end
end MP

namespace MP
open PySem PySem.Spec L2
variable [Tb]
section
variable {X : Cx}
/-! ### == != -/
def scalD : D → D → Option Bool
  | .non, .non => some true
  | .non, .int _ => some false
  | .int _, .non => some false
  | .non, .bl _ => some false
  | .bl _, .non => some false
  | .non, .str _ => some false
  | .str _, .non => some false
  | .int i, .int j => some (decide (i = j))
  | .bl a, .bl b => some (decide (a = b))
  | .str a, .str b => some (decide (a = b))
  | .int _, .str _ => some false
  | .str _, .int _ => some false
  | .bl _, .str _ => some false
  | .str _, .bl _ => some false
  | _, _ => none
def eqB (μ : Mu) (x y : D) : Option Bool := match scalD x y with
  | some b => some b
  | none => match toPy (view μ x), toPy (view μ y) with
    | some p, some q => if (SeqAt.shaped p && SeqAt.shaped q) = true then some (PyData.eqv p q) else none
    | _, _ => none
def eqD (μ : Mu) (x y : D) : Option D := (eqB μ x y).map .bl
def neD (μ : Mu) (x y : D) : Option D := (eqB μ x y).map fun b => .bl (!b)
theorem scalD_rep {K : PySem.W.Frag} {mg : Str → Option Value} {F : Hp} {α : List Addr} {x y : D} {vx vy : V} {b : Bool} (e : scalD x y = some b) (hx : Rep K mg F α x vx) (hy : Rep K mg F α y vy) : scal vx vy = true ∧ decide (vx = vy) = b := by
  unfold scalD at e
  split at e <;> first | (cases e; simp only [Rep] at hx hy; subst hx hy; exact ⟨rfl, by simp⟩) | cases e
def rEq2 (K : PySem.W.Frag) : R2 := fun x y H Q => rEq x y H Q ∨ rEqD K x y H Q
def rNe2 (K : PySem.W.Frag) : R2 := fun x y H Q => rNe x y H Q ∨ rNeD K x y H Q
theorem op_eq2 (hu : X.A.units + 64 < cLine) : OpR X (compareOp .Eq) (rEq2 X.K) := OpR.or' op_eq (op_eqD hu)
theorem op_ne2 (hu : X.A.units + 64 < cLine) : OpR X (compareOp .NotEq) (rNe2 X.K) := OpR.or' op_ne (op_neD hu)
theorem b2_eq : B2 X (rEq2 X.K) eqD := by
  intro w μ x y d vx vy Q st hx hy e k
  unfold eqD at e
  obtain ⟨b, e0, e1⟩ := Option.map_eq_some_iff.mp e
  subst e1
  clear e
  have e := e0
  clear e0
  unfold eqB at e
  split at e
  · rename_i b' e'
    cases e
    obtain ⟨h1, h2⟩ := scalD_rep e' hx hy
    exact .inl ⟨h1, by rw [h2]; exact k w _ (.refl st) rep_bl⟩
  · split at e
    · rename_i p q e1 e2
      split at e
      · rename_i hs
        cases e
        rw [Bool.and_eq_true] at hs
        exact .inr ⟨p, q, st.py hx e1, st.py hy e2, hs.1, hs.2, k w _ (.refl st) rep_bl⟩
      · cases e
    · cases e
theorem b2_ne : B2 X (rNe2 X.K) neD := by
  intro w μ x y d vx vy Q st hx hy e k
  unfold neD at e
  obtain ⟨b, e0, e1⟩ := Option.map_eq_some_iff.mp e
  subst e1
  clear e
  have e := e0
  clear e0
  unfold eqB at e
  split at e
  · rename_i b' e'
    cases e
    obtain ⟨h1, h2⟩ := scalD_rep e' hx hy
    exact .inl ⟨h1, by rw [h2]; exact k w _ (.refl st) rep_bl⟩
  · split at e
    · rename_i p q e1 e2
      split at e
      · rename_i hs
        cases e
        rw [Bool.and_eq_true] at hs
        exact .inr ⟨p, q, st.py hx e1, st.py hy e2, hs.1, hs.2, k w _ (.refl st) rep_bl⟩
      · cases e
    · cases e
/-! ### < <= > >= -/
def strLt (a b : Str) : Bool := decide (a.cps.toList < b.cps.toList)
def ordD (f : Int → Int → Bool) (g : Str → Str → Bool) (_ : Mu) (x y : D) : Option D := match x, y with
  | .int i, .int j => some (.bl (f i j))
  | .str a, .str b => some (.bl (g a b))
  | _, _ => none
def rOrd (f : Int → Int → Bool) (g : Str → Str → Bool) : R2 := fun x y H Q => (rI0 fun i j => .bl (f i j)) x y H Q ∨ ∃ i j, x = .str i ∧ y = .str j ∧ Q (.bl (g i j)) H
theorem b2_ord (f : Int → Int → Bool) (g : Str → Str → Bool) : B2 X (rOrd f g) (ordD f g) := by
  intro w μ x y d vx vy Q st hx hy e k
  unfold ordD at e
  split at e
  · cases e
    simp only [Rep] at hx hy
    subst hx hy
    exact .inl ⟨_, _, rfl, rfl, k w _ (.refl st) rep_bl⟩
  · cases e
    simp only [Rep] at hx hy
    subst hx hy
    exact .inr ⟨_, _, rfl, rfl, k w _ (.refl st) rep_bl⟩
  · cases e
abbrev ltD := ordD (fun i j => decide (i < j)) strLt
abbrev leD := ordD (fun i j => decide (i ≤ j)) fun a b => !strLt b a
abbrev gtD := ordD (fun i j => decide (j < i)) fun a b => strLt b a
abbrev geD := ordD (fun i j => decide (j ≤ i)) fun a b => !strLt a b
theorem op_ltQ : OpR X (compareOp .Lt) (rOrd (fun i j => decide (i < j)) strLt) := OpR.or' op_lt op_lt_str
theorem op_leQ : OpR X (compareOp .LtE) (rOrd (fun i j => decide (i ≤ j)) fun a b => !strLt b a) := OpR.or' op_le op_le_str
theorem op_gtQ : OpR X (compareOp .Gt) (rOrd (fun i j => decide (j < i)) fun a b => strLt b a) := OpR.or' op_gt op_gt_str
theorem op_geQ : OpR X (compareOp .GtE) (rOrd (fun i j => decide (j ≤ i)) fun a b => !strLt a b) := OpR.or' op_ge op_ge_str
/-! ### is None -/
def isNonD : D → Bool
  | .non => true
  | _ => false
theorem isNon_rep {K : PySem.W.Frag} {mg : Str → Option Value} {F : Hp} {α : List Addr} {x : D} {v : V} (h : Rep K mg F α x v) : decide (v = .non) = isNonD x := by
  cases x with
  | non =>
    simp only [Rep] at h
    subst h
    rfl
  | bl b =>
    simp only [Rep] at h
    subst h
    rfl
  | int b =>
    simp only [Rep] at h
    subst h
    rfl
  | str b =>
    simp only [Rep] at h
    subst h
    rfl
  | fn f =>
    simp only [Rep] at h
    obtain ⟨a, rfl, _⟩ := h
    rfl
  | ptr f =>
    simp only [Rep] at h
    obtain ⟨a, rfl, _⟩ := h
    rfl
  | con c l =>
    simp only [Rep] at h
    obtain ⟨a, vs, rfl, _⟩ := h
    rfl
def isD (_ : Mu) (x y : D) : Option D := match y with
  | .non => some (.bl (isNonD x))
  | _ => none
def isntD (_ : Mu) (x y : D) : Option D := match y with
  | .non => some (.bl (!isNonD x))
  | _ => none
theorem b2_is : B2 X (fun x y H Q => y = .non ∧ Q (.bl (decide (x = .non))) H) isD := by
  intro w μ x y d vx vy Q st hx hy e k
  unfold isD at e
  split at e
  · cases e
    simp only [Rep] at hy
    subst hy
    exact ⟨rfl, by rw [isNon_rep hx]; exact k w _ (.refl st) rep_bl⟩
  · cases e
theorem b2_isnt : B2 X (fun x y H Q => y = .non ∧ Q (.bl (!decide (x = .non))) H) isntD := by
  intro w μ x y d vx vy Q st hx hy e k
  unfold isntD at e
  split at e
  · cases e
    simp only [Rep] at hy
    subst hy
    exact ⟨rfl, by rw [isNon_rep hx]; exact k w _ (.refl st) rep_bl⟩
  · cases e
/-! ### in -/
def flatD : D → Option V
  | .non => some .non
  | .bl b => some (.bl b)
  | .int i => some (.int i)
  | .str x => some (.str x)
  | _ => none
def flatsD : List D → Option (List V)
  | [] => some []
  | d :: l => match flatD d, flatsD l with
    | some v, some vs => some (v :: vs)
    | _, _ => none
theorem flatD_rep {K : PySem.W.Frag} {mg : Str → Option Value} {F : Hp} {α : List Addr} {x : D} {v u : V} (e : flatD x = some u) (h : Rep K mg F α x v) : v = u ∧ flatV u = true := by
  cases x <;> first | (cases e; simp only [Rep] at h; exact ⟨h, rfl⟩) | cases e
theorem flatsD_rep {K : PySem.W.Frag} {mg : Str → Option Value} {F : Hp} {α : List Addr} : ∀ {l : List D} {vs us : List V}, flatsD l = some us → RepL K mg F α l vs → vs = us ∧ us.all flatV = true
  | [], vs, us, e, h => by
    cases e
    simp only [RepL] at h
    exact ⟨h, rfl⟩
  | d :: l, vs, us, e, h => by
    simp only [RepL] at h
    obtain ⟨v, r, rfl, h1, h2⟩ := h
    unfold flatsD at e
    split at e
    · rename_i a b e1 e2
      cases e
      obtain ⟨q1, q2⟩ := flatD_rep e1 h1
      obtain ⟨q3, q4⟩ := flatsD_rep e2 h2
      exact ⟨by rw [q1, q3], by simp [q2, q4]⟩
    · cases e
def inB (μ : Mu) (x y : D) : Option Bool := match view μ y with
  | .str z => match x with
    | .str c => match c.cps.toList with
      | [k] => some (decide (k ∈ z.cps.toList))
      | _ => none
    | _ => none
  | .con .lst l => match toPy (view μ x), toPyL l with
    | some p, some ps => if (SeqAt.shaped p && SeqAt.shaped (.list ps)) = true then some (ps.any fun z => PyData.eqv z p) else none
    | _, _ => none
  | .con .tup l => match flatD x, flatsD l with
    | some v, some vs => some (inV v vs)
    | _, _ => none
  | .con .ctup l => match flatD x, flatsD l with
    | some v, some vs => some (inV v vs)
    | _, _ => none
  | .con (.dK ks) l => match keyD x with
    | some k => some (findD ks l k).isSome
    | none => none
  | _ => none
def inD (μ : Mu) (x y : D) : Option D := (inB μ x y).map .bl
def ninD (μ : Mu) (x y : D) : Option D := (inB μ x y).map fun b => .bl (!b)
def rInDct : R2 := fun y x H Q => ∃ a o, x = .ref a ∧ DGet H a y o ∧ Q (.bl o.isSome) H
def rNinDct : R2 := fun y x H Q => ∃ a o, x = .ref a ∧ DGet H a y o ∧ Q (.bl (!o.isSome)) H
theorem op_inDct (hu : X.A.units + 1 < cLine) : OpR X (compareOp .In) rInDct := by
  intro pins s σ H x y v u Q I rx ry h
  obtain ⟨a, o, rfl, g, q⟩ := h
  cases ry
  exact d_in hu I g rx fun s3 I3 => ⟨.bl o.isSome, H, I3, rfl, q⟩
theorem op_ninDct (hu : X.A.units + 1 < cLine) : OpR X (compareOp .NotIn) rNinDct := by
  intro pins s σ H x y v u Q I rx ry h
  obtain ⟨a, o, rfl, g, q⟩ := h
  cases ry
  exact d_notIn hu I g rx fun s3 I3 => ⟨.bl (!o.isSome), H, I3, rfl, q⟩
def rIn4 (K : PySem.W.Frag) : R2 := fun x y H Q => (((∃ (c : Nat) (z : Str), x = .str ⟨#[c]⟩ ∧ y = .str z ∧ Q (.bl (decide (c ∈ z.cps.toList))) H) ∨ rInD K x y H Q) ∨ rIn K false x y H Q) ∨ rInDct x y H Q
def rNin4 (K : PySem.W.Frag) : R2 := fun x y H Q => (((∃ (c : Nat) (z : Str), x = .str ⟨#[c]⟩ ∧ y = .str z ∧ Q (.bl (!decide (c ∈ z.cps.toList))) H) ∨ rNotInD K x y H Q) ∨ rIn K true x y H Q) ∨ rNinDct x y H Q
theorem op_in4 (hu : X.A.units + 65 < cLine) : OpR X (compareOp .In) (rIn4 X.K) := OpR.or' (OpR.or' (OpR.or' op_in_sign (op_inD hu)) op_in_seq) (op_inDct (by omega))
theorem op_nin4 (hu : X.A.units + 65 < cLine) : OpR X (compareOp .NotIn) (rNin4 X.K) := OpR.or' (OpR.or' (OpR.or' op_notIn_sign (op_notInD hu)) op_notIn_seq) (op_ninDct (by omega))
theorem one_sign {c : Str} {k : Nat} (h : c.cps.toList = [k]) : c = ⟨#[k]⟩ := by
  cases c with
  | mk a =>
    have h' : a.toList = [k] := h
    have : a = #[k] := by
      apply Array.toList_inj.mp
      rw [h']
    rw [this]
theorem inB_rep {w : Ws} {μ : Mu} {x y : D} {vx vy : V} {b : Bool} (st : StOk X.K X.mg w μ) (hx : Rep X.K X.mg w.F w.α x vx) (hy : Rep X.K X.mg w.F w.α y vy) (e : inB μ x y = some b) :
    (∃ (c : Nat) (z : Str), vx = .str ⟨#[c]⟩ ∧ vy = .str z ∧ decide (c ∈ z.cps.toList) = b) ∨
    (∃ d ds, Dp X.K w.H vx d ∧ Dp X.K w.H vy (.list ds) ∧ SeqAt.shaped d = true ∧ SeqAt.shaped (.list ds) = true ∧ (ds.any fun z => PyData.eqv z d) = b) ∨
    (∃ p xs, vy = .ref p ∧ (SqL X.K w.H p xs ∨ SqT X.K w.H p xs) ∧ flatV vx = true ∧ xs.all flatV = true ∧ inV vx xs = b) ∨
    ∃ a o, vy = .ref a ∧ DGet w.H a vx o ∧ o.isSome = b := by
  unfold inB at e
  split at e
  · rename_i z e1
    split at e
    · rename_i c
      split at e
      · rename_i k e3
        cases e
        cases view_str e1 hy
        simp only [Rep] at hx
        subst hx
        exact .inl ⟨k, z, by rw [one_sign e3], rfl, rfl⟩
      · cases e
    · cases e
  · rename_i l e1
    split at e
    · rename_i p ps e2 e3
      split at e
      · rename_i hs
        cases e
        rw [Bool.and_eq_true] at hs
        refine .inr (.inl ⟨p, ps, st.py hx e2, st.py hy (p := .list ps) ?_, hs.1, hs.2, rfl⟩)
        rw [e1]
        simp [toPy, e3]
      · cases e
    · cases e
  · rename_i l e1
    split at e
    · rename_i v vs e2 e3
      cases e
      obtain ⟨a, us, rfl, h1, h2⟩ := st.read hy e1
      obtain ⟨rfl, f1⟩ := flatD_rep e2 hx
      obtain ⟨rfl, f2⟩ := flatsD_rep e3 h2
      exact .inr (.inr (.inl ⟨a, _, rfl, .inr (SqT.of h1), f1, f2, rfl⟩))
    · cases e
  · rename_i l e1
    split at e
    · rename_i v vs e2 e3
      cases e
      obtain ⟨a, us, rfl, h1, h2⟩ := st.read hy e1
      obtain ⟨rfl, f1⟩ := flatD_rep e2 hx
      obtain ⟨rfl, f2⟩ := flatsD_rep e3 h2
      exact .inr (.inr (.inl ⟨a, _, rfl, .inr h1, f1, f2, rfl⟩))
    · cases e
  · rename_i ks l e1
    split at e
    · rename_i k e2
      cases e
      obtain ⟨a, us, rfl, h1, h2⟩ := st.read hy e1
      refine .inr (.inr (.inr ⟨a, valV (ks.zip us) k, rfl, .inl ⟨_, k, h1.2, keyD_rep e2 hx, rfl⟩, findD_isSome h2⟩))
    · cases e
  · cases e
theorem b2_in : B2 X (rIn4 X.K) inD := by
  intro w μ x y d vx vy Q st hx hy e k
  unfold inD at e
  obtain ⟨b, e0, e1⟩ := Option.map_eq_some_iff.mp e
  subst e1
  clear e
  have e := e0
  clear e0
  have q := k w (.bl b) (.refl st) rep_bl
  rcases inB_rep st hx hy e with ⟨c, z, h1, h2, h3⟩ | ⟨d, ds, h1, h2, h3, h4, h5⟩ | ⟨p, xs, h1, h2, h3, h4, h5⟩ | ⟨a, o, h1, h2, h3⟩
  · exact .inl (.inl (.inl ⟨c, z, h1, h2, by rw [h3]; exact q⟩))
  · exact .inl (.inl (.inr ⟨d, ds, h1, h2, h3, h4, by rw [h5]; exact q⟩))
  · refine .inl (.inr ⟨p, xs, h1, h2, h3, h4, ?_⟩)
    rw [if_neg (by decide), h5]
    exact q
  · exact .inr ⟨a, o, h1, h2, by rw [h3]; exact q⟩
theorem b2_nin : B2 X (rNin4 X.K) ninD := by
  intro w μ x y d vx vy Q st hx hy e k
  unfold ninD at e
  obtain ⟨b, e0, e1⟩ := Option.map_eq_some_iff.mp e
  subst e1
  clear e
  have e := e0
  clear e0
  have q := k w (.bl (!b)) (.refl st) rep_bl
  rcases inB_rep st hx hy e with ⟨c, z, h1, h2, h3⟩ | ⟨d, ds, h1, h2, h3, h4, h5⟩ | ⟨p, xs, h1, h2, h3, h4, h5⟩ | ⟨a, o, h1, h2, h3⟩
  · exact .inl (.inl (.inl ⟨c, z, h1, h2, by rw [h3]; exact q⟩))
  · exact .inl (.inl (.inr ⟨d, ds, h1, h2, h3, h4, by rw [h5]; exact q⟩))
  · refine .inl (.inr ⟨p, xs, h1, h2, h3, h4, ?_⟩)
    rw [if_pos (by decide), h5]
    exact q
  · exact .inr ⟨a, o, h1, h2, by rw [h3]; exact q⟩
/-! ### a[b] -/
def ixD (μ : Mu) (x y : D) : Option D := match view μ x with
  | .con .lst l => match y with
    | .int i => atI l i
    | _ => none
  | .con .scr l => match y with
    | .int i => atI l i
    | _ => none
  | .con .tup l => match y with
    | .int i => atI l i
    | _ => none
  | .con .ctup l => match y with
    | .int i => atI l i
    | _ => none
  | .str z => match y with
    | .int i => if fitL z.length = true then (atI z.cps.toList i).map fun c => .str ⟨#[c]⟩ else none
    | _ => none
  | .con (.dK ks) l => match keyD y with
    | some k => findD ks l k
    | none => none
  | .con (.dT ks) l => match y with
    | .con .tup m => match keysD m with
      | some k => findD ks l k
      | none => none
    | _ => none
  | _ => none
def rIxDct : R2 := fun x y H Q => ∃ a v, x = .ref a ∧ DGet H a y (some v) ∧ Q v H
theorem ix_dct (hu : X.A.units + 1 < cLine) : IxR X rIxDct := by
  intro value slice pins s σ H x y v u Q I rx ry h hs
  obtain ⟨a, z, rfl, g, q⟩ := h
  cases rx
  unfold PyProof.Rows.subscriptTail
  refine wpAny_bind ?_
  have hT := dict_typeIs I g
  rw [getitemInPython_of_ne hT.not_modules]
  refine wpAny_bind (wpAny_specialOf hT PySem.F.slot_dict_getitem.lookup ?_)
  have fin : wpAny (model X.prog X.w) X.A (subscripted slice false (.ref a) u) (fun r s₃ => wpAny (model X.prog X.w) X.A (letTemporaryGo value (.ref a) r >>= fun _ => pure r) (EP X pins σ Q) X.xe s₃) X.xe s := by
    rw [hs]
    exact wpAny_operating (d_getItem hu I g ry fun w' s3 I3 rw' => wpAny_bind (wpAny_letTemporaryGo (wpAny_pure ⟨z, H, I3, rw', q⟩)))
  first
    | exact wpAny_pure (wpAny_bind fin)
    | exact wpAny_bind (wpAny_pure (wpAny_bind fin))
    | exact wpAny_bind fin
def rIx4 (K : PySem.W.Frag) : R2 := fun x y H Q => rIx K x y H Q ∨ rIxDct x y H Q
theorem ix_4 (hu : X.A.units + 1 < cLine) : IxR X (rIx4 X.K) := IxR.or ix_seq (ix_dct hu)
theorem atI_rep {K : PySem.W.Frag} {mg : Str → Option Value} {F : Hp} {α : List Addr} {l : List D} {vs : List V} {i : Int} {d : D} (r : RepL K mg F α l vs) (e : atI l i = some d) : ∃ v, atI vs i = some v ∧ Rep K mg F α d v := by
  unfold atI at e ⊢
  obtain ⟨j, h1, h2⟩ := Option.bind_eq_some_iff.mp e
  obtain ⟨v, h3, h4⟩ := r.get h2
  exact ⟨v, by rw [← r.length, h1]; exact h3, h4⟩
theorem b2_ix : B2 X (rIx4 X.K) ixD := by
  intro w μ x y d vx vy Q st hx hy e k
  unfold ixD at e
  split at e
  · rename_i l e1
    split at e
    · rename_i i
      obtain ⟨a, vs, rfl, h1, h2⟩ := st.read hx e1
      obtain ⟨v, h3, h4⟩ := atI_rep h2 e
      simp only [Rep] at hy
      exact .inl (.inl ⟨a, vs, i, v, rfl, hy, SqL.of h1, h3, k w _ (.refl st) h4⟩)
    · cases e
  · rename_i l e1
    split at e
    · rename_i i
      obtain ⟨a, vs, rfl, h1, h2⟩ := st.read hx e1
      obtain ⟨v, h3, h4⟩ := atI_rep h2 e
      simp only [Rep] at hy
      exact .inl (.inl ⟨a, vs, i, v, rfl, hy, h1, h3, k w _ (.refl st) h4⟩)
    · cases e
  · rename_i l e1
    split at e
    · rename_i i
      obtain ⟨a, vs, rfl, h1, h2⟩ := st.read hx e1
      obtain ⟨v, h3, h4⟩ := atI_rep h2 e
      simp only [Rep] at hy
      exact .inl (.inr (.inl ⟨a, vs, i, v, rfl, hy, SqT.of h1, h3, k w _ (.refl st) h4⟩))
    · cases e
  · rename_i l e1
    split at e
    · rename_i i
      obtain ⟨a, vs, rfl, h1, h2⟩ := st.read hx e1
      obtain ⟨v, h3, h4⟩ := atI_rep h2 e
      simp only [Rep] at hy
      exact .inl (.inr (.inl ⟨a, vs, i, v, rfl, hy, h1, h3, k w _ (.refl st) h4⟩))
    · cases e
  · rename_i z e1
    split at e
    · rename_i i
      split at e
      · rename_i hz
        obtain ⟨c, h1, rfl⟩ := Option.map_eq_some_iff.mp e
        cases view_str e1 hx
        simp only [Rep] at hy
        exact .inl (.inr (.inr ⟨z, i, c, rfl, hy, of_decide_eq_true hz, h1, k w _ (.refl st) rep_str⟩))
      · cases e
    · cases e
  · rename_i ks l e1
    split at e
    · rename_i key e2
      obtain ⟨a, vs, rfl, h1, h2⟩ := st.read hx e1
      obtain ⟨v, h3, h4⟩ := findD_rep h2 e
      exact .inr ⟨a, v, rfl, .inl ⟨_, key, h1.2, keyD_rep e2 hy, h3.symm⟩, k w _ (.refl st) h4⟩
    · cases e
  · rename_i ks l e1
    split at e
    · rename_i m
      split at e
      · rename_i key e2
        obtain ⟨a, vs, rfl, h1, h2⟩ := st.read hx e1
        obtain ⟨v, h3, h4⟩ := findD_rep h2 e
        obtain ⟨b, us, rfl, h5, h6⟩ := st.read (c := .tup) (l := m) hy rfl
        have e3 := keysD_rep e2 h6
        subst e3
        exact .inr ⟨a, v, rfl, .inr ⟨_, key, b, h1.2, rfl, h5, h3.symm⟩, k w _ (.refl st) h4⟩
      · cases e
    · cases e
  · cases e
end
end MP

namespace MP
open PySem PySem.Spec L2
variable [Tb]
section
variable {X : Cx} {E : XK}
abbrev PDW (X : Cx) (E : XK) (e : Expr) (m : MT) : Prop := PW X e (tT X.K X.mg E m)
/-! ### tests -/
def truD (μ : Mu) (d : D) : Option Bool := match view μ d with
  | .non => some false
  | .bl b => some b
  | .int i => some (i != 0)
  | .str x => if fitL x.length = true then some ((x.length : Int) != 0) else none
  | .con .lst l => some (!l.isEmpty)
  | .con .tup l => some (!l.isEmpty)
  | .con .scr l => some (!l.isEmpty)
  | _ => none
def tst (a : ME) : MT := fun ρ μ => (a ρ μ).bind fun x μ1 => lift (truD μ1 x) μ1
theorem isEmpty_rep {K : PySem.W.Frag} {mg : Str → Option Value} {F : Hp} {α : List Addr} {l : List D} {vs : List V} (r : RepL K mg F α l vs) : l.isEmpty = vs.isEmpty := by
  have := r.length
  cases l <;> cases vs <;> first | rfl | cases this
theorem truD_rep {w : Ws} {μ : Mu} {d : D} {v : V} {b : Bool} (st : StOk X.K X.mg w μ) (r : Rep X.K X.mg w.F w.α d v) (e : truD μ d = some b) : TruV X.K v w.H b := by
  unfold truD at e
  split at e
  · rename_i e1
    cases e
    cases view_non e1 r
    exact rfl
  · rename_i e1
    cases e
    cases view_bl e1 r
    exact rfl
  · rename_i e1
    cases e
    cases view_int e1 r
    exact rfl
  · rename_i e1
    split at e
    · rename_i hz
      cases e
      cases view_str e1 r
      exact ⟨of_decide_eq_true hz, rfl⟩
    · cases e
  · rename_i l e1
    cases e
    obtain ⟨a, vs, rfl, h1, h2⟩ := st.read r e1
    exact .inl ⟨vs, SqL.of h1, by rw [isEmpty_rep h2]⟩
  · rename_i l e1
    cases e
    obtain ⟨a, vs, rfl, h1, h2⟩ := st.read r e1
    exact .inr (.inl ⟨vs, SqT.of h1, by rw [isEmpty_rep h2]⟩)
  · rename_i l e1
    cases e
    obtain ⟨a, vs, rfl, h1, h2⟩ := st.read r e1
    exact .inl ⟨vs, h1, by rw [isEmpty_rep h2]⟩
  · cases e
theorem pd_tst {a : Expr} {m : ME} (ha : PDE X E a m) (he : ∀ whole, isTrue a X.env whole = (do let v ← whole; standAt a.pos; holding [v] (truthy v)) := by intro _; rfl) : PDT X E a (tst m) :=
  (pt_truth ha he).weak fun σ H Q h => by
    obtain ⟨w, μ, ρ, rfl, st, rs, p⟩ := h
    refine ⟨w, μ, ρ, rfl, st, rs, (post.bind p).mono fun x w1 μ1 n1 q => ?_⟩
    intro v hv
    obtain ⟨b, e, q⟩ := post.lift q
    exact ⟨b, truD_rep n1.st hv e, q w1 (.refl n1.st)⟩
/-- a comparison as a test -/
def tBl (a : ME) : MT := fun ρ μ => (a ρ μ).bind fun x μ1 => match x with
  | .bl b => .ok b μ1
  | _ => .stuck
theorem pd_tcmp {op : CmpOp} {r : R2} {f : Mu → D → D → Option D} {a b : Expr} {ma mb : ME} {pos : Pos} (ho : OpR X (compareOp op) r) (hf : B2 X r f) (ha : PDE X E a ma) (hb : PDE X E b mb) (hm : behindInMarks op b = false) :
    PDT X E (.Compare a [op] [b] pos) (tBl (eB2 f ma mb)) :=
  (pt_cmpR ho ha hb hm).weak fun σ H Q h => by
    obtain ⟨w, μ, ρ, rfl, st, rs, p⟩ := h
    have q : tE X.K X.mg E (eB2 f ma mb) σ w.H (fun x H' => ∃ k, x = .bl k ∧ Q k H') := by
      refine ⟨w, μ, ρ, rfl, st, rs, (post.bind p).mono fun x w1 μ1 n1 q => ?_⟩
      intro v hv
      cases x with
      | bl b =>
        simp only [Rep] at hv
        subst hv
        exact ⟨b, rfl, q w1 (.refl n1.st)⟩
      | _ => exact q.elim
    exact tG_binary hf q
def tAnd (a b : MT) : MT := fun ρ μ => (a ρ μ).bind fun c μ1 => if c = true then b ρ μ1 else .ok false μ1
def tOr (a b : MT) : MT := fun ρ μ => (a ρ μ).bind fun c μ1 => if c = true then .ok true μ1 else b ρ μ1
def tNot (a : MT) : MT := fun ρ μ => (a ρ μ).bind fun c μ1 => .ok (!c) μ1
section
variable {a b : Expr} {rest : List Expr} {ma mb : MT} {pos : Pos}
theorem pd_and1 (ha : PDT X E a ma) : PDW X E (.BoolOp .And [a] pos) ma := pw_and1 ha
theorem pd_or1 (ha : PDT X E a ma) : PDW X E (.BoolOp .Or [a] pos) ma := pw_or1 ha
theorem pd_and (ha : PDT X E a ma) (hb : PDW X E (.BoolOp .And (b :: rest) pos) mb) : PDW X E (.BoolOp .And (a :: b :: rest) pos) (tAnd ma mb) :=
  (pw_and ha hb).weak fun σ H Q h => by
    obtain ⟨w, μ, ρ, rfl, st, rs, p⟩ := h
    refine ⟨w, μ, ρ, rfl, st, rs, (post.bind p).mono fun x w1 μ1 n1 q => ?_⟩
    cases x with
    | true => exact ⟨w1, μ1, ρ, rfl, n1.st, rs.mono n1.ext n1.pre, q⟩
    | false => exact q w1 (.refl n1.st)
theorem pd_or (ha : PDT X E a ma) (hb : PDW X E (.BoolOp .Or (b :: rest) pos) mb) : PDW X E (.BoolOp .Or (a :: b :: rest) pos) (tOr ma mb) :=
  (pw_or ha hb).weak fun σ H Q h => by
    obtain ⟨w, μ, ρ, rfl, st, rs, p⟩ := h
    refine ⟨w, μ, ρ, rfl, st, rs, (post.bind p).mono fun x w1 μ1 n1 q => ?_⟩
    cases x with
    | false => exact ⟨w1, μ1, ρ, rfl, n1.st, rs.mono n1.ext n1.pre, q⟩
    | true => exact q w1 (.refl n1.st)
theorem pd_pw (h : PDW X E a ma) : PDT X E a ma := h.pt
theorem pd_not (ha : PDT X E a ma) : PDT X E (.UnaryOp .Not a pos) (tNot ma) :=
  (pt_not ha).weak fun σ H Q h => by
    obtain ⟨w, μ, ρ, rfl, st, rs, p⟩ := h
    exact ⟨w, μ, ρ, rfl, st, rs, (post.bind p).mono fun x w1 μ1 n1 q => q w1 (.refl n1.st)⟩
end
/-! ### and, or, not as values (bools) -/
def eAnd (a b : ME) : ME := fun ρ μ => (a ρ μ).bind fun x μ1 => match x with
  | .bl true => b ρ μ1
  | .bl false => .ok (.bl false) μ1
  | _ => .stuck
def eOr (a b : ME) : ME := fun ρ μ => (a ρ μ).bind fun x μ1 => match x with
  | .bl true => .ok (.bl true) μ1
  | .bl false => b ρ μ1
  | _ => .stuck
def eNot (a : ME) : ME := fun ρ μ => (a ρ μ).bind fun x μ1 => match x with
  | .bl c => .ok (.bl (!c)) μ1
  | _ => .stuck
section
variable {a b c : Expr} {rest : List Expr} {ma mb : ME} {mc : MT} {pos : Pos}
theorem pd_one {op} (h : PDE X E a ma) : PDE X E (.BoolOp op [a] pos) ma := pe_one h
theorem pd_vand (ha : PDE X E a ma) (hb : PDE X E (.BoolOp .And (b :: rest) pos) mb) : PDE X E (.BoolOp .And (a :: b :: rest) pos) (eAnd ma mb) :=
  (pe_and ha hb).weak fun σ H Q h => by
    obtain ⟨w, μ, ρ, rfl, st, rs, p⟩ := h
    refine ⟨w, μ, ρ, rfl, st, rs, (post.bind p).mono fun x w1 μ1 n1 q => ?_⟩
    intro v hv
    cases x with
    | bl c =>
      simp only [Rep] at hv
      subst hv
      refine ⟨c, rfl, ?_⟩
      cases c with
      | true => exact ⟨w1, μ1, ρ, rfl, n1.st, rs.mono n1.ext n1.pre, q⟩
      | false => exact q w1 (.refl n1.st) _ rep_bl
    | _ => exact q.elim
theorem pd_vor (ha : PDE X E a ma) (hb : PDE X E (.BoolOp .Or (b :: rest) pos) mb) : PDE X E (.BoolOp .Or (a :: b :: rest) pos) (eOr ma mb) :=
  (pe_or ha hb).weak fun σ H Q h => by
    obtain ⟨w, μ, ρ, rfl, st, rs, p⟩ := h
    refine ⟨w, μ, ρ, rfl, st, rs, (post.bind p).mono fun x w1 μ1 n1 q => ?_⟩
    intro v hv
    cases x with
    | bl c =>
      simp only [Rep] at hv
      subst hv
      refine ⟨c, rfl, ?_⟩
      cases c with
      | false => exact ⟨w1, μ1, ρ, rfl, n1.st, rs.mono n1.ext n1.pre, q⟩
      | true => exact q w1 (.refl n1.st) _ rep_bl
    | _ => exact q.elim
theorem pd_vnot (ha : PDE X E a ma) : PDE X E (.UnaryOp .Not a pos) (eNot ma) :=
  (pe_not ha).weak fun σ H Q h => by
    obtain ⟨w, μ, ρ, rfl, st, rs, p⟩ := h
    refine ⟨w, μ, ρ, rfl, st, rs, (post.bind p).mono fun x w1 μ1 n1 q => ?_⟩
    intro v hv
    cases x with
    | bl c =>
      simp only [Rep] at hv
      subst hv
      exact ⟨c, rfl, q w1 (.refl n1.st) _ rep_bl⟩
    | _ => exact q.elim
def eIf (c : MT) (a b : ME) : ME := fun ρ μ => (c ρ μ).bind fun k μ1 => if k = true then a ρ μ1 else b ρ μ1
theorem pd_if (hc : PDT X E c mc) (ha : PDE X E a ma) (hb : PDE X E b mb) : PDE X E (.IfExp c a b pos) (eIf mc ma mb) :=
  (pe_ifExp hc ha hb).weak fun σ H Q h => by
    obtain ⟨w, μ, ρ, rfl, st, rs, p⟩ := h
    refine ⟨w, μ, ρ, rfl, st, rs, (post.bind p).mono fun x w1 μ1 n1 q => ?_⟩
    cases x with
    | true => exact ⟨w1, μ1, ρ, rfl, n1.st, rs.mono n1.ext n1.pre, q⟩
    | false => exact ⟨w1, μ1, ρ, rfl, n1.st, rs.mono n1.ext n1.pre, q⟩
end
/-- a < b < c -/
def eChain (f g : Mu → D → D → Option D) (a b c : ME) : ME := fun ρ μ => (a ρ μ).bind fun x μ1 => (b ρ μ1).bind fun y μ2 => (lift (f μ2 x y) μ2).bind fun z μ3 => match z with
  | .bl true => (c ρ μ3).bind fun u μ4 => lift (g μ4 y u) μ4
  | .bl false => .ok (.bl false) μ3
  | _ => .stuck
theorem pd_chain {op op' : CmpOp} {r r' : R2} {f g : Mu → D → D → Option D} {a b c : Expr} {ma mb mc : ME} {pos : Pos} (ho : OpR X (compareOp op) r) (hf : B2 X r f) (ho' : OpR X (compareOp op') r') (hg : B2 X r' g) (ha : PDE X E a ma) (hb : PDE X E b mb) (hc : PDE X E c mc)
    (h1 : lastMarks [op, op'] [b, c] = false := by rfl) : PDE X E (.Compare a [op, op'] [b, c] pos) (eChain f g ma mb mc) :=
  (pe_chain ho ho' ha hb hc h1).weak fun σ H Q h => by
    obtain ⟨w, μ, ρ, rfl, st, rs, p⟩ := h
    refine ⟨w, μ, ρ, rfl, st, rs, (post.bind p).mono fun x w1 μ1 n1 q => ?_⟩
    intro vx hx
    refine ⟨w1, μ1, ρ, rfl, n1.st, rs.mono n1.ext n1.pre, (post.bind q).mono fun y w2 μ2 n2 q => ?_⟩
    intro vy hy
    have q' := post.bind q
    obtain ⟨z, e, q'⟩ := post.lift q'
    refine hf w2 μ2 x y z vx vy _ n2.st (Rep.mono n2.ext n2.pre _ _ hx) hy e fun w3 v n3 hv => ?_
    have q3 := q' w3 n3
    cases z with
    | bl k =>
      simp only [Rep] at hv
      subst hv
      refine ⟨k, rfl, ?_⟩
      cases k with
      | true =>
        rw [if_pos rfl]
        refine ⟨w3, μ2, ρ, rfl, n3.st, ((rs.mono n1.ext n1.pre).mono n2.ext n2.pre).mono n3.ext n3.pre, (post.bind q3).mono fun u w4 μ4 n4 q4 => ?_⟩
        intro vu hu
        obtain ⟨d, e4, q4⟩ := post.lift q4
        exact hg w4 μ4 y u d vy vu Q n4.st (Rep.mono n4.ext n4.pre _ _ (Rep.mono n3.ext n3.pre _ _ hy)) hu e4 fun w5 v5 n5 r5 => q4 w5 n5 v5 r5
      | false =>
        rw [if_neg (by decide)]
        exact q3 w3 (.refl n3.st) _ rep_bl
    | _ => exact q3.elim
def tV (m : ME) : MT := tBl m
theorem pd_tV {a : Expr} {m : ME} (ha : PDE X E a m) (he : ∀ whole, isTrue a X.env whole = (do let v ← whole; standAt a.pos; holding [v] (truthy v)) := by intro _; rfl) : PDT X E a (tBl m) :=
  (pt_val ha he).weak fun σ H Q h => by
    obtain ⟨w, μ, ρ, rfl, st, rs, p⟩ := h
    refine ⟨w, μ, ρ, rfl, st, rs, (post.bind p).mono fun x w1 μ1 n1 q => ?_⟩
    intro v hv
    cases x with
    | bl b =>
      simp only [Rep] at hv
      subst hv
      exact ⟨b, rfl, q w1 (.refl n1.st)⟩
    | _ => exact q.elim
theorem pd_tchain {op op' : CmpOp} {r r' : R2} {f g : Mu → D → D → Option D} {a b c : Expr} {ma mb mc : ME} {pos : Pos} (ho : OpR X (compareOp op) r) (hf : B2 X r f) (ho' : OpR X (compareOp op') r') (hg : B2 X r' g) (ha : PDE X E a ma) (hb : PDE X E b mb) (hc : PDE X E c mc)
    (h1 : lastMarks [op, op'] [b, c] = false := by rfl) : PDT X E (.Compare a [op, op'] [b, c] pos) (tBl (eChain f g ma mb mc)) :=
  (pt_chain ho ho' ha hb hc h1).weak fun σ H Q h => by
    obtain ⟨w, μ, ρ, rfl, st, rs, p⟩ := h
    have p1 := post.bind p
    unfold eChain at p1
    refine ⟨w, μ, ρ, rfl, st, rs, (post.bind p1).mono fun x w1 μ1 n1 q => ?_⟩
    intro vx hx
    refine ⟨w1, μ1, ρ, rfl, n1.st, rs.mono n1.ext n1.pre, (post.bind q).mono fun y w2 μ2 n2 q => ?_⟩
    intro vy hy
    have q' := post.bind q
    obtain ⟨z, e, q'⟩ := post.lift q'
    refine hf w2 μ2 x y z vx vy _ n2.st (Rep.mono n2.ext n2.pre _ _ hx) hy e fun w3 v n3 hv => ?_
    have q3 := q' w3 n3
    cases z with
    | bl k =>
      simp only [Rep] at hv
      subst hv
      refine ⟨k, rfl, ?_⟩
      cases k with
      | true =>
        rw [if_pos rfl]
        refine ⟨w3, μ2, ρ, rfl, n3.st, ((rs.mono n1.ext n1.pre).mono n2.ext n2.pre).mono n3.ext n3.pre, (post.bind q3).mono fun u w4 μ4 n4 q4 => ?_⟩
        intro vu hu
        obtain ⟨d, e4, q4⟩ := post.lift q4
        refine hg w4 μ4 y u d vy vu _ n4.st (Rep.mono n4.ext n4.pre _ _ (Rep.mono n3.ext n3.pre _ _ hy)) hu e4 fun w5 v5 n5 r5 => ?_
        have q5 := q4 w5 n5
        cases d with
        | bl k2 =>
          simp only [Rep] at r5
          subst r5
          exact ⟨k2, rfl, q5 w5 (.refl n5.st)⟩
        | _ => exact q5.elim
      | false =>
        rw [if_neg (by decide)]
        exact ⟨false, rfl, (q3 w3 (.refl n3.st)) w3 (.refl n3.st)⟩
    | _ => exact q3.elim

/-! ### fields -/
def FldOk (K : PySem.W.Frag) (mg : Str → Option Value) (f : Str) (cs : List Str) : Prop := ∀ C ∈ cs, ∀ Ca, mg C = some (.ref Ca) → Cls K Ca ∧ NoAttr K Ca f
def fldD (f : Str) (cs : List Str) (μ : Mu) (x : D) : Option D := match view μ x with
  | .con (.ins C fs) l => if C ∈ cs then findD fs l f else none
  | _ => none
theorem lookup_zip {K : PySem.W.Frag} {mg : Str → Option Value} {F : Hp} {α : List Addr} : ∀ {fs : List Str} {l : List D} {vs : List V} {f : Str} {d : D}, RepL K mg F α l vs → findD fs l f = some d → ∃ v, (fs.zip vs).lookup f = some v ∧ Rep K mg F α d v
  | k :: ks, d' :: l, vs, f, d, r, h => by
    simp only [RepL] at r
    obtain ⟨v, r', rfl, h1, h2⟩ := r
    unfold findD at h
    split at h
    · rename_i e
      cases h
      subst e
      exact ⟨v, by simp [List.lookup], h1⟩
    · rename_i e
      obtain ⟨v', h3, h4⟩ := lookup_zip h2 h
      refine ⟨v', ?_, h4⟩
      have : (f == k) = false := by
        simp only [beq_eq_false_iff_ne, ne_eq]
        exact fun z => e z.symm
      simp [List.lookup, this, h3]
  | [], _, _, _, _, _, h => by cases h
  | _ :: _, [], _, _, _, _, h => by cases h
theorem pd_fld {a : Expr} {m : ME} {f : Str} {cs : List Str} {pos : Pos} (hk : FldOk X.K X.mg f cs) (ha : PDE X E a m) (hb : attributeBase a f X.env (eval a X.env) = eval a X.env := by rfl) : PDE X E (.Attribute a f pos) (eU1 (fldD f cs) m) :=
  (pe_fld ha hb).weak fun σ H Q h => by
    have hf : U1 X (fun x H1 Q => ∃ a C dx fs v, x = .ref a ∧ H1 a = some (.ins C dx fs) ∧ Cls X.K C ∧ NoAttr X.K C f ∧ fs.lookup f = some v ∧ Q v H1) (fldD f cs) := by
      intro w μ x d vx Q st hx e k
      unfold fldD at e
      split at e
      · rename_i C fs l e1
        split at e
        · rename_i hC
          obtain ⟨a, vs, rfl, h1, h2⟩ := st.read hx e1
          obtain ⟨h3, Ca, dx, h4, h5⟩ := h1
          obtain ⟨c1, c2⟩ := hk C hC Ca h4
          obtain ⟨v, h6, h7⟩ := lookup_zip h2 e
          exact ⟨a, Ca, dx, _, v, rfl, h5, c1, c2, h6, k w _ (.refl st) h7⟩
        · cases e
      · cases e
    exact tG_unary hf h
/-! ### slices -/
abbrev MO := Rho → Mu → R (Option Int)
def tO (K : PySem.W.Frag) (mg : Str → Option Value) (E : XK) (m : MO) : TO := fun σ H Q => tG K mg E m σ H fun o w' _ _ => Q o w'.H
abbrev PDO (X : Cx) (E : XK) (e : Option Expr) (m : MO) : Prop := PO X e (tO X.K X.mg E m)
theorem PO.weak' {e : Option Expr} {t t' : TO} (h : PO X e t) (f : ∀ σ H Q, t' σ H Q → t σ H Q) : PO X e t' := ⟨fun pins s σ H Q I q => h.run pins s σ H Q I (f σ H Q q)⟩
def oNone : MO := fun _ μ => .ok none μ
def oSome (a : ME) : MO := fun ρ μ => (a ρ μ).bind fun x μ1 => match x with
  | .int i => .ok (some i) μ1
  | _ => .stuck
theorem pd_onone : PDO X E none oNone := PO.weak' po_none fun σ H Q h => by
  obtain ⟨w, μ, ρ, rfl, st, rs, p⟩ := h
  exact p w (.refl st)
theorem pd_osome {a : Expr} {m : ME} (ha : PDE X E a m) : PDO X E (some a) (oSome m) := PO.weak' (po_some ha) fun σ H Q h => by
  obtain ⟨w, μ, ρ, rfl, st, rs, p⟩ := h
  refine ⟨w, μ, ρ, rfl, st, rs, (post.bind p).mono fun x w1 μ1 n1 q => ?_⟩
  intro v hv
  cases x with
  | int i =>
    simp only [Rep] at hv
    subst hv
    exact ⟨i, rfl, q w1 (.refl n1.st)⟩
  | _ => exact q.elim
def cutL {β : Type} (l : List β) (lo hi : Option Int) : List β := (l.drop (HT.sIx l.length 0 lo)).take (HT.sIx l.length l.length hi - HT.sIx l.length 0 lo)
def sliceD (μ : Mu) (x : D) (lo hi : Option Int) : Option D := match view μ x with
  | .str z => if fitL z.length = true then some (.str (cutS z lo hi)) else none
  | .con .lst l => some (.lst (cutL l lo hi))
  | .con .tup l => some (.tup (cutL l lo hi))
  | _ => none
def eSl (a : ME) (lo hi : MO) : ME := fun ρ μ => (a ρ μ).bind fun x μ1 => (lo ρ μ1).bind fun l μ2 => (hi ρ μ2).bind fun u μ3 => lift (sliceD μ3 x l u) μ3
def rSl3 (K : PySem.W.Frag) : V → Option Int → Option Int → Hp → VK → Prop := fun x lo hi H Q => (rSlS x lo hi H Q ∨ rSlL K x lo hi H Q) ∨ rSlA K x lo hi H Q
theorem sl_3 : SlR X (rSl3 X.K) := (sl_str.or sl_list).or sl_tupA
theorem cutL_rep {K : PySem.W.Frag} {mg : Str → Option Value} {F : Hp} {α : List Addr} {l : List D} {vs : List V} (lo hi : Option Int) (r : RepL K mg F α l vs) : RepL K mg F α (cutL l lo hi) (cutV vs lo hi) := by
  unfold cutL cutV
  rw [r.length]
  exact (r.drop _).take _
theorem rep_self {w : Ws} {μ : Mu} (st : StOk X.K X.mg w μ) {z : D} {n : List D} {v : V} (ez : view μ z = .con .tup n) (rz : Rep X.K X.mg w.F w.α z v) : Rep X.K X.mg w.F w.α (.tup n) v := by
  cases z with
  | ptr q =>
    simp only [view] at ez
    split at ez
    · rename_i lk c l' hk
      cases ez
      simp only [Rep] at rz
      obtain ⟨a', _, ha'⟩ := rz
      exact absurd rfl (st.own q a' _ ha' hk).2.1
    · cases ez
  | con c l' =>
    have ez' : D.con c l' = .con .tup n := ez
    cases ez'
    exact rz
  | _ => exact nomatch ez
theorem sliceD_rep {w : Ws} {μ : Mu} {x d : D} {vx : V} {lo hi : Option Int} {Q : VK} (st : StOk X.K X.mg w μ) (hx : Rep X.K X.mg w.F w.α x vx) (e : sliceD μ x lo hi = some d) (k : ∀ w' v, Nx X.K X.mg w w' μ → Rep X.K X.mg w'.F w'.α d v → Q v w'.H) : rSl3 X.K vx lo hi w.H Q := by
  unfold sliceD at e
  split at e
  · rename_i z e1
    split at e
    · rename_i hz
      cases e
      cases view_str e1 hx
      exact .inl (.inl ⟨z, rfl, of_decide_eq_true hz, k w _ (.refl st) rep_str⟩)
    · cases e
  · rename_i l e1
    cases e
    obtain ⟨a, vs, rfl, h1, h2⟩ := st.read hx e1
    exact .inl (.inr ⟨a, vs, rfl, SqL.of h1, fun p hp => k _ _ (st.new hp) (Rep.new (st.freshF hp) rfl (cutL_rep lo hi h2))⟩)
  · rename_i l e1
    cases e
    obtain ⟨a, vs, rfl, h1, h2⟩ := st.read hx e1
    refine .inr ⟨a, vs, rfl, SqT.of h1, fun hw => ?_, fun _ p hp => k _ _ (st.new hp) (Rep.new (st.freshF hp) rfl (cutL_rep lo hi h2))⟩
    have el : cutL l lo hi = l := by
      unfold cutL
      rw [h2.length, hw.1, hw.2]
      simp [← h2.length]
    rw [el] at k
    exact k w _ (.refl st) (rep_self st e1 hx)
  · cases e
theorem pd_slice {a : Expr} {lo hi : Option Expr} {m : ME} {ml mh : MO} {p2 pos : Pos} (ha : PDE X E a m) (hl : PDO X E lo ml) (hh : PDO X E hi mh) : PDE X E (.Subscript a (.Slice lo hi none p2) pos) (eSl m ml mh) :=
  (pe_slice sl_3 ha hl hh).weak fun σ H Q h => by
    obtain ⟨w, μ, ρ, rfl, st, rs, p⟩ := h
    refine ⟨w, μ, ρ, rfl, st, rs, (post.bind p).mono fun x w1 μ1 n1 q => ?_⟩
    intro vx hx
    refine ⟨w1, μ1, ρ, rfl, n1.st, rs.mono n1.ext n1.pre, (post.bind q).mono fun lo w2 μ2 n2 q => ?_⟩
    refine ⟨w2, μ2, ρ, rfl, n2.st, (rs.mono n1.ext n1.pre).mono n2.ext n2.pre, (post.bind q).mono fun hi w3 μ3 n3 q => ?_⟩
    obtain ⟨d, e, q⟩ := post.lift q
    exact sliceD_rep n3.st (Rep.mono n3.ext n3.pre _ _ (Rep.mono n2.ext n2.pre _ _ hx)) e fun w' v n r => q w' n v r
end
end MP

namespace MP
open PySem PySem.Spec L2
variable [Tb]
/-! ### handles that are no longer needed -/
mutual
def noPtr (n : Nat) : D → Bool
  | .ptr k => decide (k < n)
  | .con _ l => noPtrs n l
  | _ => true
def noPtrs (n : Nat) : List D → Bool
  | [] => true
  | d :: l => noPtr n d && noPtrs n l
end
def noPtrOb (n : Nat) : Ob → Bool
  | .dead => true
  | .lv _ _ l => noPtrs n l
def noPtrMu (n : Nat) (μ : Mu) : Bool := (μ.take n).all (noPtrOb n)
def truncD (n : Nat) (r : R D) : R D := match r with
  | .ok d μ => if (noPtr n d && noPtrMu n μ) = true then .ok d (μ.take n) else .ok d μ
  | .exc c d μ => if (noPtr n d && noPtrMu n μ) = true then .exc c d (μ.take n) else .exc c d μ
  | .stuck => .stuck
section
variable {K : PySem.W.Frag} {mg : Str → Option Value} {F : Hp} {α : List Addr} {w w' : Ws} {μ μ' : Mu}
theorem get_take {α : List Addr} {n k : Nat} {a : Addr} (hk : k < n) (h : α[k]? = some a) : (α.take n)[k]? = some a := by
  rw [List.getElem?_take_of_lt hk]
  exact h
mutual
theorem Rep.take (n : Nat) : ∀ (d : D) (v : V), noPtr n d = true → Rep K mg F α d v → Rep K mg F (α.take n) d v
  | .non, _, _, h => by simpa only [Rep] using h
  | .bl _, _, _, h => by simpa only [Rep] using h
  | .int _, _, _, h => by simpa only [Rep] using h
  | .str _, _, _, h => by simpa only [Rep] using h
  | .fn _, _, _, h => by simpa only [Rep] using h
  | .ptr _, _, c, h => by
    simp only [Rep] at h ⊢
    obtain ⟨a, h1, h2⟩ := h
    simp only [noPtr, decide_eq_true_eq] at c
    exact ⟨a, h1, get_take c h2⟩
  | .con _ l, _, c, h => by
    simp only [Rep] at h ⊢
    obtain ⟨a, vs, h1, h2, h3⟩ := h
    simp only [noPtr] at c
    exact ⟨a, vs, h1, h2, RepL.take' n l vs c h3⟩
theorem RepL.take' (n : Nat) : ∀ (l : List D) (vs : List V), noPtrs n l = true → RepL K mg F α l vs → RepL K mg F (α.take n) l vs
  | [], _, _, h => by simpa only [RepL] using h
  | d :: ds, _, c, h => by
    simp only [RepL] at h ⊢
    obtain ⟨v, r, h1, h2, h3⟩ := h
    simp only [noPtrs, Bool.and_eq_true] at c
    exact ⟨v, r, h1, Rep.take n d v c.1 h2, RepL.take' n ds r c.2 h3⟩
end
/-- the handles from n on are forgotten -/
theorem Nx.trunc {n : Nat} (x : Nx K mg w w' μ') (hn : w.α.length = n) (c : noPtrMu n μ' = true) : Nx K mg w ⟨w'.F, w'.α.take n, w'.H⟩ (μ'.take n) := by
  have ea : w'.α.take n = w.α := by
    obtain ⟨t, e⟩ := x.pre
    rw [← e, ← hn]
    simp
  refine ⟨x.ext, ?_, ⟨x.st.sub, by simp [x.st.len], x.st.nd.sublist (List.take_sublist _ _), fun k a ob ha hk => ?_, x.st.tb⟩, ⟨fun a h1 h2 h3 h4 => ?_, x.fr.fz⟩⟩
  · rw [ea]
    exact List.prefix_rfl
  · have hkn : k < n := by
      have := (List.getElem?_eq_some_iff.mp ha).1
      simp at this
      omega
    have ha' : w'.α[k]? = some a := by
      have ha : (w'.α.take n)[k]? = some a := ha
      rw [List.getElem?_take_of_lt hkn] at ha
      exact ha
    have hk' : μ'[k]? = some ob := by
      rw [List.getElem?_take_of_lt hkn] at hk
      exact hk
    have o := x.st.own k a ob ha' hk'
    cases ob with
    | dead => exact o
    | lv lk cc l =>
      obtain ⟨h1, h0, vs, u, h2, h3, h4⟩ := o
      have hm : noPtrOb n (.lv lk cc l) = true := List.all_eq_true.mp c _ (List.mem_of_getElem? hk)
      exact ⟨h1, h0, vs, u, h2, h3, RepL.take' n l vs hm h4⟩
  · obtain ⟨k1, k2, k3⟩ := x.fr.fr a h1 h2 h3 h4
    exact ⟨k1, fun z => k2 (List.mem_of_mem_take z), k3⟩
theorem post.trunc {E : XK} {n : Nat} {r : R D} {Q : VK} (hn : w.α.length = n) (h : post K mg w (truncD n r) (fun d w' _ => ∀ v, Rep K mg w'.F w'.α d v → Q v w'.H) E) : post K mg w r (fun d w' _ => ∀ v, Rep K mg w'.F w'.α d v → Q v w'.H) E := by
  cases r with
  | ok d μ =>
    unfold truncD at h
    simp only at h
    split at h
    · rename_i c
      rw [Bool.and_eq_true] at c
      intro w' x v hv
      exact h _ (x.trunc hn c.2) v (Rep.take n d v c.1 hv)
    · exact h
  | exc cc d μ =>
    unfold truncD at h
    simp only at h
    split at h
    · rename_i c
      rw [Bool.and_eq_true] at c
      intro w' ca dx v x hm hd hv
      exact h ⟨w'.F, w'.α.take n, w'.H⟩ ca dx v (x.trunc hn c.2) hm hd (Rep.take n d v c.1 hv)
    · exact h
  | stuck => exact h
end
/-! ### letting a handle's thing freeze -/
mutual
def frz : Nat → Mu → D → Option (D × Mu)
  | 0, _, _ => none
  | n + 1, μ, .ptr k => match μ[k]? with
    | some (.lv false c l) => match frzL n (μ.set k .dead) l with
      | some (l', μ') => some (.con c l', μ')
      | none => none
    | _ => none
  | n + 1, μ, .con c l => match frzL n μ l with
    | some (l', μ') => some (.con c l', μ')
    | none => none
  | _ + 1, μ, d => some (d, μ)
def frzL : Nat → Mu → List D → Option (List D × Mu)
  | 0, _, _ => none
  | _ + 1, μ, [] => some ([], μ)
  | n + 1, μ, d :: l => match frz n μ d with
    | some (d', μ') => match frzL n μ' l with
      | some (l', μ'') => some (d' :: l', μ'')
      | none => none
    | none => none
end
section
variable {K : PySem.W.Frag} {mg : Str → Option Value} {w w' : Ws} {μ μ' : Mu}
theorem StOk.kill (s : StOk K mg w μ) {k : Nat} {a : Addr} {c : Con} {l : List D} (ha : w.α[k]? = some a) (hk : μ[k]? = some (.lv false c l)) :
    ∃ vs u, HOof mg c vs u ∧ RepL K mg w.F w.α l vs ∧ Nx K mg w ⟨upd w.F a u, w.α, w.H⟩ (μ.set k .dead) := by
  obtain ⟨hF, h0, vs, u, h1, h2, h3⟩ := s.own k a _ ha hk
  have h2' : w.H a = some u := h2
  refine ⟨vs, u, h1, h3, ext_upd hF, List.prefix_rfl, ⟨fun b x e => ?_, by simp [s.len], s.nd, fun k' a' ob ha' hk' => ?_, s.tb⟩, ⟨fun b q1 q2 q3 _ => ?_, fun _ _ _ h => h⟩⟩
  · by_cases hb : b = a
    · subst hb
      have e : upd w.F b u b = some x := e
      rw [upd_same] at e
      cases e
      exact ⟨h1.ntb, .inl h2'⟩
    · have e : upd w.F a u b = some x := e
      rw [upd_ne hb] at e
      exact s.sub b x e
  · by_cases hkk : k = k'
    · subst hkk
      have e : a' = a := Option.some.inj (ha'.symm.trans ha)
      subst e
      have hl : k < μ.length := (List.getElem?_eq_some_iff.mp hk).1
      rw [List.getElem?_set_self hl] at hk'
      cases hk'
      show upd w.F a' u a' ≠ none
      rw [upd_same]
      simp
    · rw [List.getElem?_set_ne hkk] at hk'
      have o := s.own k' a' ob ha' hk'
      have hap : a' ≠ a := fun z => hkk (nodup_get s.nd ha (z ▸ ha'))
      cases ob with
      | dead =>
        show upd w.F a u a' ≠ none
        rw [upd_ne hap]
        exact o
      | lv lk' c' l' =>
        obtain ⟨q1, q0, vs', x', q2, q3, q4⟩ := o
        refine ⟨?_, q0, vs', x', q2, q3, RepL.mono (ext_upd hF) List.prefix_rfl _ _ q4⟩
        show upd w.F a u a' = none
        rw [upd_ne hap]
        exact q1
  · have hb : b ≠ a := fun z => q2 (z ▸ List.mem_of_getElem? ha)
    exact ⟨(upd_ne hb).trans q1, q2, rfl⟩
mutual
theorem frz_ok : ∀ (n : Nat) (w : Ws) (μ μ' : Mu) (d d' : D) (v : V), StOk K mg w μ → Rep K mg w.F w.α d v → frz n μ d = some (d', μ') →
    ∃ w', Nx K mg w w' μ' ∧ w'.H = w.H ∧ w'.α = w.α ∧ Rep K mg w'.F w'.α d' v
  | 0, _, _, _, _, _, _, _, _, h => by simp [frz] at h
  | n + 1, w, μ, μ', .ptr k, d', v, s, r, h => by
    simp only [frz] at h
    split at h
    · rename_i c l hk
      split at h
      · rename_i l' μ2 e
        cases h
        simp only [Rep] at r
        obtain ⟨a, rfl, ha⟩ := r
        obtain ⟨vs, u, h1, h3, x⟩ := s.kill ha hk
        obtain ⟨w2, x2, e2, e3, r2⟩ := frzL_ok n _ _ _ l l' vs x.st (RepL.mono x.ext x.pre _ _ h3) e
        refine ⟨w2, x.trans x2, e2, e3, ?_⟩
        simp only [Rep]
        refine ⟨a, vs, rfl, (h1.hold (lk := false) (K := K) (H := w2.F) ?_), r2⟩
        refine x2.ext a u ?_
        show upd w.F a u a = some u
        rw [upd_same]
      · cases h
    · cases h
  | n + 1, w, μ, μ', .con c l, d', v, s, r, h => by
    simp only [frz] at h
    split at h
    · rename_i l' μ2 e
      cases h
      simp only [Rep] at r
      obtain ⟨a, vs, rfl, h1, h2⟩ := r
      obtain ⟨w2, x2, e2, e3, r2⟩ := frzL_ok n _ _ _ l l' vs s h2 e
      refine ⟨w2, x2, e2, e3, ?_⟩
      simp only [Rep]
      exact ⟨a, vs, rfl, h1.mono x2.ext, r2⟩
    · cases h
  | n + 1, w, μ, μ', .non, d', v, s, r, h => by
    simp only [frz, Option.some.injEq, Prod.mk.injEq] at h
    obtain ⟨rfl, rfl⟩ := h
    exact ⟨w, .refl s, rfl, rfl, r⟩
  | n + 1, w, μ, μ', .bl b, d', v, s, r, h => by
    simp only [frz, Option.some.injEq, Prod.mk.injEq] at h
    obtain ⟨rfl, rfl⟩ := h
    exact ⟨w, .refl s, rfl, rfl, r⟩
  | n + 1, w, μ, μ', .int b, d', v, s, r, h => by
    simp only [frz, Option.some.injEq, Prod.mk.injEq] at h
    obtain ⟨rfl, rfl⟩ := h
    exact ⟨w, .refl s, rfl, rfl, r⟩
  | n + 1, w, μ, μ', .str b, d', v, s, r, h => by
    simp only [frz, Option.some.injEq, Prod.mk.injEq] at h
    obtain ⟨rfl, rfl⟩ := h
    exact ⟨w, .refl s, rfl, rfl, r⟩
  | n + 1, w, μ, μ', .fn b, d', v, s, r, h => by
    simp only [frz, Option.some.injEq, Prod.mk.injEq] at h
    obtain ⟨rfl, rfl⟩ := h
    exact ⟨w, .refl s, rfl, rfl, r⟩
theorem frzL_ok : ∀ (n : Nat) (w : Ws) (μ μ' : Mu) (l l' : List D) (vs : List V), StOk K mg w μ → RepL K mg w.F w.α l vs → frzL n μ l = some (l', μ') →
    ∃ w', Nx K mg w w' μ' ∧ w'.H = w.H ∧ w'.α = w.α ∧ RepL K mg w'.F w'.α l' vs
  | 0, _, _, _, _, _, _, _, _, h => by simp [frzL] at h
  | n + 1, w, μ, μ', [], l', vs, s, r, h => by
    simp only [frzL, Option.some.injEq, Prod.mk.injEq] at h
    obtain ⟨rfl, rfl⟩ := h
    exact ⟨w, .refl s, rfl, rfl, r⟩
  | n + 1, w, μ, μ', d :: l, l', vs, s, r, h => by
    simp only [frzL] at h
    split at h
    · rename_i d2 μ2 e1
      split at h
      · rename_i l2 m3 e2
        simp only [Option.some.injEq, Prod.mk.injEq] at h
        obtain ⟨rfl, rfl⟩ := h
        simp only [RepL] at r
        obtain ⟨v, r', rfl, h1, h2⟩ := r
        obtain ⟨w2, x2, a2, b2, r2⟩ := frz_ok n w μ μ2 d d2 v s h1 e1
        obtain ⟨w3, x3, a3, b3, r3⟩ := frzL_ok n w2 μ2 _ l l2 r' x2.st (RepL.mono x2.ext x2.pre _ _ h2) e2
        exact ⟨w3, x2.trans x3, a3.trans a2, b3.trans b2, .cons (Rep.mono x3.ext x3.pre _ _ r2) r3⟩
      · cases h
    · cases h
end
end
def FRZ : Nat := 100000
section
variable {X : Cx} {E : XK}
def eFrz (m : ME) : ME := fun ρ μ => (m ρ μ).bind fun d μ1 => match frz FRZ μ1 d with
  | some (d', μ') => .ok d' μ'
  | none => .stuck
theorem pd_frz {e : Expr} {m : ME} (h : PDE X E e m) : PDE X E e (eFrz m) := h.weak fun σ H Q q => by
  obtain ⟨w, μ, ρ, rfl, st, rs, p⟩ := q
  refine ⟨w, μ, ρ, rfl, st, rs, (post.bind p).mono fun x w1 μ1 n1 q => ?_⟩
  intro v hv
  split at q
  · rename_i d' μ' e
    obtain ⟨w2, x2, a2, b2, r2⟩ := frz_ok FRZ w1 μ1 μ' x d' v n1.st hv e
    have := q w2 x2 v r2
    rw [a2] at this
    exact this
  · exact q.elim
/-! ### what a def promises -/
abbrev MF := List D → Mu → R D
def spF (K : PySem.W.Frag) (mg : Str → Option Value) (n : Nat) (f : MF) : Sp := fun vs H Q E =>
  ∃ w μ l, w.H = H ∧ StOk K mg w μ ∧ RepL K mg w.F w.α l vs ∧ vs.length = n ∧ post K mg w (f l μ) (fun d w' _ => ∀ v, Rep K mg w'.F w'.α d v → Q v w'.H) E
def callF (f : MF) : MF := fun l μ => truncD μ.length (f l μ)
def eCall (f : MF) (n : Nat) (a : MA) : ME := fun ρ μ => (a ρ μ).bind fun l μ1 => if l.length = n then callF f l μ1 else .stuck
section
variable {k : Nat} {f : Addr} {fd : FuncData} {ps : List Str} {m : MF} {ma : MA} {x : Str} {p pos : Pos} {e : Expr} {es : List Expr}
theorem tG_call {n : Nat} {σ : L2.St} {H : Hp} {Q : VK} (h : tE X.K X.mg E (eCall m n ma) σ H Q) : tA X.K X.mg E ma σ H fun vs H1 => spF X.K X.mg n m vs H1 Q E := by
  obtain ⟨w, μ, ρ, rfl, st, rs, q⟩ := h
  refine ⟨w, μ, ρ, rfl, st, rs, (post.bind q).mono fun l w1 μ1 n1 q => ?_⟩
  intro vs hv
  split at q
  · rename_i hl
    exact ⟨w1, μ1, l, rfl, n1.st, hv, by rw [← hv.length]; exact hl, post.trunc (by exact n1.st.len) q⟩
  · exact q.elim
theorem pd_call {n : Nat} (F : FnOk X.prog X.w X.K X.mg X.base (L2.CX X.prog X.w) k f fd ps (spF X.K X.mg n m)) (hr : Room k X.A) (hg : Gl X x) (hm : X.mg x = some (.ref f)) (hk : PySem.W.keepIn X.K (.ref f) = true) (hb : Binds X.K fd ps [])
    (hx : Passes (L2.CX X.prog X.w) X E) (ha : PDA X E (e :: es) ma) (hdb : (x == ("__debug__" : Str)) = false := by decide) (he : starEach (e :: es) X.env = (false, eval e X.env) :: starEach es X.env := by rfl)
    (hpl : (backTo pos (starEach es X.env)).any (·.1) = false := by rfl) : PDE X E (.Call (.Name x p) (e :: es) [] pos) (eCall m n ma) :=
  (pe_call (E := E) F hr hg hm hk hb .nil hx ha hdb he hpl).weak fun σ H Q h => by
    have q := tG_call h
    obtain ⟨w, μ, ρ, e, st, rs, q⟩ := q
    refine ⟨w, μ, ρ, e, st, rs, q.mono fun l w1 μ1 n1 q vs hv => ?_⟩
    show spF X.K X.mg n m (vs ++ []) w1.H Q E
    rw [List.append_nil]
    exact q vs hv
/-- o.m(..) of an instance of the class C -/
def eMeth (C : Str) (mn : Str) (f : MF) (n : Nat) (o : ME) (a : MA) : ME := fun ρ μ => (o ρ μ).bind fun x μ1 => match view μ1 x with
  | .con (.ins C' fs) _ => if C' = C ∧ mn ∉ fs then (a ρ μ1).bind fun l μ2 => if (x :: l).length = n then callF f (x :: l) μ2 else .stuck else .stuck
  | _ => .stuck
theorem lookup_none {fs : List Str} {vs : List V} {m : Str} (h : m ∉ fs) : (fs.zip vs).lookup m = none := by
  induction fs generalizing vs with
  | nil => rfl
  | cons a fs ih =>
    cases vs with
    | nil => rfl
    | cons v vs =>
      have h1 : m ≠ a := fun z => h (by simp [z])
      have h2 : m ∉ fs := fun z => h (by simp [z])
      have e : (m == a) = false := by simpa using h1
      simp [List.lookup, e, ih h2]
theorem tG_meth {n : Nat} {C mn : Str} {Ca : Addr} {mo : ME} {σ : L2.St} {H : Hp} {Q : VK} (hC : X.mg C = some (.ref Ca)) (h : tE X.K X.mg E (eMeth C mn m n mo ma) σ H Q) :
    tE X.K X.mg E mo σ H fun x H1 => ∃ a dx fs, x = .ref a ∧ H1 a = some (.ins Ca dx fs) ∧ fs.lookup mn = none ∧ tA X.K X.mg E ma σ H1 fun vs H2 => spF X.K X.mg n m (x :: vs) H2 Q E := by
  obtain ⟨w, μ, ρ, rfl, st, rs, p⟩ := h
  refine ⟨w, μ, ρ, rfl, st, rs, (post.bind p).mono fun x w1 μ1 n1 q => ?_⟩
  clear p
  intro v hv
  split at q
  · rename_i C' fs l0 e1
    split at q
    · rename_i hc
      obtain ⟨rfl, hc2⟩ := hc
      obtain ⟨a, vs, rfl, h1, h2⟩ := n1.st.read hv e1
      obtain ⟨h3, Ca', dx, h4, h5⟩ := h1
      rw [hC] at h4
      cases h4
      have q0 := post.bind q
      refine ⟨a, dx, _, rfl, h5, lookup_none hc2, w1, μ1, ρ, rfl, n1.st, rs.mono n1.ext n1.pre, q0.mono fun l w2 μ2 n2 q => ?_⟩
      intro us hu
      split at q
      · rename_i hl
        exact ⟨w2, μ2, x :: l, rfl, n2.st, .cons (Rep.mono n2.ext n2.pre _ _ hv) hu, by rw [← hl]; simp [hu.length], post.trunc (by exact n2.st.len) q⟩
      · exact q.elim
    · exact q.elim
  · exact q.elim
theorem pd_meth {n : Nat} {pl : Sem Bool} {C mn : Str} {Ca : Addr} {o : Expr} {mo : ME} {apos : Pos} (ho : PDE X E o mo) (hC : X.mg C = some (.ref Ca)) (c : Cls X.K Ca) (hm : Meth X.K Ca mn f) (F : FnOk X.prog X.w X.K X.mg X.base (L2.CX X.prog X.w) k f fd ps (spF X.K X.mg n m)) (hr : Room k X.A) (hb : Binds X.K fd ps [])
    (hx : Passes (L2.CX X.prog X.w) X E) (ha : PDA X E (e :: es) ma)
    (hc : eval (.Call (.Attribute o mn apos) (e :: es) [] pos) X.env = (do
      let ov ← eval o X.env
      standAt apos.atName
      let (f, first) ← holding [ov] (getMethod ov mn pl)
      callWith pos f first (backTo pos (starEach (e :: es) X.env)) (backToKw pos (keywordEach [] X.env))) := by rfl)
    (he : starEach (e :: es) X.env = (false, eval e X.env) :: starEach es X.env := by rfl) (hpl : (backTo pos (starEach es X.env)).any (·.1) = false := by rfl) :
    PDE X E (.Call (.Attribute o mn apos) (e :: es) [] pos) (eMeth C mn m n mo ma) := by
  refine PE.weak (pe_meth (E := E) ho c hm F hr hb .nil hx ha he hpl hc) fun σ H Q h => ?_
  obtain ⟨w, μ, ρ, e, st, rs, q⟩ := tG_meth hC h
  refine ⟨w, μ, ρ, e, st, rs, q.mono fun l w1 μ1 n1 q vs hv => ?_⟩
  obtain ⟨a, dx, fs, h1, h2, h3, w2, μ2, ρ2, e2, st2, rs2, q2⟩ := q vs hv
  refine ⟨a, dx, fs, h1, h2, h3, w2, μ2, ρ2, e2, st2, rs2, q2.mono fun l w1 μ1 n1 q vs hv => ?_⟩
  show spF X.K X.mg n m (_ :: (vs ++ [])) w1.H Q E
  rw [List.append_nil]
  exact q vs hv
theorem pd_meth0 {n : Nat} {pl : Sem Bool} {C mn : Str} {Ca : Addr} {o : Expr} {mo : ME} {apos : Pos} (ho : PDE X E o mo) (hC : X.mg C = some (.ref Ca)) (c : Cls X.K Ca) (hm : Meth X.K Ca mn f) (F : FnOk X.prog X.w X.K X.mg X.base (L2.CX X.prog X.w) k f fd ps (spF X.K X.mg n m)) (hr : Room k X.A) (hb : Binds X.K fd ps [])
    (hx : Passes (L2.CX X.prog X.w) X E)
    (hc : eval (.Call (.Attribute o mn apos) [] [] pos) X.env = (do
      let ov ← eval o X.env
      standAt apos.atName
      let (f, first) ← holding [ov] (getMethod ov mn pl)
      callWith pos f first (backTo pos (starEach [] X.env)) (backToKw pos (keywordEach [] X.env))) := by rfl) :
    PDE X E (.Call (.Attribute o mn apos) [] [] pos) (eMeth C mn m n mo aNil) := by
  refine PE.weak (pe_meth0 (E := E) ho c hm F hr hb .nil hx hc) fun σ H Q h => ?_
  obtain ⟨w, μ, ρ, e, st, rs, q⟩ := tG_meth hC h
  refine ⟨w, μ, ρ, e, st, rs, q.mono fun l w1 μ1 n1 q vs hv => ?_⟩
  obtain ⟨a, dx, fs, h1, h2, h3, w2, μ2, ρ2, e2, st2, rs2, q2⟩ := q vs hv
  refine ⟨a, dx, fs, h1, h2, h3, ?_⟩
  have q3 := q2 w2 (.refl st2) [] .nil
  rw [e2] at q3
  exact q3
end
end
end MP

namespace MP
open PySem PySem.Spec L2
variable [Tb]
section
variable {X : Cx} {E : XK}
/-! ### small statements -/
def sNext : MS := fun ρ μ => .ok (.nx, ρ) μ
def sSeq (a b : MS) : MS := fun ρ μ => (a ρ μ).bind fun x μ1 => match x.1 with
  | .nx => b x.2 μ1
  | f => .ok (f, x.2) μ1
def sRet (a : ME) : MS := fun ρ μ => (a ρ μ).bind fun d μ1 => .ok (.rt d, ρ) μ1
def sDrop (a : ME) : MS := fun ρ μ => (a ρ μ).bind fun _ μ1 => .ok (.nx, ρ) μ1
def sIf (c : MT) (a b : MS) : MS := fun ρ μ => (c ρ μ).bind fun k μ1 => if k = true then a ρ μ1 else b ρ μ1
def sSet (i : Nat) (a : ME) : MS := fun ρ μ => (a ρ μ).bind fun d μ1 => .ok (.nx, ρ.set i (some d)) μ1
section
variable {st : Stmt} {rest : List Stmt} {ma mb : MS} {e : Expr} {m : ME} {pos : Pos}
theorem pd_snil : PDSs X E [] sNext := pss_nil.weak fun D σ H h => by
  obtain ⟨w, μ, ρ, rfl, st, rs, p⟩ := h
  exact p w (.refl st) σ rs
theorem pd_scons (h1 : PDS X E st ma) (h2 : PDSs X E rest mb) : PDSs X E (st :: rest) (sSeq ma mb) := (pss_cons h1 h2).weak fun D σ H h => by
  obtain ⟨w, μ, ρ, rfl, st, rs, p⟩ := h
  refine ⟨w, μ, ρ, rfl, st, rs, (post.bind p).mono fun x w1 μ1 n1 q => ?_⟩
  intro σ1 r1
  obtain ⟨f, ρ1⟩ := x
  cases f with
  | nx => exact ⟨w1, μ1, ρ1, rfl, n1.st, r1, q⟩
  | bk => exact q w1 (.refl n1.st) σ1 r1
  | ct => exact q w1 (.refl n1.st) σ1 r1
  | rt d => exact q w1 (.refl n1.st) σ1 r1
theorem pd_sone (h1 : PDS X E st ma) : PDSs X E [st] ma := pss_one h1
theorem pd_pass : PDS X E (.Pass pos) sNext := ps_pass.weak fun D σ H h => by
  obtain ⟨w, μ, ρ, rfl, st, rs, p⟩ := h
  exact p w (.refl st) σ rs
def sBreak : MS := fun ρ μ => .ok (.bk, ρ) μ
def sCont : MS := fun ρ μ => .ok (.ct, ρ) μ
theorem pd_break : PDS X E (.Break pos) sBreak := ps_break.weak fun D σ H h => by
  obtain ⟨w, μ, ρ, rfl, st, rs, p⟩ := h
  exact p w (.refl st) σ rs
theorem pd_continue : PDS X E (.Continue pos) sCont := ps_continue.weak fun D σ H h => by
  obtain ⟨w, μ, ρ, rfl, st, rs, p⟩ := h
  exact p w (.refl st) σ rs
theorem pd_ret (h : PDE X E e m) : PDS X E (.Return (some e) pos) (sRet m) := (ps_ret h).weak fun D σ H q => by
  obtain ⟨w, μ, ρ, rfl, st, rs, p⟩ := q
  refine ⟨w, μ, ρ, rfl, st, rs, (post.bind p).mono fun x w1 μ1 n1 q => ?_⟩
  intro v hv
  exact q w1 (.refl n1.st) σ (rs.mono n1.ext n1.pre) v hv
theorem pd_expr (h : PDE X E e m) (hs : swapsWith e none pos.line X.env = pure false := by rfl) : PDS X E (.Expr e pos) (sDrop m) := (ps_expr h hs).weak fun D σ H q => by
  obtain ⟨w, μ, ρ, rfl, st, rs, p⟩ := q
  refine ⟨w, μ, ρ, rfl, st, rs, (post.bind p).mono fun x w1 μ1 n1 q => ?_⟩
  intro v hv
  exact q w1 (.refl n1.st) σ (rs.mono n1.ext n1.pre)
theorem pd_sif {c : Expr} {a b : List Stmt} {mc : MT} (hc : PDT X E c mc) (ha : PDSs X E a ma) (hb : PDSs X E b mb) : PDS X E (.If c a b pos) (sIf mc ma mb) := (ps_if hc ha hb).weak fun D σ H q => by
  obtain ⟨w, μ, ρ, rfl, st, rs, p⟩ := q
  refine ⟨w, μ, ρ, rfl, st, rs, (post.bind p).mono fun x w1 μ1 n1 q => ?_⟩
  cases x with
  | true => exact ⟨w1, μ1, ρ, rfl, n1.st, rs.mono n1.ext n1.pre, q⟩
  | false => exact ⟨w1, μ1, ρ, rfl, n1.st, rs.mono n1.ext n1.pre, q⟩
/-! ### targets -/
abbrev MG := D → Rho → Mu → R Rho
def gSet (i : Nat) : MG := fun d ρ μ => .ok (ρ.set i (some d)) μ
def tgt (K : PySem.W.Frag) (mg : Str → Option Value) (E : XK) (vw : List Nat) (g : MG) : TG := fun v σ H Q => ∃ w μ ρ d, w.H = H ∧ StOk K mg w μ ∧ RepS K mg w.F w.α ρ σ ∧ Rep K mg w.F w.α d v ∧
  post K mg w (g d ρ μ) (fun ρ' w' _ => ∀ σ', RepS K mg w'.F w'.α ρ' σ' → wipe σ' vw = wipe σ vw → Q σ' w'.H) E
abbrev PDG (X : Cx) (E : XK) (vw : List Nat) (t : Expr) (g : MG) : Prop := PG X t (tgt X.K X.mg E vw g)
theorem PG.weak' {e : Expr} {t t' : TG} (h : PG X e t) (f : ∀ v σ H Q, t' v σ H Q → t v σ H Q) : PG X e t' := ⟨fun pins s σ H v u Q I r q => h.run pins s σ H v u Q I r (f v σ H Q q)⟩
theorem wipe_get (σ : L2.St) : ∀ (vs : List Nat) (i : Nat), (wipe σ vs)[i]? = if i ∈ vs then (σ[i]?).map (fun _ => none) else σ[i]?
  | [], i => by simp [wipe]
  | v :: vs, i => by
    unfold wipe
    rw [List.getElem?_set]
    by_cases hv : v = i
    · subst hv
      simp only [if_pos rfl, List.mem_cons, true_or, if_true]
      rw [wipe_length]
      by_cases hl : v < σ.length
      · simp [hl]
      · simp [hl]
    · simp only [if_neg hv, List.mem_cons]
      rw [wipe_get σ vs i]
      have : (i = v ∨ i ∈ vs) ↔ i ∈ vs := ⟨fun h => h.resolve_left (fun z => hv z.symm), .inr⟩
      simp only [this]
theorem wipe_twice (σ : L2.St) (vs : List Nat) : wipe (wipe σ vs) vs = wipe σ vs := by
  apply List.ext_getElem?
  intro i
  rw [wipe_get, wipe_get]
  split
  · rw [Option.map_map]
    rfl
  · rfl
theorem wipe_set {σ : L2.St} {vs : List Nat} {i : Nat} {o : Option V} (hi : i ∈ vs) : wipe (σ.set i o) vs = wipe σ vs := by
  apply List.ext_getElem?
  intro k
  rw [wipe_get, wipe_get]
  split
  · rw [List.getElem?_set]
    split
    · rename_i h
      subst h
      by_cases hl : i < σ.length
      · simp [hl]
      · simp [hl]
    · rfl
  · rename_i h
    have : i ≠ k := fun z => h (z ▸ hi)
    rw [List.getElem?_set_ne this]
theorem pd_gname {i : Nat} {x : Str} {vw : List Nat} (hN : X.N.Nodup) (hi : X.N[i]? = some x) (hx : Loc X.env.scope x) (hw : i ∈ vw := by decide) (hf : X.fn x = true ∨ X.env.scope.names.lookup x = some .local := by first | exact .inl rfl | exact .inr rfl | assumption) : PDG X E vw (.Name x pos) (gSet i) :=
  PG.weak' (pg_name hN hi hx hf) fun v σ H Q h => by
    obtain ⟨w, μ, ρ, d, rfl, st, rs, rv, p⟩ := h
    exact p w (.refl st) _ (rs.set i (o := some d) (x := some v) rv) (wipe_set hw)
def gsNil : List D → Rho → Mu → R Rho := fun l ρ μ => match l with
  | [] => .ok ρ μ
  | _ => .stuck
def gsCons (g : MG) (r : List D → Rho → Mu → R Rho) : List D → Rho → Mu → R Rho := fun l ρ μ => match l with
  | d :: l => (g d ρ μ).bind fun ρ1 μ1 => r l ρ1 μ1
  | [] => .stuck
def tgts (K : PySem.W.Frag) (mg : Str → Option Value) (E : XK) (vw : List Nat) (g : List D → Rho → Mu → R Rho) : TGs := fun vs σ H Q => ∃ w μ ρ l, w.H = H ∧ StOk K mg w μ ∧ RepS K mg w.F w.α ρ σ ∧ RepL K mg w.F w.α l vs ∧
  post K mg w (g l ρ μ) (fun ρ' w' _ => ∀ σ', RepS K mg w'.F w'.α ρ' σ' → wipe σ' vw = wipe σ vw → Q σ' w'.H) E
abbrev PDGs (X : Cx) (E : XK) (vw : List Nat) (t : List Expr) (g : List D → Rho → Mu → R Rho) : Prop := PGs X t (tgts X.K X.mg E vw g)
theorem PGs.weak' {e : List Expr} {t t' : TGs} (h : PGs X e t) (f : ∀ v σ H Q, t' v σ H Q → t v σ H Q) : PGs X e t' := ⟨fun pins s σ H v u Q I r q => h.run pins s σ H v u Q I r (f v σ H Q q)⟩
theorem pd_gsnil {vw : List Nat} : PDGs X E vw [] gsNil := PGs.weak' pgs_nil fun v σ H Q h => by
  obtain ⟨w, μ, ρ, l, rfl, st, rs, rv, p⟩ := h
  cases l with
  | nil =>
    simp only [RepL] at rv
    exact ⟨rv, p w (.refl st) σ rs rfl⟩
  | cons d l => exact p.elim
/-- what is wanted holds at the very slots -/
theorem tgt_slots {vw : List Nat} {g : MG} {v : V} {σ : L2.St} {H : Hp} {Q : L2.St → Hp → Prop} {w : Ws} {μ : Mu} {ρ : Rho} {d : D} (e : w.H = H) (st : StOk X.K X.mg w μ) (rs : RepS X.K X.mg w.F w.α ρ σ) (rv : Rep X.K X.mg w.F w.α d v)
    (p : post X.K X.mg w (g d ρ μ) (fun ρ' w' _ => ∀ σ', RepS X.K X.mg w'.F w'.α ρ' σ' → wipe σ' vw = wipe σ vw → Q σ' w'.H) E) : tgt X.K X.mg E vw g v σ H Q := ⟨w, μ, ρ, d, e, st, rs, rv, p⟩
theorem pd_gscons {vw : List Nat} {t : Expr} {ts : List Expr} {g : MG} {r : List D → Rho → Mu → R Rho} (h1 : PDG X E vw t g) (h2 : PDGs X E vw ts r) (hs : (assignEach (t :: ts) X.env).map (·.2) = assign t X.env :: (assignEach ts X.env).map (·.2) := by rfl) : PDGs X E vw (t :: ts) (gsCons g r) :=
  PGs.weak' (pgs_cons h1 h2 hs) fun v σ H Q h => by
    obtain ⟨w, μ, ρ, l, rfl, st, rs, rv, p⟩ := h
    cases l with
    | nil => exact p.elim
    | cons d l =>
      simp only [RepL] at rv
      obtain ⟨x, xs, rfl, r1, r2⟩ := rv
      refine ⟨x, xs, rfl, w, μ, ρ, d, rfl, st, rs, r1, (post.bind p).mono fun ρ1 w1 μ1 n1 q => ?_⟩
      intro σ1 rs1 hw1
      exact ⟨w1, μ1, ρ1, l, rfl, n1.st, rs1, RepL.mono n1.ext n1.pre _ _ r2, q.mono fun ρ2 w2 μ2 n2 q2 σ2 rs2 hw2 => q2 σ2 rs2 (hw2.trans hw1)⟩
def gTupD (n : Nat) (r : List D → Rho → Mu → R Rho) : MG := fun d ρ μ => match d with
  | .con .tup l => if l.length = n then r l ρ μ else .stuck
  | _ => .stuck
theorem pd_gtup' {vw : List Nat} {es : List Expr} {k : Nat} {g : List D → Rho → Mu → R Rho} {n : Nat} (hc : X.calm = true) (h : PDGs X E vw es g) (hn : (assignEach es X.env).length = n := by rfl) (hst : (assignEach es X.env).findIdx? (·.1) = none := by rfl) : PDG X E vw (.Tuple es k pos) (gTupD n g) :=
  PG.weak' (pg_tup hc h hn hst) fun v σ H Q h => by
    obtain ⟨w, μ, ρ, d, rfl, st, rs, rv, p⟩ := h
    unfold gTupD at p
    split at p
    · rename_i l
      split at p
      · rename_i hl
        obtain ⟨a, vs, rfl, h1, h2⟩ := st.read (c := .tup) (l := l) rv rfl
        exact ⟨a, vs, rfl, SqT.of h1, by rw [← h2.length]; exact hl, w, μ, ρ, l, rfl, st, rs, h2, p⟩
      · exact p.elim
    · exact p.elim
/-- a, b = a list -/
def gLstD (n : Nat) (r : List D → Rho → Mu → R Rho) : MG := fun d ρ μ => match view μ d with
  | .con .lst l => if l.length = n then r l ρ μ else .stuck
  | _ => .stuck
theorem pd_glst {vw : List Nat} {es : List Expr} {k : Nat} {g : List D → Rho → Mu → R Rho} {n : Nat} (hc : X.calm = true) (h : PDGs X E vw es g) (hn : (assignEach es X.env).length = n := by rfl) (hst : (assignEach es X.env).findIdx? (·.1) = none := by rfl) : PDG X E vw (.Tuple es k pos) (gLstD n g) :=
  PG.weak' (pg_unl hc h hn hst) fun v σ H Q h => by
    obtain ⟨w, μ, ρ, d, rfl, st, rs, rv, p⟩ := h
    unfold gLstD at p
    split at p
    · rename_i l e1
      split at p
      · rename_i hl
        obtain ⟨a, vs, rfl, h1, h2⟩ := st.read rv e1
        exact ⟨a, vs, rfl, SqL.of h1, by rw [← h2.length]; exact hl, w, μ, ρ, l, rfl, st, rs, h2, p⟩
      · exact p.elim
    · exact p.elim
/-! ### stores -/
theorem pd_set {i : Nat} {x : Str} {pos' : Pos} (hN : X.N.Nodup) (hi : X.N[i]? = some x) (hx : Loc X.env.scope x) (he : PDE X E e m) (hs : swapsWith e (some (.Name x pos')) pos.line X.env = pure false := by rfl) (hf : X.fn x = true ∨ X.env.scope.names.lookup x = some .local := by first | exact .inl rfl | exact .inr rfl | assumption) :
    PDS X E (.Assign [.Name x pos'] e pos) (sSet i m) := (ps_set hN hi hx he hs hf).weak fun D σ H q => by
  obtain ⟨w, μ, ρ, rfl, st, rs, p⟩ := q
  refine ⟨w, μ, ρ, rfl, st, rs, (post.bind p).mono fun x w1 μ1 n1 q => ?_⟩
  intro v hv
  exact q w1 (.refl n1.st) _ ((rs.mono n1.ext n1.pre).set i (o := some x) (x := some v) hv)
def sAsg (g : MG) (a : ME) : MS := fun ρ μ => (a ρ μ).bind fun d μ1 => (g d ρ μ1).bind fun ρ' μ2 => .ok (.nx, ρ') μ2
theorem pd_asg {vw : List Nat} {tg : Expr} {g : MG} (he : PDE X E e m) (hg : PDG X E vw tg g) (hs : swapsWithSole [tg] e pos.line X.env = pure false := by rfl) (hw : swappedStores [tg] e X.env = pure none := by rfl) (h1 : (assignEach [tg] X.env).map (·.2) = [assign tg X.env] := by rfl) :
    PDS X E (.Assign [tg] e pos) (sAsg g m) := (ps_asg he hg hs hw h1).weak fun D σ H q => by
  obtain ⟨w, μ, ρ, rfl, st, rs, p⟩ := q
  refine ⟨w, μ, ρ, rfl, st, rs, (post.bind p).mono fun x w1 μ1 n1 q => ?_⟩
  intro v hv
  refine ⟨w1, μ1, ρ, x, rfl, n1.st, rs.mono n1.ext n1.pre, hv, (post.bind q).mono fun ρ' w2 μ2 n2 q => ?_⟩
  intro σ' r' _
  exact q w2 (.refl n2.st) σ' r'
/-- a, b = e, f: two local names -/
def sPar (i j : Nat) (a : MA) : MS := fun ρ μ => (a ρ μ).bind fun l μ1 => match l with
  | [x, y] => .ok (.nx, (ρ.set i (some x)).set j (some y)) μ1
  | _ => .stuck
theorem pd_par {i j : Nat} {x y : Str} {a b : Expr} {m : MA} {px py pt : Pos} {kt k2 pt2} (hc : X.calm = true) (hN : X.N.Nodup) (hi : X.N[i]? = some x) (hj : X.N[j]? = some y) (hij : i ≠ j) (hx : X.env.scope.names.lookup x = some .local) (hy : X.env.scope.names.lookup y = some .local)
    (ha : PDA X E [a, b] m) (hw : swappedStores [.Tuple [.Name x px, .Name y py] kt pt] (.Tuple [a, b] k2 pt2) X.env = pure (some [x, y])) (hs : swapsWithSole [.Tuple [.Name x px, .Name y py] kt pt] (.Tuple [a, b] k2 pt2) pos.line X.env = pure false := by rfl) :
    PDS X E (.Assign [.Tuple [.Name x px, .Name y py] kt pt] (.Tuple [a, b] k2 pt2) pos) (sPar i j m) := (ps_par hc hN hi hj hij hx hy ha hw hs).weak fun D σ H q => by
  obtain ⟨w, μ, ρ, rfl, st, rs, p⟩ := q
  refine ⟨w, μ, ρ, rfl, st, rs, (post.bind p).mono fun l w1 μ1 n1 q => ?_⟩
  intro vs hv
  match l, hv, q with
  | [], _, q => exact q.elim
  | [_], _, q => exact q.elim
  | [x, y], hv, q =>
    simp only [RepL] at hv
    obtain ⟨v1, r1, rfl, h1, v2, r2, rfl, h2, rfl⟩ := hv
    exact ⟨v1, v2, rfl, q w1 (.refl n1.st) _ (((rs.mono n1.ext n1.pre).set i (o := some x) (x := some v1) h1).set j (o := some y) (x := some v2) h2)⟩
  | _ :: _ :: _ :: _, _, q => exact q.elim
/-- name += e -/
def sAug (i : Nat) (f : Mu → D → D → Option D) (a : ME) : MS := fun ρ μ => match ρ[i]? with
  | some (some x) => (a ρ μ).bind fun y μ1 => (lift (f μ1 x y) μ1).bind fun z μ2 => .ok (.nx, ρ.set i (some z)) μ2
  | _ => .stuck
theorem pd_aug {i : Nat} {x : Str} {op : Operator} {r : R2} {f : Mu → D → D → Option D} {pos' : Pos} (ho : OpR X (inplaceOp op) r) (hf2 : B2 X r f) (hN : X.N.Nodup) (hi : X.N[i]? = some x) (hx : Loc X.env.scope x) (he : PDE X E e m)
    (hf : X.fn x = true ∨ X.env.scope.names.lookup x = some .local := by first | exact .inl rfl | exact .inr rfl | assumption) : PDS X E (.AugAssign (.Name x pos') op e pos) (sAug i f m) :=
  (ps_aug (ti := r) hN hi hx he (fun pins s σ H x y v u Q I r1 r2 h => ho pins s σ H x y v u Q I r1 r2 h) hf).weak fun D σ H q => by
    obtain ⟨w, μ, ρ, rfl, st, rs, p⟩ := q
    unfold sAug at p
    split at p
    · rename_i x0 e0
      obtain ⟨v0, h1, h2⟩ := rs.get e0
      refine ⟨v0, h1, w, μ, ρ, rfl, st, rs, (post.bind p).mono fun y w1 μ1 n1 q => ?_⟩
      intro v hv
      obtain ⟨z, ez, q⟩ := post.lift (post.bind q)
      refine hf2 w1 μ1 x0 y z v0 v _ n1.st (Rep.mono n1.ext n1.pre _ _ h2) hv ez fun w2 v2 n2 r2 => ?_
      exact (q w2 n2) w2 (.refl n2.st) _ (((rs.mono n1.ext n1.pre).mono n2.ext n2.pre).set i (o := some z) (x := some v2) r2)
    · exact p.elim
end
/-! ### what is stored into a handle's thing -/
theorem StOk.ptr {w : Ws} {μ : Mu} (st : StOk X.K X.mg w μ) {k : Nat} {v : V} {c : Con} {l : List D} (r : Rep X.K X.mg w.F w.α (.ptr k) v) (hk : μ[k]? = some (.lv false c l)) :
    ∃ a vs u, v = .ref a ∧ w.α[k]? = some a ∧ w.F a = none ∧ c ≠ .tup ∧ HOof X.mg c vs u ∧ w.H a = some u ∧ RepL X.K X.mg w.F w.α l vs := by
  simp only [Rep] at r
  obtain ⟨a, rfl, ha⟩ := r
  obtain ⟨h1, h0, vs, u, h2, h3, h4⟩ := st.own k a _ ha hk
  exact ⟨a, vs, u, rfl, ha, h1, h0, h2, h3, h4⟩
theorem HOof.chg {mg : Str → Option Value} {c : Con} {vs : List V} {u : HO} (h : HOof mg c vs u) : chg u = true := by
  cases c with
  | tup =>
    have h' : u = .tup vs := h
    subst h'
    rfl
  | lst =>
    have h' : u = .lst vs := h
    subst h'
    rfl
  | scr => exact h.elim
  | ctup => exact h.elim
  | dK ks =>
    obtain ⟨_, rfl⟩ := h
    rfl
  | dT ks =>
    obtain ⟨_, rfl⟩ := h
    rfl
  | ins C fs =>
    obtain ⟨_, Ca, dx, _, rfl⟩ := h
    rfl
/-- a handle's thing becomes (c', l') -/
theorem StOk.put {w : Ws} {μ : Mu} (st : StOk X.K X.mg w μ) {k : Nat} {a : Addr} {u0 u : HO} {c c' : Con} {vs0 vs : List V} {l' : List D} (ha : w.α[k]? = some a) (hF : w.F a = none) (h0 : w.H a = some u0) (hu0 : HOof X.mg c vs0 u0) (hc : c' ≠ .tup) (hu : HOof X.mg c' vs u) (r : RepL X.K X.mg w.F w.α l' vs) :
    Nx X.K X.mg w ⟨w.F, w.α, upd w.H a u⟩ (μ.set k (.lv false c' l')) := st.write ha hF h0 hu0.chg hc false hu r u rfl
/-- o[i] = v -/
def setItemD (μ : Mu) (o i v : D) : Option Mu := match o with
  | .ptr k => match μ[k]? with
    | some (.lv false .lst l) => match i with
      | .int j => (ixN l.length j).map fun n => μ.set k (.lv false .lst (l.set n v))
      | _ => none
    | some (.lv false (.dK ks) l) => match keyD i with
      | some key => if fitL (l.length + 1) = true then some (μ.set k (.lv false (.dK (putKs ks key)) (putDs ks l key v))) else none
      | none => none
    | some (.lv false (.dT ks) l) => match i with
      | .con .tup m => match keysD m with
        | some key => if fitL (l.length + 1) = true then some (μ.set k (.lv false (.dT (putKs ks key)) (putDs ks l key v))) else none
        | none => none
      | _ => none
    | _ => none
  | _ => none
def rSet2 : TSet := fun o i v H Q => rSetL o i v H Q ∨ ∃ a H4, o = .ref a ∧ DPut H a i v H4 ∧ Q H4
theorem set_2 (hu : X.A.units + 1 < cLine) : PSet X rSet2 := by
  intro pins s σ H o i v ov iv u Q I ro ri rv h
  rcases h with h | ⟨a, H4, rfl, g, q⟩
  · exact set_list pins s σ H o i v ov iv u Q I ro ri rv h
  · obtain rfl : ov = Value.ref a := ro
    exact d_setItem hu I g ri rv fun s4 I4 => ⟨H4, I4, q⟩
theorem setItemD_rep {w : Ws} {μ μ' : Mu} {o i v : D} {vo vi vv : V} {Q : Hp → Prop} (st : StOk X.K X.mg w μ) (ro : Rep X.K X.mg w.F w.α o vo) (ri : Rep X.K X.mg w.F w.α i vi) (rv : Rep X.K X.mg w.F w.α v vv) (e : setItemD μ o i v = some μ') (k : ∀ w', Nx X.K X.mg w w' μ' → Q w'.H) :
    rSet2 vo vi vv w.H Q := by
  unfold setItemD at e
  split at e
  · rename_i kk
    split at e
    · rename_i l hk
      split at e
      · rename_i j
        obtain ⟨n, h1, rfl⟩ := Option.map_eq_some_iff.mp e
        obtain ⟨a, vs, u, rfl, ha, hF, hc, hu, hH, hr⟩ := st.ptr ro hk
        have hu' : u = .lst vs := hu
        subst hu'
        simp only [Rep] at ri
        refine .inl ⟨a, vs, j, n, rfl, ri, hH, by rw [← hr.length]; exact h1, ?_⟩
        exact k _ (st.put ha hF hH hu hc (c' := .lst) rfl (hr.set n rv))
      · cases e
    · rename_i ks l hk
      split at e
      · rename_i key e1
        split at e
        · rename_i hz
          cases e
          obtain ⟨a, vs, u, rfl, ha, hF, hc, hu, hH, hr⟩ := st.ptr ro hk
          obtain ⟨h1, rfl⟩ := hu
          obtain ⟨us, h2, h3, h4⟩ := putD_rep (x := key) h1 hr rv
          have hz' : l.length + 1 ≤ sizeLine := of_decide_eq_true hz
          refine .inr ⟨a, _, rfl, .inl ⟨_, key, hH, keyD_rep e1 ri, ?_, rfl⟩, ?_⟩
          · rw [List.length_zip, h1, Nat.min_self, ← hr.length]
            omega
          · rw [h2]
            exact k _ (st.put ha hF hH (c := .dK ks) ⟨h1, rfl⟩ (by intro z; cases z) (c' := .dK (putKs ks key)) ⟨h4, rfl⟩ h3)
        · cases e
      · cases e
    · rename_i ks l hk
      split at e
      · rename_i m
        split at e
        · rename_i key e1
          split at e
          · rename_i hz
            cases e
            obtain ⟨a, vs, u, rfl, ha, hF, hc, hu, hH, hr⟩ := st.ptr ro hk
            obtain ⟨h1, rfl⟩ := hu
            obtain ⟨us, h2, h3, h4⟩ := putD_rep (x := key) h1 hr rv
            obtain ⟨b, us', rfl, h5, h6⟩ := st.read (c := .tup) (l := m) ri rfl
            have e3 := keysD_rep e1 h6
            subst e3
            have hz' : l.length + 1 ≤ sizeLine := of_decide_eq_true hz
            refine .inr ⟨a, _, rfl, .inr ⟨_, key, b, hH, rfl, h5, ?_, rfl⟩, ?_⟩
            · rw [List.length_zip, h1, Nat.min_self, ← hr.length]
              omega
            · rw [h2]
              exact k _ (st.put ha hF hH (c := .dT ks) ⟨h1, rfl⟩ (by intro z; cases z) (c' := .dT (putKs ks key)) ⟨h4, rfl⟩ h3)
          · cases e
        · cases e
      · cases e
    · cases e
  · cases e
def gItem (o i : ME) : MG := fun v ρ μ => (o ρ μ).bind fun ov μ1 => (i ρ μ1).bind fun iv μ2 => (lift (setItemD μ2 ov iv v) μ2).bind fun μ3 _ => .ok ρ μ3
theorem pd_gitem {vw : List Nat} {o i : Expr} {mo mi : ME} {pos : Pos} (hu : X.A.units + 1 < cLine) (ho : PDE X E o mo) (hi : PDE X E i mi)
    (ha : ∀ v, assign (.Subscript o i pos) X.env v = (do
      let ov ← holding [v] (eval o X.env)
      let iv ← holding [v, ov] (eval i X.env)
      standAt pos
      holding [v, ov, iv] (setItem ov iv v)
      release [v, ov, iv] []) := by intro _; rfl) : PDG X E vw (.Subscript o i pos) (gItem mo mi) :=
  PG.weak' (pg_sub ho hi (set_2 hu) ha) fun v σ H Q h => by
    obtain ⟨w, μ, ρ, d, rfl, st, rs, rv, p⟩ := h
    refine ⟨w, μ, ρ, rfl, st, rs, (post.bind p).mono fun ov w1 μ1 n1 q => ?_⟩
    clear p
    intro vo hvo
    refine ⟨w1, μ1, ρ, rfl, n1.st, rs.mono n1.ext n1.pre, (post.bind q).mono fun iv w2 μ2 n2 q2 => ?_⟩
    clear q
    intro vi hvi
    obtain ⟨μ3, e3, q3⟩ := post.lift (post.bind q2)
    refine setItemD_rep n2.st (Rep.mono n2.ext n2.pre _ _ hvo) hvi (Rep.mono n2.ext n2.pre _ _ (Rep.mono n1.ext n1.pre _ _ rv)) e3 fun w3 n3 => ?_
    have q4 := (q3 w2 (.refl n2.st)) w3 n3
    exact q4 σ (((rs.mono n1.ext n1.pre).mono n2.ext n2.pre).mono n3.ext n3.pre) rfl
end
end MP

namespace MP
open PySem PySem.Spec L2
variable [Tb]
section
variable {X : Cx} {E : XK}
section
variable {K : PySem.W.Frag} {mg : Str → Option Value} {w : Ws} {μ : Mu}
/-- something new that nobody holds -/
theorem StOk.junk (s : StOk K mg w μ) {p : Addr} {u : HO} (h : w.H p = none) : Nx K mg w ⟨w.F, w.α, upd w.H p u⟩ μ := by
  have hF := s.freshF h
  have hA := s.freshA h
  refine ⟨Ext.refl, List.prefix_rfl, ⟨s.sub.updH hF, s.len, s.nd, fun k a ob ha hk => ?_, tt_upd h _ s.tb⟩, Fr.at p (fun _ _ => rfl) (fun _ _ z => z) (fun _ h => upd_ne h) (.inl h) (fun o u z => by rw [h] at z; cases z)⟩
  have o := s.own k a ob ha hk
  have hap : a ≠ p := fun z => hA (by rw [← z]; exact List.mem_of_getElem? ha)
  cases ob with
  | dead => exact o
  | lv lk c l =>
    obtain ⟨h1, h0, vs, x, h2, h3, h4⟩ := o
    exact ⟨h1, h0, vs, x, h2, h3.ne hap, h4⟩
end
/-! ### self.f = e -/
def putFs (f : Str) : List Str → List Str
  | [] => [f]
  | g :: r => if g = f then g :: r else g :: putFs f r
def putFl (f : Str) (d : D) : List Str → List D → List D
  | g :: r, x :: l => if g = f then d :: l else x :: putFl f d r l
  | _, _ => [d]
theorem putF_rep {K : PySem.W.Frag} {mg : Str → Option Value} {F : Hp} {α : List Addr} {f : Str} {d : D} {v : V} (rv : Rep K mg F α d v) : ∀ {fs : List Str} {l : List D} {vs : List V}, fs.length = vs.length → RepL K mg F α l vs →
    ∃ us, putF f v (fs.zip vs) = (putFs f fs).zip us ∧ RepL K mg F α (putFl f d fs l) us ∧ (putFs f fs).length = us.length
  | [], l, vs, hl, r => by
    have e : vs = [] := by
      cases vs with
      | nil => rfl
      | cons a b => cases hl
    subst e
    have e2 : l = [] := by
      have := r.length
      exact List.length_eq_zero_iff.mp (by simpa using this)
    subst e2
    exact ⟨[v], rfl, .cons rv .nil, rfl⟩
  | g :: fs, [], vs, hl, r => by
    simp only [RepL] at r
    subst r
    cases hl
  | g :: fs, x :: l, vs, hl, r => by
    simp only [RepL] at r
    obtain ⟨v', r', rfl, h1, h2⟩ := r
    by_cases e : g = f
    · refine ⟨v :: r', ?_, ?_, ?_⟩
      · simp [putF, putFs, e]
      · simp only [putFl, if_pos e]
        exact .cons rv h2
      · simpa [putFs, e] using hl
    · obtain ⟨us, h3, h4, h5⟩ := putF_rep (f := f) rv (fs := fs) (l := l) (by simpa using hl) h2
      refine ⟨v' :: us, ?_, ?_, ?_⟩
      · simp [putF, putFs, e, h3]
      · simp only [putFl, if_neg e]
        exact .cons h1 h4
      · simp [putFs, e, h5]
def setFldD (f : Str) (cs : List Str) (μ : Mu) (o v : D) : Option Mu := match o with
  | .ptr k => match μ[k]? with
    | some (.lv false (.ins C fs) l) => if C ∈ cs ∧ fs.length < 1000 then some (μ.set k (.lv false (.ins C (putFs f fs)) (putFl f v fs l))) else none
    | _ => none
  | _ => none
def sFldSet (f : Str) (cs : List Str) (o e : ME) : MS := fun ρ μ => (e ρ μ).bind fun v μ1 => (o ρ μ1).bind fun ov μ2 => (lift (setFldD f cs μ2 ov v) μ2).bind fun μ3 _ => .ok (.nx, ρ) μ3
theorem setFldD_rep {f : Str} {cs : List Str} (hk : FldOk X.K X.mg f cs) {w : Ws} {μ μ' : Mu} {o v : D} {vo vv : V} (st : StOk X.K X.mg w μ) (ro : Rep X.K X.mg w.F w.α o vo) (rv : Rep X.K X.mg w.F w.α v vv) (e : setFldD f cs μ o v = some μ') :
    ∃ a Ca dx fvs, vo = .ref a ∧ w.H a = some (.ins Ca dx fvs) ∧ Cls X.K Ca ∧ NoAttr X.K Ca f ∧ fvs.length < 1000 ∧ Nx X.K X.mg w ⟨w.F, w.α, upd w.H a (.ins Ca dx (putF f vv fvs))⟩ μ' := by
  unfold setFldD at e
  split at e
  · split at e
    · rename_i C fs l hk2
      split at e
      · rename_i hc
        cases e
        obtain ⟨a, vs, u, rfl, ha, hF, hcc, hu, hH, hr⟩ := st.ptr ro hk2
        obtain ⟨h1, Ca, dx, h2, rfl⟩ := hu
        obtain ⟨c1, c2⟩ := hk C hc.1 Ca h2
        obtain ⟨us, h3, h4, h5⟩ := putF_rep (f := f) rv h1 hr
        refine ⟨a, Ca, dx, _, rfl, hH, c1, c2, ?_, ?_⟩
        · rw [List.length_zip, h1, Nat.min_self, ← h1]
          exact hc.2
        · rw [h3]
          exact st.put ha hF hH (c := .ins C fs) ⟨h1, Ca, dx, h2, rfl⟩ (by intro z; cases z) (c' := .ins C (putFs f fs)) ⟨h5, Ca, dx, h2, rfl⟩ h4
      · cases e
    · cases e
  · cases e
theorem pd_fldset {o e : Expr} {f : Str} {cs : List Str} {mo me : ME} {pos pos' : Pos} (hk : FldOk X.K X.mg f cs) (ho : PDE X E o mo) (he : PDE X E e me) (hs : swapsWith e (some (.Attribute o f pos')) pos.line X.env = pure false := by rfl) : PDS X E (.Assign [.Attribute o f pos'] e pos) (sFldSet f cs mo me) :=
  (ps_fld ho he hs).weak fun D σ H h => by
    obtain ⟨w, μ, ρ, rfl, st, rs, p⟩ := h
    refine ⟨w, μ, ρ, rfl, st, rs, (post.bind p).mono fun v w1 μ1 n1 q => ?_⟩
    clear p
    intro vv hv
    refine ⟨w1, μ1, ρ, rfl, n1.st, rs.mono n1.ext n1.pre, (post.bind q).mono fun ov w2 μ2 n2 q2 => ?_⟩
    clear q
    intro vo ho
    obtain ⟨μ3, e3, q3⟩ := post.lift (post.bind q2)
    obtain ⟨a, Ca, dx, fvs, h1, h2, h3, h4, h5, n3⟩ := setFldD_rep hk n2.st ho (Rep.mono n2.ext n2.pre _ _ hv) e3
    refine ⟨a, Ca, dx, fvs, h1, h2, h3, h4, h5, ?_⟩
    exact (q3 w2 (.refl n2.st)) _ n3 σ (((rs.mono n1.ext n1.pre).mono n2.ext n2.pre).mono n3.ext n3.pre)
/-- self.f += e, one class -/
def sFldAugD (f C : Str) (g : Mu → D → D → Option D) (o e : ME) : MS := fun ρ μ => (o ρ μ).bind fun ov μ1 => (lift (fldD f [C] μ1 ov) μ1).bind fun x μ2 => (e ρ μ2).bind fun y μ3 => (lift (g μ3 x y) μ3).bind fun z μ4 =>
  (lift (setFldD f [C] μ4 ov z) μ4).bind fun μ5 _ => .ok (.nx, ρ) μ5
theorem setFld_class {f C : Str} {w : Ws} {μ μ' : Mu} {o v : D} {vo : V} {a Ca dx : Addr} {fvs : List (Str × V)} (st : StOk X.K X.mg w μ) (ro : Rep X.K X.mg w.F w.α o vo) (e : setFldD f [C] μ o v = some μ') (ha : vo = .ref a) (h : w.H a = some (.ins Ca dx fvs)) : X.mg C = some (.ref Ca) := by
  unfold setFldD at e
  split at e
  · split at e
    · rename_i C' fs l hk2
      split at e
      · rename_i hc
        obtain ⟨a', vs, u, ea, ha', hF, hcc, hu, hH, hr⟩ := st.ptr ro hk2
        rw [ha] at ea
        cases ea
        obtain ⟨h1, Ca', dx', h2, rfl⟩ := hu
        rw [h] at hH
        cases hH
        have eC : C' = C := by simpa using hc.1
        rw [← eC]
        exact h2
      · cases e
    · cases e
  · cases e
theorem pd_fldaug {o e : Expr} {f C : Str} {mo me : ME} {op : Operator} {r : R2} {g : Mu → D → D → Option D} {pos tpos : Pos} (hop : OpR X (inplaceOp op) r) (hf : B2 X r g) (hk : FldOk X.K X.mg f [C]) (ho : PDE X E o mo) (he : PDE X E e me) : PDS X E (.AugAssign (.Attribute o f tpos) op e pos) (sFldAugD f C g mo me) :=
  (ps_fldaug (rd := r) ho he fun pins s σ H x y u v Q I r1 r2 h => hop pins s σ H x y u v Q I r1 r2 h).weak fun D σ H h => by
    obtain ⟨w, μ, ρ, rfl, st, rs, p⟩ := h
    refine ⟨w, μ, ρ, rfl, st, rs, (post.bind p).mono fun ov w1 μ1 n1 q => ?_⟩
    clear p
    intro vo ho
    obtain ⟨x, e1, q1⟩ := post.lift (post.bind q)
    clear q
    unfold fldD at e1
    split at e1
    · rename_i C1 fs l ev
      split at e1
      · rename_i hC
        obtain ⟨a, vs, rfl, h1, h2⟩ := n1.st.read ho ev
        obtain ⟨h3, Ca, dx, h4, h5⟩ := h1
        obtain ⟨c1, c2⟩ := hk C1 hC Ca h4
        obtain ⟨vx, h6, h7⟩ := lookup_zip h2 e1
        have q2 := q1 w1 (.refl n1.st)
        refine ⟨a, Ca, dx, _, vx, rfl, h5, c1, c2, h6, w1, μ1, ρ, rfl, n1.st, rs.mono n1.ext n1.pre, (post.bind q2).mono fun y w2 μ2 n2 q3 => ?_⟩
        intro vy hy
        obtain ⟨z, e2, q4⟩ := post.lift (post.bind q3)
        refine hf w2 μ2 x y z vx vy _ n2.st (Rep.mono n2.ext n2.pre _ _ h7) hy e2 fun w3 vz n3 hz => ?_
        obtain ⟨μ5, e3, q5⟩ := post.lift (post.bind (q4 w3 n3))
        have ho3 := Rep.mono n3.ext n3.pre _ _ (Rep.mono n2.ext n2.pre _ _ ho)
        obtain ⟨a', Ca', dx', fvs, g1, g2, g3, g4, g5, n5⟩ := setFldD_rep hk n3.st ho3 hz e3
        cases g1
        have hcl := setFld_class n3.st ho3 e3 rfl g2
        have e5 : C1 = C := by simpa using hC
        rw [e5, hcl] at h4
        cases h4
        refine ⟨dx', fvs, g2, g5, ?_⟩
        exact (q5 w3 (.refl n3.st)) _ n5 σ ((((rs.mono n1.ext n1.pre).mono n2.ext n2.pre).mono n3.ext n3.pre).mono n5.ext n5.pre)
      · cases e1
    · cases e1
/-! ### C(..) -/
def eMake (C : Str) (f : MF) (n : Nat) (a : MA) : ME := fun ρ μ => (a ρ μ).bind fun l μ1 => if l.length + 1 = n then
  truncD μ1.length ((f (.ptr μ1.length :: l) (μ1 ++ [.lv false (.ins C []) []])).bind fun d μ2 => match d with
    | .non => .ok (.ptr μ1.length) μ2
    | _ => .stuck) else .stuck
/-- .. of a class whose things change no more behind __init__ -/
def eMakeF (C : Str) (f : MF) (n : Nat) (a : MA) : ME := fun ρ μ => (a ρ μ).bind fun l μ1 => if l.length + 1 = n then
  truncD μ1.length ((f (.ptr μ1.length :: l) (μ1 ++ [.lv false (.ins C []) []])).bind fun d μ2 => match d with
    | .non => (match frz FRZ μ2 (.ptr μ1.length) with
      | some (d', μ') => .ok d' μ'
      | none => .stuck)
    | _ => .stuck) else .stuck
section
variable {k : Nat} {f : Addr} {fd : FuncData} {ps : List Str} {m : MF} {ma : MA} {x : Str} {p pos : Pos} {e : Expr} {es : List Expr} {n : Nat} {Ca : Addr}
theorem tG_make {g : D → Mu → R D} (hg : ∀ {w w1 : Ws} {μ1 : Mu} {d : D} {v : V} {Q : VK}, Nx X.K X.mg w w1 μ1 → Rep X.K X.mg w1.F w1.α d v → post X.K X.mg w1 (g d μ1) (fun d w' _ => ∀ v, Rep X.K X.mg w'.F w'.α d v → Q v w'.H) E → Q v w1.H)
    (hC : X.mg x = some (.ref Ca)) {σ : L2.St} {H : Hp} {Q : VK}
    (h : tE X.K X.mg E (fun ρ μ => (ma ρ μ).bind fun l μ1 => if l.length + 1 = n then truncD μ1.length ((m (.ptr μ1.length :: l) (μ1 ++ [.lv false (.ins x []) []])).bind fun d μ2 => match d with
      | .non => g (.ptr μ1.length) μ2
      | _ => .stuck) else .stuck) σ H Q) :
    tA X.K X.mg E ma σ H fun vs H1 => ∀ y dx, H1 y = none → H1 dx = none → dx ≠ y → spF X.K X.mg n m (.ref y :: (vs ++ [])) (upd (upd H1 dx (.own y)) y (.ins Ca dx [])) (fun v H2 => v = .non ∧ Q (.ref y) H2) E := by
  obtain ⟨w, μ, ρ, rfl, st, rs, p⟩ := h
  refine ⟨w, μ, ρ, rfl, st, rs, (post.bind p).mono fun l w1 μ1 n1 q => ?_⟩
  clear p
  intro vs hv y dx hy hdx hne
  rw [List.append_nil]
  split at q
  · rename_i hl
    have q1 := post.trunc (by exact n1.st.len) q
    clear q
    have n2 := n1.st.junk (u := .own y) hdx
    have hy2 : (upd w1.H dx (.own y)) y = none := by
      rw [upd_ne hne.symm]
      exact hy
    have n3 := n2.st.push (c := .ins x []) (l := []) (vs := []) (u := .ins Ca dx []) hy2 (by intro z; cases z) ⟨rfl, Ca, dx, hC, rfl⟩ .nil
    have n13 := n2.trans n3
    have rp : Rep X.K X.mg w1.F (w1.α ++ [y]) (.ptr μ1.length) (.ref y) := by
      simp only [Rep]
      exact ⟨y, rfl, by rw [← n1.st.len]; simp⟩
    refine ⟨_, _, .ptr μ1.length :: l, rfl, n3.st, .cons rp (RepL.mono n13.ext n13.pre _ _ hv), by simp [← hl, hv.length], ?_⟩
    have q2 : post X.K X.mg _ _ _ E := post.bind (w := ⟨w1.F, w1.α ++ [y], upd (upd w1.H dx (.own y)) y (.ins Ca dx [])⟩) (by
      -- from w1 to the world with the new instance
      cases hr : (m (.ptr μ1.length :: l) (μ1 ++ [.lv false (.ins x []) []])).bind fun d μ2 => match d with
        | .non => g (.ptr μ1.length) μ2
        | _ => .stuck with
      | ok z μz =>
        rw [hr] at q1
        exact fun w' nn => q1 w' (n13.trans nn)
      | exc c z μz =>
        rw [hr] at q1
        exact fun w' ca dx v nn => q1 w' ca dx v (n13.trans nn)
      | stuck =>
        rw [hr] at q1
        exact q1)
    refine q2.mono fun d w4 μ4 n4 q4 => ?_
    intro v hv4
    cases d with
    | non =>
      simp only [Rep] at hv4
      refine ⟨hv4, ?_⟩
      exact hg n4 (Rep.mono n4.ext n4.pre _ _ rp) q4
    | _ => exact q4.elim
  · exact q.elim
theorem pd_make (M : L2.Mk X.K Ca f) (F : FnOk X.prog X.w X.K X.mg X.base (L2.CX X.prog X.w) k f fd ps (spF X.K X.mg n m)) (hr : Room (k + 1) X.A) (hg : Gl X x) (hm : X.mg x = some (.ref Ca)) (hb : Binds X.K fd ps [])
    (hx : Passes (L2.CX X.prog X.w) X E) (ha : PDA X E (e :: es) ma) (hdb : (x == ("__debug__" : Str)) = false := by decide) (he : starEach (e :: es) X.env = (false, eval e X.env) :: starEach es X.env := by rfl) (hpl : (backTo pos (starEach es X.env)).any (·.1) = false := by rfl) :
    PDE X E (.Call (.Name x p) (e :: es) [] pos) (eMake x m n ma) :=
  (pe_make (E := E) M F hr hg hm hb .nil hx ha hdb he hpl).weak fun σ H Q h => tG_make (g := fun d μ => .ok d μ) (fun n hr q => q _ (.refl n.st) _ hr) hm h
theorem pd_make0 (M : L2.Mk X.K Ca f) (F : FnOk X.prog X.w X.K X.mg X.base (L2.CX X.prog X.w) k f fd ps (spF X.K X.mg n m)) (hr : Room (k + 1) X.A) (hg : Gl X x) (hm : X.mg x = some (.ref Ca)) (hb : Binds X.K fd ps [])
    (hx : Passes (L2.CX X.prog X.w) X E) (hdb : (x == ("__debug__" : Str)) = false := by decide) : PDE X E (.Call (.Name x p) [] [] pos) (eMake x m n aNil) :=
  (pe_make0 (E := E) M F hr hg hm hb .nil hx hdb).weak fun σ H Q h => by
    obtain ⟨w, μ, ρ, e, st, rs, q⟩ := tG_make (g := fun d μ => .ok d μ) (fun n hr q => q _ (.refl n.st) _ hr) hm h
    have q2 := q w (.refl st) [] .nil
    rw [e] at q2
    exact q2
theorem pd_makeF (M : L2.Mk X.K Ca f) (F : FnOk X.prog X.w X.K X.mg X.base (L2.CX X.prog X.w) k f fd ps (spF X.K X.mg n m)) (hr : Room (k + 1) X.A) (hg : Gl X x) (hm : X.mg x = some (.ref Ca)) (hb : Binds X.K fd ps [])
    (hx : Passes (L2.CX X.prog X.w) X E) (ha : PDA X E (e :: es) ma) (hdb : (x == ("__debug__" : Str)) = false := by decide) (he : starEach (e :: es) X.env = (false, eval e X.env) :: starEach es X.env := by rfl) (hpl : (backTo pos (starEach es X.env)).any (·.1) = false := by rfl) :
    PDE X E (.Call (.Name x p) (e :: es) [] pos) (eMakeF x m n ma) :=
  (pe_make (E := E) M F hr hg hm hb .nil hx ha hdb he hpl).weak fun σ H Q h => tG_make (g := fun d μ => match frz FRZ μ d with
      | some (d', μ') => .ok d' μ'
      | none => .stuck) (fun {w w1 μ1 d v Q} n hr q => by
    split at q
    · rename_i d' μ' e
      obtain ⟨w2, x2, a2, b2, r2⟩ := frz_ok FRZ w1 μ1 μ' d d' v n.st hr e
      have := q w2 x2 v r2
      rw [a2] at this
      exact this
    · exact q.elim) hm h
end
/-! ### raise X(e) -/
def spExc (K : PySem.W.Frag) : Sp := fun vs H Q _ => ∃ a C v, vs = [V.ref a, v] ∧ OexC K C ∧ PySem.W.findIn K (.ref C) "value" = some none ∧ H a = some (exo a C none) ∧
  ∀ dx, H dx = none → dx ≠ a → Q .non (upd (upd H dx (exd dx [(("value" : Str), v)])) a (exo a C (some dx)))
structure ExcOk (X : Cx) (x : Str) (C : Addr) : Prop where
  g : X.mg x = some (.ref C)
  t : OexC X.K C
  nv : PySem.W.findIn X.K (.ref C) "value" = some none
def sRaise (C : Str) (a : ME) : MS := fun ρ μ => (a ρ μ).bind fun d μ1 => .exc C d μ1
theorem pd_raise {x : Str} {C fI : Addr} {k : Nat} {fd : FuncData} {ps : List Str} {e : Expr} {m : ME} {p pos pos' : Pos} {hx0 : Passes (L2.CX X.prog X.w) X (fun _ _ _ => False)} (hcalm : X.calm = true) (tk : Takes X (fun c d _ H => E c d H)) (T : ExcOk X x C)
    (iC : PySem.W.findIn X.K (.ref C) "__init__" = some (some (.ref fI))) (tI : PySem.W.typeIn X.K (.ref fI) = some (.type "function")) (F1 : FnOk X.prog X.w X.K X.mg X.base (L2.CX X.prog X.w) k fI fd ps (spExc X.K)) (hr : Room (k + 1) X.A) (hb : Binds X.K fd ps []) (hg : Gl X x)
    (ha : PDE X E e m) (hs : starEach [e] X.env = (false, eval e X.env) :: starEach [] X.env := by rfl) (hdb : (x == ("__debug__" : Str)) = false := by decide) :
    PDS X E (.Raise (some (.Call (.Name x p) [e] [] pos)) none pos') (sRaise x m) := by
  have ha1 : PDA X E [e] (aCons m aNil) := pd_cons ha pd_nil hs
  refine (ps_raise (W := fun c d _ H => E c d H) hcalm tk (pmk_oex (sp := spExc X.K) (dvs := []) T.t iC tI F1 hr hb .nil hx0 hg T.g ha1 hdb hs (by rfl))).weak fun De σ H h => ?_
  obtain ⟨w, μ, ρ, rfl, st, rs, p⟩ := h
  refine ⟨w, μ, ρ, rfl, st, rs, ?_⟩
  have p1 := post.bind p
  unfold aCons
  have goal : ∀ (d : MP.D) (w1 : Ws) (μ1 : Mu), Nx X.K X.mg w w1 μ1 → post X.K X.mg w1 (.exc x d μ1 : R (Fl × Rho)) (fun x w' μ' => ∀ σ', RepS X.K X.mg w'.F w'.α x.2 σ' → Ends.to X.K X.mg De x.1 w' σ') E →
      ∀ vs, RepL X.K X.mg w1.F w1.α [d] vs → vs.length ≤ 1000 ∧ ∀ a, w1.H a = none → spExc X.K (.ref a :: (vs ++ [])) (upd w1.H a (exo a C none))
        (fun v H2 => v = .non ∧ ∃ (dd : Addr) (fs : List (Str × V)), H2 a = some (exo a C (some dd)) ∧ H2 dd = some (exd dd fs) ∧ w1.H dd = none ∧ E (.ref C) (some dd) (upd (del H2 a) dd (.xd fs))) (fun _ _ _ => False) := by
    intro d w1 μ1 n1 q vs hv
    simp only [RepL] at hv
    obtain ⟨v, r, rfl, h1, rfl⟩ := hv
    refine ⟨by simp, fun a hna => ⟨a, C, v, rfl, T.t, T.nv, upd_same, fun dx hdx hne => ⟨rfl, dx, [(("value" : Str), v)], upd_same, ?_, ?_, ?_⟩⟩⟩
    · rw [upd_ne hne, upd_same]
    · rw [upd_ne hne] at hdx
      exact hdx
    · have hdx' : w1.H dx = none := by
        rw [upd_ne hne] at hdx
        exact hdx
      have eH : upd (del (upd (upd (upd w1.H a (exo a C none)) dx (exd dx [(("value" : Str), v)])) a (exo a C (some dx))) a) dx (.xd [(("value" : Str), v)]) = upd w1.H dx (.xd [(("value" : Str), v)]) := by
        funext b
        by_cases hb : b = dx
        · subst hb
          rw [upd_same, upd_same]
        · rw [upd_ne hb, upd_ne hb]
          by_cases hba : b = a
          · subst hba
            rw [del_same]
            exact hna.symm
          · rw [del_ne hba, upd_ne hba, upd_ne hb, upd_ne hba]
      rw [eH]
      have n2 := n1.st.junk (u := .xd [(("value" : Str), v)]) hdx'
      exact q _ C dx v n2 T.g upd_same (Rep.mono n2.ext n2.pre _ _ h1)
  cases hm : m ρ μ with
  | ok d μ1 =>
    rw [hm] at p1
    intro w1 n1
    exact goal d w1 μ1 n1 (p1 w1 n1)
  | exc c d μ1 =>
    rw [hm] at p1
    exact p1
  | stuck =>
    rw [hm] at p1
    exact p1
end
/-- the exceptions' __init__: self.value = value -/
theorem ok_excInit {P : Program} {w : World} {K : PySem.W.Frag} {mg : Str → Option Value} {base : Heap} {x qual : Str} {st : Stmt} {dvs : List V} {f : Addr} {fd : FuncData} {p1 p2 p3 p4 : Pos} (F : FunD K x qual (defArgs st) (defBody st) (defScope st) dvs [] f fd)
    (S : FnScope ["self", "value"] ["self", "value"] (defScope st)) (hb : defBody st = [.Assign [.Attribute (.Name "self" p1) "value" p2] (.Name "value" p3) p4])
    (hs : ∀ env, swapsWith (.Name "value" p3) (some (.Attribute (.Name "self" p1) "value" p2)) p4.line env = pure false := by intro _; rfl) :
    FnOk P w K mg base (L2.CX P w) 1 f fd ["self", "value"] (spExc K) := by
  refine F.ok S (fun vs H Q E h => ?_) (fun cdv A outer s H vs Q E hr h => ?_)
  · obtain ⟨a, C, v, rfl, _⟩ := h
    rfl
  · obtain ⟨a, C, v, rfl, T, nv, ha, q⟩ := h
    rw [hb]
    have v0 : Vis (defScope st) "self" := by
      rcases S.par "self" (by simp) with h | h
      · exact .inl h
      · exact .inr (.inl h)
    have v1 : Vis (defScope st) "value" := by
      rcases S.par "value" (by simp) with h | h
      · exact .inl h
      · exact .inr (.inl h)
    refine ⟨_, pss_one (ps_ost (pv 0 (hv := v0)) (pv 1 (hv := v1)) (hs _)), ?_⟩
    exact ⟨v, rfl, .ref a, rfl, a, C, rfl, T, nv, .inl ⟨ha, fun dx h1 h2 => q dx h1 h2⟩⟩
end MP

/-! enumerate over a tuple -/
namespace PySem
theorem mp_enumNew {v : Value} {o : Obj} {H : Heap → Prop} (B : Begins v o H) :
    Meets (Builtin.«enumerate.__new__» ⟨[.type "enumerate", v], []⟩) (fun _ R s => H s.heap ∧
      R (.ok (.ret (.ref (s.heap.push o).objs.size))) { s with heap := (s.heap.push o).push { cls := .type "enumerate", data := .fields #[.none, .bool false, .ref s.heap.objs.size, rawInt 0, .none, .none] } }) :=
  .of_wp fun prog w A R s h => by
    obtain ⟨hp, g, d, tk, os⟩ := s
    obtain ⟨h1, h⟩ := h
    have hsub := sub_enumerate
    have q1 : ∀ {A' : Around} {E : Value → Shared → Prop} {Q : Value → Shared → Prop}, Q (.ref hp.objs.size) ⟨hp.push o, g, d, tk, os⟩ → wpAny (model prog w) A' (pyIter v) Q E ⟨hp, g, d, tk, os⟩ :=
      fun q => B.iter prog w _ _ ⟨hp, g, d, tk, os⟩ _ h1 q
    wp_walk using q1
    refine wpAny_stack_any fun st => wpAny_pure ?_
    split
    · rename_i c _ _ _ _ _
      cases (c == Value.type "enumerate") <;> (wp_walk using q1; exact ⟨_, rfl, h⟩)
    · wp_walk using q1
      exact ⟨_, rfl, h⟩
theorem mp_enumCall {prog : Program} {w : World} {A : Around} {E : Value → Shared → Prop} {s : Shared} {v : Value} {o : Obj} {H : Heap → Prop} {Q : Value → Shared → Prop} (B : Begins v o H) (h1 : H s.heap)
    (h : ∀ h', IsEnum h' (s.heap.objs.size + 1) s.heap.objs.size 0 .none → h'.get? s.heap.objs.size = some o → h'.objs.size = s.heap.objs.size + 2 →
      (∀ b o, s.heap.get? b = some o → h'.get? b = some o) → Q (.ref (s.heap.objs.size + 1)) { s with heap := h' }) : wpAny (model prog w) A (call (.type "enumerate") [v]) Q E s := by
  refine callType_new F.called_enumerate (by decide) (F.typeCall_enumerate_1 _) (F.newCall_enumerate_1 _) (fun obj => F.args_object_init_2 obj _) F.entry_enumerate_new (mp_enumNew B) ⟨h1, ?_⟩
  have hz : (s.heap.push o).objs.size = s.heap.objs.size + 1 := Heap.size_push ..
  show _ ∧ _
  rw [hz]
  have he : IsEnum ((s.heap.push o).push { cls := .type "enumerate", data := .fields #[.none, .bool false, .ref s.heap.objs.size, rawInt 0, .none, .none] }) (s.heap.objs.size + 1) s.heap.objs.size 0 .none := by
    have z := Heap.get?_push_size (s.heap.push o) (o := { cls := .type "enumerate", data := .fields #[.none, .bool false, .ref s.heap.objs.size, rawInt 0, .none, .none] }) rfl
    rw [hz] at z
    exact z
  refine ⟨⟨_, he, rfl⟩, h _ he (Heap.get?_push_of_some _ (Heap.get?_push_size _ B.free)) (by rw [Heap.size_push, hz]) fun b o x => Heap.get?_push_of_some _ (Heap.get?_push_of_some _ x)⟩
end PySem
namespace MP
open PySem PySem.Spec L2
variable [Tb]
def IteT (K : PySem.W.Frag) (a : Addr) : It :=
  ⟨fun i H => ∃ (xs : List V) (x : V), SqT K H a xs ∧ xs[i]? = some x, fun i H v H' => ∃ T x, v = .ref T ∧ H T = none ∧ H' = upd H T (.tup [.int (i : Nat), x]) ∧ ∀ xs, SqT K H a xs → xs[i]? = some x,
    fun i H => ∃ xs : List V, SqT K H a xs ∧ xs.length ≤ i⟩
theorem turn_enumT {P : Program} {w : World} {K : PySem.W.Frag} {elts : List Expr} {kk : Nat} {tpos : Pos} (a e it : Addr) (hae : a ≠ e) (hai : a ≠ it) :
    Turn P w K (.Tuple elts kk tpos) (IteT K a) [e, it] e (fun i h => (∃ old, IsEnum h e it ((i : Nat) : Int) old) ∧ h.IsTupleIter it a i ∧ e ≠ it) where
  mem := by simp
  obj := fun i h st b hb => by
    obtain ⟨⟨old, he⟩, ⟨o, ho, hc, hd⟩, _⟩ := st
    have e' : b = e ∨ b = it := by simpa using hb
    rcases e' with z | z
    · rw [z]
      exact ⟨_, he, fun v q => nomatch q⟩
    · rw [z]
      exact ⟨o, ho, fun v q => by rw [hd] at q; cases q⟩
  keep := fun i h h' st k => ⟨⟨st.1.choose, k e (by simp) _ st.1.choose_spec⟩, st.2.1.at fun o q => k it (by simp) o q, st.2.2⟩
  item := by
    intro X hP hw hK hc i pins s σ H E I hf st hg
    subst hP hw hK
    obtain ⟨⟨old, he⟩, hit, hne⟩ := st
    obtain ⟨xs, x, hq, hx⟩ := hg
    obtain ⟨its, rv, p, hz⟩ := I.tuple hq
    obtain ⟨u, hu, ru⟩ := rv.get hx
    have hel : e < s.heap.objs.size := Heap.lt_size he
    have hil : it < s.heap.objs.size := by
      obtain ⟨_, q, _⟩ := hit
      exact Heap.lt_size q
    have hi : i < its.toArray.size := by
      have := (List.getElem?_eq_some_iff.mp hu).1
      simpa using this
    have hts : s.heap.IsTuple a its.toArray := p
    have hea : e ∉ ([it, a] : List Addr) := by
      simp only [List.mem_cons, List.mem_nil_iff, or_false, not_or]
      exact ⟨hne, hae.symm⟩
    refine wpAny_pyNext_enum_itemD (Draws.tuple (A := X.A.in1) (by have := I.ok.hd hc; exact this) it a hai its.toArray) he ⟨hit, hts⟩ hi hne hea fun u' h' tk hu' ho hit' hT hsz hk => ?_
    have eu : u' = u := by
      have : its.toArray[i]? = some u' := hu'
      rw [List.getElem?_toArray] at this
      rw [hu] at this
      exact (Option.some.inj this).symm
    subst eu
    refine ⟨_, rfl, wpAny_letOwnedTupleGo_enum (s := { s with heap := h', toks := tk + 1 }) ho fun h'' he' sb => ?_⟩
    have hT2 : h''.get? s.heap.objs.size = some { cls := .type "tuple", data := .seq #[.int i tk, u'] } := (sb.2 _ (Nat.ne_of_gt hel)).trans hT
    have new : ObjOk X.prog X.w (upd H s.heap.objs.size (.tup [.int (i : Nat), x])) h'' s.heap.objs.size (.tup [.int (i : Nat), x]) :=
      ⟨by show 2 ≤ sizeLine; decide, [.int i tk, u'], .cons ⟨_, rfl⟩ (.cons ru .nil), ⟨_, hT2, rfl, _, rfl⟩⟩
    have I1 : Inv X pins σ (upd H s.heap.objs.size (.tup [.int (i : Nat), x])) { s with heap := h'', toks := tk + 1 } :=
      I.turnedNew (ch := [e, it]) (fun b ob hb q => (sb.2 b (fun z => hb (by simp [z]))).trans (hk b ob (fun z => hb (by simp [z])) (fun z => hb (by simp [z])) q)) hf (Nat.le_refl _) new
    refine ⟨.ref s.heap.objs.size, _, I1, rfl, ⟨_, x, rfl, I.hok.fresh (Nat.le_refl _), rfl, fun ys hy => by rw [I.tuple_inj hy hq]; exact hx⟩, ⟨⟨u', ?_⟩, hit'.1.at fun o q => (sb.2 it (Ne.symm hne)).trans q, hne⟩, fun b hb => ?_⟩
    · have e1 : ((i + 1 : Nat) : Int) = (i : Int) + 1 := by omega
      rw [e1]
      exact he'
    · have hb' : b < s.heap.objs.size := by
        have e' : b = e ∨ b = it := by simpa using hb
        rcases e' with z | z
        · rw [z]; exact hel
        · rw [z]; exact hil
      rw [upd_ne (Nat.ne_of_lt hb')]
      exact (hf b hb).1
  done := by
    intro X hP hw hK hc i pins s σ H E I hf st hg
    subst hP hw hK
    obtain ⟨⟨old, he⟩, hit, hne⟩ := st
    obtain ⟨xs, hq, hx⟩ := hg
    obtain ⟨its, rv, p, hz⟩ := I.tuple hq
    obtain ⟨f0, f1, f2, f3, f4, f5⟩ := hf it (by simp)
    have hl := rv.length
    have hts : s.heap.IsTuple a its.toArray := p
    have hT : s.TypeIs (.ref e) "enumerate" := ⟨_, he, rfl⟩
    unfold pyNext
    refine wpAny_bind (wpAny_attempt (wpAny_callSpecial?_slot (name := Str.ofString "__next__") hT F.slot_enumerate_next (wpAny_call_entry F.slot_enumerate_next hT F.entry_enumerate_next ?_ (F.args_enumerate_next_1 _))))
    show wpAny _ _ (field (.ref e) 2 >>= _) _ _ _
    refine wpAny_bind (wpAny_field he rfl (x := .ref it) rfl ?_)
    refine wpAny_bind (wpAny_nextOf_tuple_end (A := X.A.in1) (by have := I.ok.hd hc; exact this) hit hts (by simp; omega) fun h' x hk hx' => ?_)
    obtain ⟨o, ho, hc'⟩ := hx'
    refine wpAny_bind (wpAny_isInstance (T := "StopIteration") (b := true) ⟨o, ho, hc'⟩ isSubtype_stop ?_)
    exact wpAny_pure ⟨rfl, I.turned (t' := s.toks) (fun b o hb q => hk b o hb q) f0 f1 f3 f4 f5⟩
  self := fun A i s Q E st h => wpAny_pyIter_enum st.1.choose_spec h
/-- a list or a tuple -/
def iEnumA (K : PySem.W.Frag) (ta : TA) : TI := fun σ H R => ta σ H fun vs H1 => ∃ a xs, vs = [.ref a] ∧ ((SqL K H1 a xs ∧ R (Ite K a) H1) ∨ (SqT K H1 a xs ∧ R (IteT K a) H1))
theorem pi_enumA {X : Cx} {e : Expr} {ta : TA} {p pos tpos : Pos} {elts : List Expr} {kk : Nat} (hg : Gl X "enumerate") (hm : X.mg "enumerate" = none) (ha : PA X [e] ta) (hs : starEach [e] X.env = [(false, eval e X.env)] := by rfl) :
    PI X (.Tuple elts kk tpos) (.Call (.Name "enumerate" p) [e] [] pos) (iEnumA X.K ta) := by
  refine ⟨fun pins s σ H R I h => ?_⟩
  refine PyProof.Rows.Call_ (ld_blt I hg hm PyProof.Rows.boot_enumerate (PyProof.Rows.callWith_type1 (thn (ha.run pos pins s σ H _ I h) fun us s1 ⟨vs, H1, I1, r1, q1⟩ => ?_) hs rfl))
  obtain ⟨a, xs, ex, q1⟩ := q1
  subst ex
  cases r1 with
  | cons r rr =>
    cases rr
    cases r
    have fin : ∀ {J : It} {tn : Nat → Heap → Prop} {h' : Heap}, Turn X.prog X.w X.K (.Tuple elts kk tpos) J [s1.heap.objs.size + 1, s1.heap.objs.size] (s1.heap.objs.size + 1) tn → tn 0 h' → R J H1 → (∀ b o, s1.heap.get? b = some o → h'.get? b = some o) →
        PIE X pins σ (.Tuple elts kk tpos) R (.ref (s1.heap.objs.size + 1)) { s1 with heap := h' } := fun {J tn h'} T t0 q hk => by
      have I2 : Inv X pins σ H1 { s1 with heap := h' } := I1.kept (t' := s1.toks) hk
      refine ⟨s1.heap.objs.size + 1, [s1.heap.objs.size + 1, s1.heap.objs.size], _, _, H1, rfl, I2, T, t0, fun b hb => ?_, q⟩
      have e' : b = s1.heap.objs.size + 1 ∨ b = s1.heap.objs.size := by simpa using hb
      have hle : s1.heap.objs.size ≤ b := by
        rcases e' with z | z
        · rw [z]; exact Nat.le_add_right _ _
        · rw [z]; exact Nat.le_refl _
      exact I1.fpOk hle (I1.hok.fresh hle)
    rcases q1 with ⟨hq, q⟩ | ⟨hq, q⟩
    · obtain ⟨its, rv, p', hz⟩ := I1.list hq
      exact call_enumerate_list p'.isList fun h' he hit hsz hk => wpAny_pyIter_enum he (fin (turn_enum a _ _) ⟨⟨.none, he⟩, hit, Nat.succ_ne_self _⟩ q hk)
    · obtain ⟨its, rv, p', hz⟩ := I1.tuple hq
      have hts : s1.heap.IsTuple a its.toArray := p'
      have hlt : a < s1.heap.objs.size := by
        obtain ⟨o, ho, _⟩ := hts
        exact Heap.lt_size ho
      exact mp_enumCall (begins_tuple a its.toArray) hts fun h' he hit hsz hk => wpAny_pyIter_enum he (fin (turn_enumT a _ _ (Nat.ne_of_lt (Nat.lt_succ_of_lt hlt)) (Nat.ne_of_lt hlt)) ⟨⟨.none, he⟩, ⟨_, hit, rfl, rfl⟩, Nat.succ_ne_self _⟩ q hk)
theorem walk_enumT {K : PySem.W.Frag} {a : Addr} {xs : List V} : Walk (IteT K a) xs.length (fun H => SqT K H a xs) (YPair (fun i => some (.int (i : Nat))) (fun i => xs[i]?)) := by
  refine ⟨fun i _ hi q => ⟨xs, xs[i], q, by simp [hi]⟩, fun _ q => ⟨xs, q, Nat.le_refl _⟩, fun i H v H' _ q y => ?_⟩
  obtain ⟨T, x, h1, h2, h3, h4⟩ := y
  exact ⟨T, .int (i : Nat), x, h1, h2, h3, rfl, h4 xs q⟩
end MP

namespace MP
open PySem PySem.Spec L2
variable [Tb]
/-! ### what is walked: the items as they stand -/
abbrev Rdr := Mu → Option (List D)
abbrev MI := Rho → Mu → R Rdr
def Yields (K : PySem.W.Frag) (mg : Str → Option Value) (w0 : Ws) (J : It) (rd : Rdr) : Prop :=
  ∀ (w : Ws) (μ : Mu) (l : List D), Ext w0.F w.F → w0.α <+: w.α → Fr w0 w → StOk K mg w μ → rd μ = some l →
    J.stop l.length w.H ∧ ∀ (i : Nat) (x : D), l[i]? = some x → J.go i w.H ∧ ∀ v H', J.yld i w.H v H' → ∃ w', w'.H = H' ∧ Nx K mg w w' μ ∧ Rep K mg w'.F w'.α x v
def tI (K : PySem.W.Frag) (mg : Str → Option Value) (E : XK) (m : MI) : TI := fun σ H R => tG K mg E m σ H fun rd w' _ _ => ∀ J, Yields K mg w' J rd → R J w'.H
abbrev PDI (X : Cx) (E : XK) (tg iter : Expr) (m : MI) : Prop := PI X tg iter (tI X.K X.mg E m)
theorem PI.weak' {X : Cx} {tg e : Expr} {t t' : TI} (h : PI X tg e t) (f : ∀ σ H Q, t' σ H Q → t σ H Q) : PI X tg e t' := ⟨fun pins s σ H Q I q => h.run pins s σ H Q I (f σ H Q q)⟩
/-! ### for -/
def loopN (rd : Rdr) (g : MG) (b : MS) : Nat → Nat → MS
  | 0, i, ρ, μ => match rd μ with
    | some l => if l.length = i then .ok (.nx, ρ) μ else .stuck
    | none => .stuck
  | n + 1, i, ρ, μ => match (rd μ).bind (·[i]?) with
    | some x => (g x ρ μ).bind fun ρ1 μ1 => (b ρ1 μ1).bind fun r μ2 => match r.1 with
      | .nx => loopN rd g b n (i + 1) r.2 μ2
      | .ct => loopN rd g b n (i + 1) r.2 μ2
      | .bk => .ok (.nx, r.2) μ2
      | .rt d => .ok (.rt d, r.2) μ2
    | none => .stuck
def sFor (it : MI) (g : MG) (b : MS) : MS := fun ρ μ => (it ρ μ).bind fun rd μ1 => match rd μ1 with
  | some l => loopN rd g b l.length 0 ρ μ1
  | none => .stuck
section
variable {X : Cx} {E : XK}
theorem pd_for {vw : List Nat} {tg iter : Expr} {body : List Stmt} {mi : MI} {g : MG} {b : MS} {pos : Pos} (hp : PassesOwn (model X.prog X.w) X.A X.env X.xe) (hc : X.calm = true) (hi : PDI X E tg iter mi) (hg : PDG X E vw tg g) (hb : PDSs X E body b)
    (hs : ∀ x, foldedSetIterable iter X.env x = pure x := by intro _; rfl) : PDS X E (.For tg iter body [] pos) (sFor mi g b) :=
  (ps_for hp hc hi hg hb hs).weak fun De σ H h => by
    obtain ⟨w, μ, ρ, rfl, st, rs, p⟩ := h
    refine ⟨w, μ, ρ, rfl, st, rs, (post.bind p).mono fun rd w1 μ1 n1 q => ?_⟩
    clear p
    intro J hJ
    split at q
    · rename_i l0 _
      refine ⟨fun i m σ H => ∃ w μ ρ, w.H = H ∧ StOk X.K X.mg w μ ∧ RepS X.K X.mg w.F w.α ρ σ ∧ Ext w1.F w.F ∧ w1.α <+: w.α ∧ Fr w1 w ∧
        post X.K X.mg w (loopN rd g b m i ρ μ) (fun x w' _ => ∀ σ', RepS X.K X.mg w'.F w'.α x.2 σ' → Ends.to X.K X.mg De x.1 w' σ') E,
        ⟨l0.length, w1, μ1, ρ, rfl, n1.st, rs.mono n1.ext n1.pre, .refl, List.prefix_rfl, .refl, q⟩, ?_⟩
      clear q
      rintro i m σ2 H2 ⟨w2, μ2, ρ2, rfl, s2, r2, e2, p2, f2, q⟩
      cases m with
      | zero =>
        refine .inl ?_
        unfold loopN at q
        split at q
        · rename_i l hl
          split at q
          · rename_i hi
            obtain ⟨h1, _⟩ := hJ w2 μ2 l e2 p2 f2 s2 hl
            rw [hi] at h1
            exact ⟨h1, q w2 (.refl s2) σ2 r2⟩
          · exact q.elim
        · exact q.elim
      | succ m =>
        refine .inr ?_
        unfold loopN at q
        split at q
        · rename_i x hx
          obtain ⟨l, hl, hx⟩ := Option.bind_eq_some_iff.mp hx
          obtain ⟨_, h1⟩ := hJ w2 μ2 l e2 p2 f2 s2 hl
          obtain ⟨h1, h2⟩ := h1 i x hx
          refine ⟨h1, _, fun σ' H' hN => ⟨m, Nat.lt_succ_self m, hN⟩, fun v H' y => ?_⟩
          obtain ⟨w3, rfl, n3, r3⟩ := h2 v H' y
          refine ⟨w3, μ2, ρ2, x, rfl, n3.st, r2.mono n3.ext n3.pre, r3, (post.bind (post.later n3 q)).mono fun ρ4 w4 μ4 n4 q4 => ?_⟩
          clear q
          intro σ4 r4 _
          refine ⟨w4, μ4, ρ4, rfl, n4.st, r4, (post.bind q4).mono fun r w5 μ5 n5 q5 => ?_⟩
          clear q4
          intro σ5 r5
          obtain ⟨f, ρ5⟩ := r
          have e5 : Ext w1.F w5.F := e2.trans (n3.ext.trans (n4.ext.trans n5.ext))
          have p5 : w1.α <+: w5.α := p2.trans (n3.pre.trans (n4.pre.trans n5.pre))
          have f5 : Fr w1 w5 := f2.trans (n3.fr.trans (n4.fr.trans n5.fr))
          cases f with
          | nx => exact ⟨w5, μ5, ρ5, rfl, n5.st, r5, e5, p5, f5, q5⟩
          | ct => exact ⟨w5, μ5, ρ5, rfl, n5.st, r5, e5, p5, f5, q5⟩
          | bk => exact q5 w5 (.refl n5.st) σ5 r5
          | rt d => exact q5 w5 (.refl n5.st) σ5 r5
        · exact q.elim
    · exact q.elim
/-! ### while -/
def whileN (c : MT) (b : MS) : Nat → MS
  | 0, _, _ => .stuck
  | n + 1, ρ, μ => (c ρ μ).bind fun k μ1 => if k = true then (b ρ μ1).bind fun r μ2 => (match r.1 with
      | .nx => whileN c b n r.2 μ2
      | .ct => whileN c b n r.2 μ2
      | .bk => .ok (.nx, r.2) μ2
      | .rt d => .ok (.rt d, r.2) μ2) else .ok (.nx, ρ) μ1
def sWhile (fuel : Nat) (c : MT) (b : MS) : MS := whileN c b fuel
theorem pd_while {c : Expr} {body : List Stmt} {mc : MT} {b : MS} {pos : Pos} (fuel : Nat) (hp : PassesOwn (model X.prog X.w) X.A X.env X.xe) (hc : PDT X E c mc) (hb : PDSs X E body b) : PDS X E (.While c body [] pos) (sWhile fuel mc b) :=
  (ps_while hp hc hb).weak fun De σ H h => by
    obtain ⟨w, μ, ρ, rfl, st, rs, p⟩ := h
    refine ⟨fun m σ H => ∃ w μ ρ, w.H = H ∧ StOk X.K X.mg w μ ∧ RepS X.K X.mg w.F w.α ρ σ ∧
        post X.K X.mg w (whileN mc b m ρ μ) (fun x w' _ => ∀ σ', RepS X.K X.mg w'.F w'.α x.2 σ' → Ends.to X.K X.mg De x.1 w' σ') E, ⟨fuel, w, μ, ρ, rfl, st, rs, p⟩, ?_⟩
    clear p
    rintro m σ2 H2 ⟨w2, μ2, ρ2, rfl, s2, r2, q⟩
    cases m with
    | zero => exact q.elim
    | succ m =>
      unfold whileN at q
      refine ⟨w2, μ2, ρ2, rfl, s2, r2, (post.bind q).mono fun k w3 μ3 n3 q3 => ?_⟩
      clear q
      cases k with
      | true =>
        rw [if_pos rfl] at q3 ⊢
        refine ⟨_, fun σ' H' hN => ⟨m, Nat.lt_succ_self m, hN⟩, w3, μ3, ρ2, rfl, n3.st, r2.mono n3.ext n3.pre, (post.bind q3).mono fun r w4 μ4 n4 q4 => ?_⟩
        clear q3
        intro σ4 r4
        obtain ⟨f, ρ4⟩ := r
        cases f with
        | nx => exact ⟨w4, μ4, ρ4, rfl, n4.st, r4, q4⟩
        | ct => exact ⟨w4, μ4, ρ4, rfl, n4.st, r4, q4⟩
        | bk => exact q4 w4 (.refl n4.st) σ4 r4
        | rt d => exact q4 w4 (.refl n4.st) σ4 r4
      | false =>
        rw [if_neg (by decide)] at q3 ⊢
        exact q3 w3 (.refl n3.st) σ2 (r2.mono n3.ext n3.pre)
/-! ### lists, tuples, texts -/
def charsD (x : Str) : List D := x.cps.toList.map fun c => .str ⟨#[c]⟩
def rdL (d : D) : Rdr := fun μ => match view μ d with
  | .con .lst l => some l
  | .con .scr l => some l
  | _ => none
def rdOf (μ : Mu) (d : D) : Option Rdr := match view μ d with
  | .con .lst _ => some (rdL d)
  | .con .scr _ => some (rdL d)
  | .con .tup l => some fun _ => some l
  | .con .ctup l => some fun _ => some l
  | .str x => some fun _ => some (charsD x)
  | _ => none
def iSeq (a : ME) : MI := fun ρ μ => (a ρ μ).bind fun d μ1 => lift (rdOf μ1 d) μ1
def iAny (K : PySem.W.Frag) (te : TE) : TI := fun σ H R => te σ H fun v H1 => (∃ a xs, v = .ref a ∧ SqL K H1 a xs ∧ R (Itl K a) H1) ∨ (∃ a xs, v = .ref a ∧ SqT K H1 a xs ∧ R (Itt K a) H1) ∨ ∃ x, v = .str x ∧ R (Its x) H1
theorem pi_any {tg e : Expr} {te : TE} (he : PE X e te) : PI X tg e (iAny X.K te) := by
  refine ⟨fun pins s σ H R I h => ?_⟩
  refine thn (he.run pins s σ H _ I h) fun v s1 ⟨x, H1, I1, r1, q⟩ => ?_
  have one : ∀ {o : Obj} {J : It} {tn : Nat → Heap → Prop}, Turn X.prog X.w X.K tg J [s1.heap.objs.size] s1.heap.objs.size tn → tn 0 (s1.heap.push o) → R J H1 → PIE X pins σ tg R (.ref s1.heap.objs.size) { s1 with heap := s1.heap.push o } :=
    fun {o J tn} T t0 q => pi_one (tk := s1.toks) I1 o T t0 q
  rcases q with ⟨a, xs, rfl, hq, q⟩ | ⟨a, xs, rfl, hq, q⟩ | ⟨y, rfl, q⟩
  · cases r1
    obtain ⟨its, rv, p, hz⟩ := I1.list hq
    exact wpAny_pyIter_list p.isList (one (turn_list a _) ⟨_, Heap.get?_push_size _ rfl, rfl, rfl⟩ q)
  · cases r1
    obtain ⟨its, rv, p, hz⟩ := I1.tuple hq
    exact wpAny_pyIter_tuple (show s1.heap.IsTuple a its.toArray from p) (one (turn_tuple a _) ⟨_, Heap.get?_push_size _ rfl, rfl, rfl⟩ q)
  · obtain ⟨t, rfl⟩ := r1
    cases ha : y.cps.all (· < 128)
    · exact wpAny_pyIter_wide ha (one (turn_str _ y t "str_iterator" (.inr rfl)) ⟨_, Heap.get?_push_size _ rfl, rfl, rfl⟩ q)
    · exact wpAny_pyIter_ascii ha (one (turn_str _ y t "str_ascii_iterator" (.inl rfl)) ⟨_, Heap.get?_push_size _ rfl, rfl, rfl⟩ q)
theorem rdL_at {w : Ws} {μ : Mu} {d : D} {v : V} {l : List D} (st : StOk X.K X.mg w μ) (r : Rep X.K X.mg w.F w.α d v) (h : rdL d μ = some l) : ∃ a vs, v = .ref a ∧ SqL X.K w.H a vs ∧ RepL X.K X.mg w.F w.α l vs := by
  unfold rdL at h
  split at h
  · rename_i l' e
    cases h
    obtain ⟨a, vs, rfl, h1, h2⟩ := st.read r e
    exact ⟨a, vs, rfl, SqL.of h1, h2⟩
  · rename_i l' e
    cases h
    obtain ⟨a, vs, rfl, h1, h2⟩ := st.read r e
    exact ⟨a, vs, rfl, h1, h2⟩
  · cases h
theorem yl_list {w : Ws} {a : Addr} {d : D} (r : Rep X.K X.mg w.F w.α d (.ref a)) : Yields X.K X.mg w (Itl X.K a) (rdL d) := by
  intro w2 μ2 l e p _ s2 hl
  obtain ⟨a', vs, ea, h1, h2⟩ := rdL_at s2 (Rep.mono e p _ _ r) hl
  cases ea
  refine ⟨⟨vs, h1, by rw [h2.length]; exact Nat.le_refl _⟩, fun i x hx => ?_⟩
  obtain ⟨v, h3, h4⟩ := h2.get hx
  refine ⟨⟨vs, v, h1, h3⟩, fun v' H' y => ?_⟩
  obtain ⟨rfl, y⟩ := y
  have z := y vs h1
  rw [h3] at z
  cases z
  exact ⟨w2, rfl, .refl s2, h4⟩
/-- a tuple: c is .tup or .ctup -/
def TupC (c : Con) : Prop := c = .tup ∨ c = .ctup
theorem con_self {w : Ws} {μ : Mu} {d : D} {v : V} {c : Con} {l : List D} (hc : TupC c) (st : StOk X.K X.mg w μ) (r : Rep X.K X.mg w.F w.α d v) (e : view μ d = .con c l) : d = .con c l := by
  cases d with
  | ptr k =>
    unfold view at e
    simp only at e
    split at e
    · rename_i lk c' l' hk
      cases e
      simp only [Rep] at r
      obtain ⟨a, _, ha⟩ := r
      obtain ⟨_, h0, vs, u, h1, _⟩ := st.own k a _ ha hk
      rcases hc with z | z
      · exact absurd z h0
      · subst z
        exact h1.elim
    · cases e
  | con c' l' => exact e
  | non => cases e
  | bl b => cases e
  | int i => cases e
  | str x => cases e
  | fn f => cases e
theorem tupC_sq {c : Con} {H : Hp} {a : Addr} {vs : List V} (hc : TupC c) (h : HoldR X.K X.mg c H a vs) : SqT X.K H a vs := by
  rcases hc with rfl | rfl
  · exact SqT.of h
  · exact h
theorem yl_tup {w : Ws} {a : Addr} {c : Con} {l : List D} (hc : TupC c) (r : Rep X.K X.mg w.F w.α (.con c l) (.ref a)) : Yields X.K X.mg w (Itt X.K a) (fun _ => some l) := by
  intro w2 μ2 l' e p _ s2 hl
  cases hl
  obtain ⟨a', vs, ea, h1, h2⟩ := s2.read (Rep.mono e p _ _ r) rfl
  cases ea
  have h1 := tupC_sq hc h1
  refine ⟨⟨vs, h1, by rw [h2.length]; exact Nat.le_refl _⟩, fun i x hx => ?_⟩
  obtain ⟨v, h3, h4⟩ := h2.get hx
  refine ⟨⟨vs, v, h1, h3⟩, fun v' H' y => ?_⟩
  obtain ⟨rfl, y⟩ := y
  have z := y vs h1
  rw [h3] at z
  cases z
  exact ⟨w2, rfl, .refl s2, h4⟩
theorem charsD_get {x : Str} {i : Nat} {d : D} (h : (charsD x)[i]? = some d) : ∃ c, x.cps[i]? = some c ∧ d = .str ⟨#[c]⟩ := by
  unfold charsD at h
  rw [List.getElem?_map, Option.map_eq_some_iff] at h
  obtain ⟨c, h1, h2⟩ := h
  exact ⟨c, by rw [← h1, Array.getElem?_toList], h2.symm⟩
theorem yl_str {w : Ws} {x : Str} : Yields X.K X.mg w (Its x) (fun _ => some (charsD x)) := by
  intro w2 μ2 l' e p _ s2 hl
  cases hl
  refine ⟨?_, fun i d hd => ?_⟩
  · show x.cps.size ≤ (charsD x).length
    unfold charsD
    simp
  · obtain ⟨c, h1, rfl⟩ := charsD_get hd
    refine ⟨(Array.getElem?_eq_some_iff.mp h1).1, fun v' H' y => ?_⟩
    obtain ⟨rfl, c', h2, rfl⟩ := y
    rw [h1] at h2
    cases h2
    exact ⟨w2, rfl, .refl s2, rep_str⟩
theorem pd_iseq {tg e : Expr} {m : ME} (he : PDE X E e m) : PDI X E tg e (iSeq m) := PI.weak' (pi_any he) fun σ H R h => by
  obtain ⟨w, μ, ρ, rfl, st, rs, p⟩ := h
  refine ⟨w, μ, ρ, rfl, st, rs, (post.bind p).mono fun d w1 μ1 n1 q => ?_⟩
  clear p
  intro v hv
  obtain ⟨rd, e1, q0⟩ := post.lift q
  clear q
  have q := q0 w1 (.refl n1.st)
  clear q0
  unfold rdOf at e1
  split at e1
  · rename_i l e2
    cases e1
    obtain ⟨a, vs, rfl, h1, h2⟩ := n1.st.read hv e2
    exact .inl ⟨a, vs, rfl, SqL.of h1, q _ (yl_list hv)⟩
  · rename_i l e2
    cases e1
    obtain ⟨a, vs, rfl, h1, h2⟩ := n1.st.read hv e2
    exact .inl ⟨a, vs, rfl, h1, q _ (yl_list hv)⟩
  · rename_i l e2
    cases e1
    have ed := con_self (.inl rfl) n1.st hv e2
    subst ed
    obtain ⟨a, vs, rfl, h1, h2⟩ := n1.st.read hv e2
    exact .inr (.inl ⟨a, vs, rfl, SqT.of h1, q _ (yl_tup (.inl rfl) hv)⟩)
  · rename_i l e2
    cases e1
    have ed := con_self (.inr rfl) n1.st hv e2
    subst ed
    obtain ⟨a, vs, rfl, h1, h2⟩ := n1.st.read hv e2
    exact .inr (.inl ⟨a, vs, rfl, h1, q _ (yl_tup (.inr rfl) hv)⟩)
  · rename_i x e2
    cases e1
    cases view_str e2 hv
    exact .inr (.inr ⟨x, rfl, q _ yl_str⟩)
  · cases e1
/-! ### ranges -/
def big : Int := 2 ^ 62
def smallI (i : Int) : Bool := decide (-(2 ^ 62) ≤ i) && decide (i < 2 ^ 62)
def upD (lo : Int) (n : Nat) : List D := (List.range n).map fun (i : Nat) => .int (lo + (i : Int))
def dnD (lo : Int) (n : Nat) : List D := (List.range n).map fun (i : Nat) => .int (lo + (i : Int) * (-1))
def rng1 (l : List D) : Option Rdr := match l with
  | [.int j] => if smallI j = true then some fun _ => some (upD 0 j.toNat) else none
  | _ => none
def rng2 (l : List D) : Option Rdr := match l with
  | [.int i, .int j] => if (smallI i && smallI j) = true then some fun _ => some (upD i (j - i).toNat) else none
  | _ => none
def rng3 (l : List D) : Option Rdr := match l with
  | [.int i, .int j, .int k] => if (smallI i && (smallI j && k == (-1))) = true then some fun _ => some (dnD i (i - j).toNat) else none
  | _ => none
def iRng (f : List D → Option Rdr) (a : MA) : MI := fun ρ μ => (a ρ μ).bind fun l μ1 => lift (f l) μ1
theorem small_of {i : Int} (h : smallI i = true) : -(2 ^ 62) ≤ i ∧ i < 2 ^ 62 := by
  unfold smallI at h
  rw [Bool.and_eq_true, decide_eq_true_eq, decide_eq_true_eq] at h
  exact h
theorem yl_up {w : Ws} {lo : Int} {n : Nat} : Yields X.K X.mg w (Itr lo n) (fun _ => some (upD lo n)) := by
  intro w2 μ2 l' e p _ s2 hl
  cases hl
  refine ⟨?_, fun i d hd => ?_⟩
  · show n ≤ (upD lo n).length
    unfold upD
    simp
  · unfold upD at hd
    rw [List.getElem?_map, Option.map_eq_some_iff] at hd
    obtain ⟨k, h1, rfl⟩ := hd
    obtain ⟨h2, h3⟩ := List.getElem?_eq_some_iff.mp h1
    rw [List.getElem_range] at h3
    subst h3
    have hk : i < n := by simpa using h2
    refine ⟨hk, fun v' H' y => ?_⟩
    obtain ⟨rfl, rfl⟩ := y
    exact ⟨w2, rfl, .refl s2, rep_int⟩
theorem yl_dn {w : Ws} {lo : Int} {n : Nat} : Yields X.K X.mg w (Itc lo (-1) n) (fun _ => some (dnD lo n)) := by
  intro w2 μ2 l' e p _ s2 hl
  cases hl
  refine ⟨?_, fun i d hd => ?_⟩
  · show n ≤ (dnD lo n).length
    unfold dnD
    simp
  · unfold dnD at hd
    rw [List.getElem?_map, Option.map_eq_some_iff] at hd
    obtain ⟨k, h1, rfl⟩ := hd
    obtain ⟨h2, h3⟩ := List.getElem?_eq_some_iff.mp h1
    rw [List.getElem_range] at h3
    subst h3
    have hk : i < n := by simpa using h2
    refine ⟨hk, fun v' H' y => ?_⟩
    obtain ⟨rfl, rfl⟩ := y
    exact ⟨w2, rfl, .refl s2, rep_int⟩
theorem repl_1 {K : PySem.W.Frag} {mg : Str → Option Value} {F : Hp} {α : List Addr} {a : D} {vs : List V} (h : RepL K mg F α [a] vs) : ∃ x, vs = [x] ∧ Rep K mg F α a x := by
  simp only [RepL] at h
  obtain ⟨x, r, rfl, h1, rfl⟩ := h
  exact ⟨x, rfl, h1⟩
theorem repl_2 {K : PySem.W.Frag} {mg : Str → Option Value} {F : Hp} {α : List Addr} {a b : D} {vs : List V} (h : RepL K mg F α [a, b] vs) : ∃ x y, vs = [x, y] ∧ Rep K mg F α a x ∧ Rep K mg F α b y := by
  simp only [RepL] at h
  obtain ⟨x, r, rfl, h1, y, r', rfl, h2, rfl⟩ := h
  exact ⟨x, y, rfl, h1, h2⟩
theorem repl_3 {K : PySem.W.Frag} {mg : Str → Option Value} {F : Hp} {α : List Addr} {a b c : D} {vs : List V} (h : RepL K mg F α [a, b, c] vs) : ∃ x y z, vs = [x, y, z] ∧ Rep K mg F α a x ∧ Rep K mg F α b y ∧ Rep K mg F α c z := by
  simp only [RepL] at h
  obtain ⟨x, r, rfl, h1, y, r', rfl, h2, z, r'', rfl, h3, rfl⟩ := h
  exact ⟨x, y, z, rfl, h1, h2, h3⟩
section
variable {tg a b c : Expr} {m : MA} {p pos : Pos}
theorem pd_irng1 (hg : Gl X "range") (hm : X.mg "range" = none) (ha : PDA X E [a] m) (hs : starEach [a] X.env = [(false, eval a X.env)] := by rfl) : PDI X E tg (.Call (.Name "range" p) [a] [] pos) (iRng rng1 m) :=
  PI.weak' (pi_range1 hg hm ha hs) fun σ H R h => by
    obtain ⟨w, μ, ρ, rfl, st, rs, p⟩ := h
    refine ⟨w, μ, ρ, rfl, st, rs, (post.bind p).mono fun l w1 μ1 n1 q => ?_⟩
    clear p
    intro vs hv
    obtain ⟨rd, e1, q0⟩ := post.lift q
    clear q
    have q := q0 w1 (.refl n1.st)
    clear q0
    unfold rng1 at e1
    split at e1
    · rename_i j
      split at e1
      · rename_i h1
        cases e1
        obtain ⟨x, rfl, hx⟩ := repl_1 hv
        simp only [Rep] at hx
        subst hx
        obtain ⟨s1, s2⟩ := small_of h1
        exact ⟨j, rfl, s1, s2, q _ yl_up⟩
      · cases e1
    · cases e1
theorem pd_irng2 (hg : Gl X "range") (hm : X.mg "range" = none) (ha : PDA X E [a, b] m) (hs : starEach [a, b] X.env = [(false, eval a X.env), (false, eval b X.env)] := by rfl) (hs2 : starEach [b] X.env = [(false, eval b X.env)] := by rfl) :
    PDI X E tg (.Call (.Name "range" p) [a, b] [] pos) (iRng rng2 m) :=
  PI.weak' (pi_range2 hg hm ha hs hs2) fun σ H R h => by
    obtain ⟨w, μ, ρ, rfl, st, rs, p⟩ := h
    refine ⟨w, μ, ρ, rfl, st, rs, (post.bind p).mono fun l w1 μ1 n1 q => ?_⟩
    clear p
    intro vs hv
    obtain ⟨rd, e1, q0⟩ := post.lift q
    clear q
    have q := q0 w1 (.refl n1.st)
    clear q0
    unfold rng2 at e1
    split at e1
    · rename_i i j
      split at e1
      · rename_i h1
        cases e1
        obtain ⟨x, y, rfl, hx, hy⟩ := repl_2 hv
        simp only [Rep] at hx hy
        subst hx hy
        rw [Bool.and_eq_true] at h1
        obtain ⟨s1, s2⟩ := small_of h1.1
        obtain ⟨s3, s4⟩ := small_of h1.2
        exact ⟨i, j, rfl, ⟨s1, s2, s3, s4⟩, q _ yl_up⟩
      · cases e1
    · cases e1
theorem pd_irng3 (hg : Gl X "range") (hm : X.mg "range" = none) (ha : PDA X E [a, b, c] m) (hs : starEach [a, b, c] X.env = (false, eval a X.env) :: starEach [b, c] X.env := by rfl) (hpl : (backTo pos (starEach [b, c] X.env)).any (·.1) = false := by rfl) :
    PDI X E tg (.Call (.Name "range" p) [a, b, c] [] pos) (iRng rng3 m) :=
  PI.weak' (pi_range3 hg hm ha hs hpl) fun σ H R h => by
    obtain ⟨w, μ, ρ, rfl, st, rs, p⟩ := h
    refine ⟨w, μ, ρ, rfl, st, rs, (post.bind p).mono fun l w1 μ1 n1 q => ?_⟩
    clear p
    intro vs hv
    obtain ⟨rd, e1, q0⟩ := post.lift q
    clear q
    have q := q0 w1 (.refl n1.st)
    clear q0
    unfold rng3 at e1
    split at e1
    · rename_i i j k
      split at e1
      · rename_i h1
        cases e1
        obtain ⟨x, y, z, rfl, hx, hy, hz⟩ := repl_3 hv
        simp only [Rep] at hx hy hz
        subst hx hy hz
        rw [Bool.and_eq_true, Bool.and_eq_true, beq_iff_eq] at h1
        obtain ⟨h1, h2, rfl⟩ := h1
        obtain ⟨s1, s2⟩ := small_of h1
        obtain ⟨s3, s4⟩ := small_of h2
        exact ⟨i, j, -1, _, rfl, RgC.neg s1 s2 s3 s4, q _ yl_dn⟩
      · cases e1
    · cases e1
end
/-! ### enumerate, zip -/
theorem rep_pair {F : Hp} {α : List Addr} {H : Hp} {x y : D} {a b : V} {T : Addr} {w : Ws} {μ : Mu} (st : StOk X.K X.mg w μ) (h1 : Rep X.K X.mg w.F w.α x a) (h2 : Rep X.K X.mg w.F w.α y b) (hT : w.H T = none) :
    ∃ w', w'.H = upd w.H T (.tup [a, b]) ∧ Nx X.K X.mg w w' μ ∧ Rep X.K X.mg w'.F w'.α (.tup [x, y]) (.ref T) :=
  ⟨_, rfl, st.new hT, Rep.new (st.freshF hT) rfl (.cons h1 (.cons h2 .nil))⟩
def enumL (l : List D) : List D := l.mapIdx fun i x => .tup [.int (i : Nat), x]
theorem enumL_get {l : List D} {i : Nat} {d : D} (h : (enumL l)[i]? = some d) : ∃ x, l[i]? = some x ∧ d = .tup [.int (i : Nat), x] := by
  unfold enumL at h
  rw [List.getElem?_mapIdx, Option.map_eq_some_iff] at h
  obtain ⟨x, h1, h2⟩ := h
  exact ⟨x, h1, h2.symm⟩
def enumOf (μ : Mu) (l : List D) : Option Rdr := match l with
  | [d] => (match view μ d with
    | .con .lst _ => some fun μ => (rdL d μ).map enumL
    | .con .scr _ => some fun μ => (rdL d μ).map enumL
    | .con .tup l => some fun _ => some (enumL l)
    | .con .ctup l => some fun _ => some (enumL l)
    | _ => none)
  | _ => none
def iEnumD (a : MA) : MI := fun ρ μ => (a ρ μ).bind fun l μ1 => lift (enumOf μ1 l) μ1
theorem yl_enum {w : Ws} {a : Addr} {d : D} (r : Rep X.K X.mg w.F w.α d (.ref a)) : Yields X.K X.mg w (Ite X.K a) (fun μ => (rdL d μ).map enumL) := by
  intro w2 μ2 l e p _ s2 hl
  obtain ⟨l, hl1, rfl⟩ := Option.map_eq_some_iff.mp hl
  obtain ⟨a', vs, ea, h1, h2⟩ := rdL_at s2 (Rep.mono e p _ _ r) hl1
  cases ea
  refine ⟨⟨vs, h1, by unfold enumL; rw [List.length_mapIdx, h2.length]; exact Nat.le_refl _⟩, fun i x hx => ?_⟩
  obtain ⟨x, hx1, rfl⟩ := enumL_get hx
  obtain ⟨v, h3, h4⟩ := h2.get hx1
  refine ⟨⟨vs, v, h1, h3⟩, fun v' H' y => ?_⟩
  obtain ⟨T, x', rfl, hT, rfl, y⟩ := y
  have z := y vs h1
  rw [h3] at z
  cases z
  exact rep_pair (F := w2.F) (α := w2.α) (H := w2.H) s2 rep_int h4 hT
theorem yl_enumT {w : Ws} {a : Addr} {c : Con} {l : List D} (hc : TupC c) (r : Rep X.K X.mg w.F w.α (.con c l) (.ref a)) : Yields X.K X.mg w (IteT X.K a) (fun _ => some (enumL l)) := by
  intro w2 μ2 l' e p _ s2 hl
  cases hl
  obtain ⟨a', vs, ea, h1, h2⟩ := s2.read (Rep.mono e p _ _ r) rfl
  cases ea
  have h1 := tupC_sq hc h1
  refine ⟨⟨vs, h1, by unfold enumL; rw [List.length_mapIdx, h2.length]; exact Nat.le_refl _⟩, fun i x hx => ?_⟩
  obtain ⟨x, hx1, rfl⟩ := enumL_get hx
  obtain ⟨v, h3, h4⟩ := h2.get hx1
  refine ⟨⟨vs, v, h1, h3⟩, fun v' H' y => ?_⟩
  obtain ⟨T, x', rfl, hT, rfl, y⟩ := y
  have z := y vs h1
  rw [h3] at z
  cases z
  exact rep_pair (F := w2.F) (α := w2.α) (H := w2.H) s2 rep_int h4 hT
theorem pd_ienum {e : Expr} {m : MA} {p pos tpos : Pos} {elts : List Expr} {kk : Nat} (hg : Gl X "enumerate") (hm : X.mg "enumerate" = none) (ha : PDA X E [e] m) (hs : starEach [e] X.env = [(false, eval e X.env)] := by rfl) :
    PDI X E (.Tuple elts kk tpos) (.Call (.Name "enumerate" p) [e] [] pos) (iEnumD m) := PI.weak' (pi_enumA hg hm ha hs) fun σ H R h => by
  obtain ⟨w, μ, ρ, rfl, st, rs, p⟩ := h
  refine ⟨w, μ, ρ, rfl, st, rs, (post.bind p).mono fun l w1 μ1 n1 q => ?_⟩
  clear p
  intro vs hv
  obtain ⟨rd, e1, q0⟩ := post.lift q
  clear q
  have q := q0 w1 (.refl n1.st)
  clear q0
  unfold enumOf at e1
  split at e1
  · rename_i d
    obtain ⟨v, ev, hd⟩ := repl_1 hv
    subst ev
    clear hv
    split at e1
    · rename_i l e2
      cases e1
      obtain ⟨a, vs, rfl, h1, h2⟩ := n1.st.read hd e2
      exact ⟨a, vs, rfl, .inl ⟨SqL.of h1, q _ (yl_enum hd)⟩⟩
    · rename_i l e2
      cases e1
      obtain ⟨a, vs, rfl, h1, h2⟩ := n1.st.read hd e2
      exact ⟨a, vs, rfl, .inl ⟨h1, q _ (yl_enum hd)⟩⟩
    · rename_i l e2
      cases e1
      have ed := con_self (.inl rfl) n1.st hd e2
      rw [ed] at hd
      obtain ⟨a, vs, rfl, h1, h2⟩ := n1.st.read hd rfl
      exact ⟨a, vs, rfl, .inr ⟨SqT.of h1, q _ (yl_enumT (.inl rfl) hd)⟩⟩
    · rename_i l e2
      cases e1
      have ed := con_self (.inr rfl) n1.st hd e2
      rw [ed] at hd
      obtain ⟨a, vs, rfl, h1, h2⟩ := n1.st.read hd rfl
      exact ⟨a, vs, rfl, .inr ⟨h1, q _ (yl_enumT (.inr rfl) hd)⟩⟩
    · cases e1
  · cases e1
def zipD (l m : List D) : List D := List.zipWith (fun x y => .tup [x, y]) l m
theorem zipD_get {l m : List D} {i : Nat} {d : D} (h : (zipD l m)[i]? = some d) : ∃ x y, l[i]? = some x ∧ m[i]? = some y ∧ d = .tup [x, y] := by
  unfold zipD at h
  rw [List.getElem?_zipWith] at h
  split at h
  · rename_i x y h1 h2
    cases h
    exact ⟨x, y, h1, h2, rfl⟩
  · cases h
def rdZ (a b : D) : Rdr := fun μ => (rdL a μ).bind fun l => (rdL b μ).map fun m => zipD l m
def zipOf (μ : Mu) (l : List D) : Option Rdr := match l with
  | [a, b] => (match view μ a, view μ b with
    | .con .lst _, .con .lst _ => some (rdZ a b)
    | .con .tup l, .con .tup m => some fun _ => some (zipD l m)
    | _, _ => none)
  | _ => none
def iZipD (a : MA) : MI := fun ρ μ => (a ρ μ).bind fun l μ1 => lift (zipOf μ1 l) μ1
theorem zipD_stop {l m : List D} {vs us : List V} {F : Hp} {α : List Addr} (h1 : RepL X.K X.mg F α l vs) (h2 : RepL X.K X.mg F α m us) : vs.length ≤ (zipD l m).length ∨ us.length ≤ (zipD l m).length := by
  unfold zipD
  rw [List.length_zipWith, h1.length, h2.length]
  omega
theorem yl_zip {w : Ws} {a b : Addr} {d e : D} (r : Rep X.K X.mg w.F w.α d (.ref a)) (r2 : Rep X.K X.mg w.F w.α e (.ref b)) : Yields X.K X.mg w (Itz X.K a b) (rdZ d e) := by
  intro w2 μ2 l ex p _ s2 hl
  obtain ⟨l, hl1, hm1⟩ := Option.bind_eq_some_iff.mp hl
  obtain ⟨m, hm2, rfl⟩ := Option.map_eq_some_iff.mp hm1
  obtain ⟨a', vs, ea, h1, h2⟩ := rdL_at s2 (Rep.mono ex p _ _ r) hl1
  cases ea
  obtain ⟨b', us, eb, k1, k2⟩ := rdL_at s2 (Rep.mono ex p _ _ r2) hm2
  cases eb
  refine ⟨⟨vs, us, h1, k1, zipD_stop h2 k2⟩, fun i x hx => ?_⟩
  obtain ⟨x, y, hx1, hy1, rfl⟩ := zipD_get hx
  obtain ⟨v, h3, h4⟩ := h2.get hx1
  obtain ⟨u, k3, k4⟩ := k2.get hy1
  refine ⟨⟨vs, us, v, u, h1, k1, h3, k3⟩, fun v' H' y => ?_⟩
  obtain ⟨T, x', y', rfl, hT, rfl, y1, y2⟩ := y
  have z := y1 vs h1
  rw [h3] at z
  cases z
  have z := y2 us k1
  rw [k3] at z
  cases z
  exact rep_pair (F := w2.F) (α := w2.α) (H := w2.H) s2 h4 k4 hT
theorem yl_zipT {w : Ws} {a b : Addr} {l m : List D} (r : Rep X.K X.mg w.F w.α (.con .tup l) (.ref a)) (r2 : Rep X.K X.mg w.F w.α (.con .tup m) (.ref b)) : Yields X.K X.mg w (RZ.ItzT X.K a b) (fun _ => some (zipD l m)) := by
  intro w2 μ2 l' ex p _ s2 hl
  cases hl
  obtain ⟨a', vs, ea, h1, h2⟩ := s2.read (Rep.mono ex p _ _ r) rfl
  cases ea
  obtain ⟨b', us, eb, k1, k2⟩ := s2.read (Rep.mono ex p _ _ r2) rfl
  cases eb
  have h1 := SqT.of (K := X.K) h1
  have k1 := SqT.of (K := X.K) k1
  refine ⟨⟨vs, us, h1, k1, zipD_stop h2 k2⟩, fun i x hx => ?_⟩
  obtain ⟨x, y, hx1, hy1, rfl⟩ := zipD_get hx
  obtain ⟨v, h3, h4⟩ := h2.get hx1
  obtain ⟨u, k3, k4⟩ := k2.get hy1
  refine ⟨⟨vs, us, v, u, h1, k1, h3, k3⟩, fun v' H' y => ?_⟩
  obtain ⟨T, x', y', rfl, hT, rfl, y1, y2⟩ := y
  have z := y1 vs h1
  rw [h3] at z
  cases z
  have z := y2 us k1
  rw [k3] at z
  cases z
  exact rep_pair (F := w2.F) (α := w2.α) (H := w2.H) s2 h4 k4 hT
theorem pd_izip {e e2 : Expr} {m : MA} {p pos tpos : Pos} {elts : List Expr} {kk : Nat} (hg : Gl X "zip") (hm : X.mg "zip" = none) (ha : PDA X E [e, e2] m)
    (hs : starEach [e, e2] X.env = (false, eval e X.env) :: starEach [e2] X.env := by rfl) (hpl : (backTo pos (starEach [e2] X.env)).any (·.1) = false := by rfl) :
    PDI X E (.Tuple elts kk tpos) (.Call (.Name "zip" p) [e, e2] [] pos) (iZipD m) := PI.weak' (RZ.pi_zipA hg hm ha hs hpl) fun σ H R h => by
  obtain ⟨w, μ, ρ, rfl, st, rs, p⟩ := h
  refine ⟨w, μ, ρ, rfl, st, rs, (post.bind p).mono fun l w1 μ1 n1 q => ?_⟩
  clear p
  intro vs hv
  obtain ⟨rd, e1, q0⟩ := post.lift q
  clear q
  have q := q0 w1 (.refl n1.st)
  clear q0
  unfold zipOf at e1
  split at e1
  · rename_i a b
    obtain ⟨v, u, ev, hd, hu⟩ := repl_2 hv
    subst ev
    clear hv
    split at e1
    · rename_i l m e3 e4
      cases e1
      obtain ⟨a', vs, rfl, h1, h2⟩ := n1.st.read hd e3
      obtain ⟨b', us, rfl, k1, k2⟩ := n1.st.read hu e4
      exact ⟨a', b', vs, us, rfl, .inl ⟨SqL.of h1, SqL.of k1, q _ (yl_zip hd hu)⟩⟩
    · rename_i l m e3 e4
      cases e1
      have ed := con_self (.inl rfl) n1.st hd e3
      have ee := con_self (.inl rfl) n1.st hu e4
      rw [ed] at hd
      rw [ee] at hu
      obtain ⟨a', vs, rfl, h1, h2⟩ := n1.st.read hd rfl
      obtain ⟨b', us, rfl, k1, k2⟩ := n1.st.read hu rfl
      exact ⟨a', b', vs, us, rfl, .inr ⟨SqT.of h1, SqT.of k1, q _ (yl_zipT hd hu)⟩⟩
    · cases e1
  · cases e1
end
end MP

namespace MP
open PySem PySem.Spec L2
variable [Tb]
/-! ### list comprehensions -/
abbrev NoE : XK := fun _ _ _ => False
def noX {β : Type} (r : R β) : R β := match r with
  | .ok x μ => .ok x μ
  | .exc _ _ _ => .stuck
  | .stuck => .stuck
def wipeR (ρ : Rho) : List Nat → Rho
  | [] => ρ
  | v :: vs => (wipeR ρ vs).set v none
def lcN (rd : Rdr) (g : MG) (t : MT) (e : ME) (ρ : Rho) : Nat → Nat → List D → Mu → R (List D)
  | 0, i, acc, μ => match rd μ with
    | some l => if l.length = i then .ok acc μ else .stuck
    | none => .stuck
  | n + 1, i, acc, μ => match (rd μ).bind (·[i]?) with
    | some x => (noX (g x ρ μ)).bind fun ρ1 μ1 => (noX (t ρ1 μ1)).bind fun k μ2 => if k = true then (noX (e ρ1 μ2)).bind fun y μ3 => lcN rd g t e ρ n (i + 1) (acc ++ [y]) μ3 else lcN rd g t e ρ n (i + 1) acc μ2
    | none => .stuck
def lcRun (vs : List Nat) (it : MI) (g : MG) (t : MT) (e : ME) (ρ : Rho) (μ : Mu) : R (List D) := (it ρ μ).bind fun rd μ1 => match rd μ1 with
  | some l => if l.length ≤ sizeLine then lcN rd g t e (wipeR ρ vs) l.length 0 [] μ1 else .stuck
  | none => .stuck
def eLc (vs : List Nat) (it : MI) (g : MG) (t : MT) (e : ME) : ME := fun ρ μ => (lcRun vs it g t e ρ μ).bind fun acc μ1 => .ok (.lst acc) μ1
/-- .. for a name that is to hold a list that changes -/
def hLc (vs : List Nat) (it : MI) (g : MG) (t : MT) (e : ME) : ME := fun ρ μ => (lcRun vs it g t e ρ μ).bind fun acc μ1 => .ok (.ptr μ1.length) (μ1 ++ [.lv false .lst acc])
def tYesD : MT := fun _ μ => .ok true μ
section
variable {K : PySem.W.Frag} {mg : Str → Option Value} {w w1 : Ws} {μ : Mu} {E : XK}
theorem post.nox {β γ : Type} {r : R β} {f : β → Mu → R γ} {P : γ → Ws → Mu → Prop} {E' : XK} (h : post K mg w1 ((noX r).bind f) P E) : post K mg w r (fun x _ μ' => post K mg w1 (f x μ') P E) E' := by
  cases r with
  | ok x μ' => exact fun _ _ => h
  | exc c x μ' => exact h.elim
  | stuck => exact h
theorem RepS.wipe {F : Hp} {α : List Addr} {ρ : Rho} {σ : L2.St} (h : RepS K mg F α ρ σ) : ∀ vs : List Nat, RepS K mg F α (wipeR ρ vs) (L2.wipe σ vs)
  | [] => h
  | v :: vs => by
    unfold wipeR L2.wipe
    exact (RepS.wipe h vs).set v (o := none) (x := none) trivial
/-- an object of which the world knows nothing is written -/
theorem Nx.poke (n : Nx K mg w1 w μ) {a : Addr} {u u0 : HO} (h1 : w1.H a = none) (hF : w.F a = none) (hα : a ∉ w.α) (h0 : w.H a = some u0) (hc : chg u0 = true) : Nx K mg w1 ⟨w.F, w.α, upd w.H a u⟩ μ := by
  refine ⟨n.ext, n.pre, ⟨n.st.sub.updH hF, n.st.len, n.st.nd, fun k b ob hb hk => ?_, tt_chg h0 hc _ n.st.tb⟩, ⟨fun b q1 q2 q3 q4 => ?_, fun b o x q => ?_⟩⟩
  · have o := n.st.own k b ob hb hk
    have hba : b ≠ a := fun z => hα (z ▸ List.mem_of_getElem? hb)
    cases ob with
    | dead => exact o
    | lv lk c l =>
      obtain ⟨k1, k0, vs, x, k2, k3, k4⟩ := o
      exact ⟨k1, k0, vs, x, k2, k3.ne hba, k4⟩
  · obtain ⟨k1, k2, k3⟩ := n.fr.fr b q1 q2 q3 q4
    have hba : b ≠ a := fun z => q3 (by rw [z]; exact h1)
    exact ⟨k1, k2, (upd_ne hba).trans k3⟩
  · have hba : b ≠ a := fun z => by
      rw [z, h1] at q
      cases q
    exact (upd_ne hba).trans (n.fr.fz b o x q)
/-- .. becomes frozen -/
theorem Nx.adopt (n : Nx K mg w1 w μ) {a : Addr} {u : HO} (hu : isTb u = false) (h1 : w1.H a = none) (hF : w.F a = none) (hα : a ∉ w.α) (h0 : w.H a = some u) : Nx K mg w1 ⟨upd w.F a u, w.α, w.H⟩ μ := by
  refine ⟨n.ext.trans (ext_upd hF), n.pre, ⟨fun b x e => ?_, n.st.len, n.st.nd, fun k b ob hb hk => ?_, n.st.tb⟩, ⟨fun b q1 q2 q3 q4 => ?_, n.fr.fz⟩⟩
  · by_cases hba : b = a
    · subst hba
      have e : upd w.F b u b = some x := e
      rw [upd_same] at e
      cases e
      exact ⟨hu, .inl h0⟩
    · have e : upd w.F a u b = some x := e
      rw [upd_ne hba] at e
      exact n.st.sub b x e
  · have o := n.st.own k b ob hb hk
    have hba : b ≠ a := fun z => hα (z ▸ List.mem_of_getElem? hb)
    cases ob with
    | dead =>
      show upd w.F a u b ≠ none
      rw [upd_ne hba]
      exact o
    | lv lk c l =>
      obtain ⟨k1, k0, vs, x, k2, k3, k4⟩ := o
      refine ⟨?_, k0, vs, x, k2, k3, RepL.mono (ext_upd hF) List.prefix_rfl _ _ k4⟩
      show upd w.F a u b = none
      rw [upd_ne hba]
      exact k1
  · obtain ⟨k1, k2, k3⟩ := n.fr.fr b q1 q2 q3 q4
    have hba : b ≠ a := fun z => q3 (by rw [z]; exact h1)
    exact ⟨(upd_ne hba).trans k1, k2, k3⟩
/-- .. becomes a handle's -/
theorem Nx.adoptH (n : Nx K mg w1 w μ) {a : Addr} {c : Con} {l : List D} {vs : List V} {u : HO} (h1 : w1.H a = none) (hF : w.F a = none) (hα : a ∉ w.α) (h0 : w.H a = some u) (hc : c ≠ .tup) (hu : HOof mg c vs u) (r : RepL K mg w.F w.α l vs) :
    Nx K mg w1 ⟨w.F, w.α ++ [a], w.H⟩ (μ ++ [.lv false c l]) := by
  have pre : w.α <+: w.α ++ [a] := List.prefix_append _ _
  refine ⟨n.ext, n.pre.trans pre, ⟨n.st.sub, by simp [n.st.len], ?_, fun k b ob hb hk => ?_, n.st.tb⟩, ⟨fun b q1 q2 q3 q4 => ?_, n.fr.fz⟩⟩
  · rw [List.nodup_append]
    exact ⟨n.st.nd, by simp, fun x hx y hy => by
      have e : y = a := by simpa using hy
      subst e
      exact fun z => hα (z ▸ hx)⟩
  · by_cases hl : k < w.α.length
    · have hb' : w.α[k]? = some b := by
        have hb : (w.α ++ [a])[k]? = some b := hb
        rw [List.getElem?_append_left hl] at hb
        exact hb
      have hk' : μ[k]? = some ob := by
        rw [List.getElem?_append_left (by rw [← n.st.len]; exact hl)] at hk
        exact hk
      have o := n.st.own k b ob hb' hk'
      cases ob with
      | dead => exact o
      | lv lk c' l' =>
        obtain ⟨k1, k0, vs', x, k2, k3, k4⟩ := o
        exact ⟨k1, k0, vs', x, k2, k3, RepL.mono Ext.refl pre _ _ k4⟩
    · have hk2 : k = w.α.length := by
        have := (List.getElem?_eq_some_iff.mp hb).1
        simp at this
        omega
      subst hk2
      have hb : (w.α ++ [a])[w.α.length]? = some b := hb
      rw [n.st.len] at hk
      simp at hb hk
      subst hb hk
      exact ⟨hF, hc, vs, u, hu, h0, RepL.mono Ext.refl pre _ _ r⟩
  · obtain ⟨k1, k2, k3⟩ := n.fr.fr b q1 q2 q3 q4
    have hba : b ≠ a := fun z => q3 (by rw [z]; exact h1)
    refine ⟨k1, fun z => ?_, k3⟩
    rcases List.mem_append.mp z with q | q
    · exact k2 q
    · exact hba (by simpa using q)
end
section
variable {X : Cx} {E : XK}
abbrev PDTs (X : Cx) (E : XK) (ifs : List Expr) (m : MT) : Prop := PTs X ifs (tT X.K X.mg E m)
theorem pd_tyes : PDTs X E [] tYesD := ⟨fun pins s σ H Q I h => by
  obtain ⟨w, μ, ρ, rfl, st, rs, p⟩ := h
  exact pts_nil.run pins s σ w.H Q I (p w (.refl st))⟩
theorem pd_tone {c : Expr} {m : MT} (h : PDT X E c m) : PDTs X E [c] m := pts_one h
/-- the turns of a comprehension -/
theorem lc_turns {vs : List Nat} {g : MG} {t : MT} {e : ME} {σ : L2.St} {ρ : Rho} {Q : VK} {w1 : Ws} {μ1 : Mu} {rd : Rdr} {J : It} {l0 : List D} (hJ : Yields X.K X.mg w1 J rd) (st : StOk X.K X.mg w1 μ1) (rs : RepS X.K X.mg w1.F w1.α ρ σ) (hl0 : l0.length ≤ sizeLine)
    {β : Type} {fin : List D → Mu → R β} {P : β → Ws → Mu → Prop}
    (hfin : ∀ (w : Ws) (μ : Mu) (acc : List D) (vs : List V) (D0 : Addr), Nx X.K X.mg w1 w μ → RepL X.K X.mg w.F w.α acc vs → w1.H D0 = none → w.H D0 = some (.lst vs) → w.F D0 = none → D0 ∉ w.α → post X.K X.mg w1 (fin acc μ) P E → Q (.ref D0) w.H)
    (q : post X.K X.mg w1 ((lcN rd g t e (wipeR ρ vs) l0.length 0 [] μ1).bind fin) P E) (D0 : Addr) (hD : w1.H D0 = none) :
    ∃ W : Nat → Nat → Hp → Prop, (∃ m, W 0 m (upd w1.H D0 (.lst []))) ∧ ∀ i m H, W i m H →
      (J.stop i H ∧ Q (.ref D0) H) ∨ (J.go i H ∧ ∃ Nx : Hp → Prop, (∀ H', Nx H' → ∃ m', m' < m ∧ W (i + 1) m' H') ∧ ∀ x H', J.yld i H x H' → tgt X.K X.mg NoE vs g x (wipe σ vs) H' fun σ2 H2 => wipe σ2 vs = wipe σ vs ∧ tT X.K X.mg NoE t σ2 H2 fun b H3 =>
        if b = true then tE X.K X.mg NoE e σ2 H3 fun y H4 => ∃ acc, H4 D0 = some (.lst acc) ∧ acc.length < sizeLine ∧ Nx (upd H4 D0 (.lst (acc ++ [y]))) else Nx H3) := by
  have hF1 : w1.F D0 = none := st.freshF hD
  have hA1 : D0 ∉ w1.α := st.freshA hD
  refine ⟨fun i m H => ∃ (w : Ws) (μ : Mu) (acc : List D) (av : List V), w.H = H ∧ Nx X.K X.mg w1 w μ ∧ RepL X.K X.mg w.F w.α acc av ∧ w.H D0 = some (.lst av) ∧ w.F D0 = none ∧ D0 ∉ w.α ∧ acc.length ≤ i ∧ i + m = l0.length ∧
      post X.K X.mg w1 ((lcN rd g t e (wipeR ρ vs) m i acc μ).bind fin) P E,
    ⟨l0.length, ⟨w1.F, w1.α, upd w1.H D0 (.lst [])⟩, μ1, [], [], rfl, st.junk hD, .nil, upd_same, hF1, hA1, Nat.zero_le _, Nat.zero_add _, q⟩, ?_⟩
  clear q
  rintro i m H ⟨w2, μ2, acc, av, rfl, n2, ra, hH, hF, hA, hlen, him, q⟩
  cases m with
  | zero =>
    refine .inl ?_
    unfold lcN at q
    split at q
    · rename_i l hl
      split at q
      · rename_i hi
        obtain ⟨h1, _⟩ := hJ w2 μ2 l n2.ext n2.pre n2.fr n2.st hl
        rw [hi] at h1
        exact ⟨h1, hfin w2 μ2 acc av D0 n2 ra hD hH hF hA q⟩
      · exact q.elim
    · exact q.elim
  | succ m =>
    refine .inr ?_
    unfold lcN at q
    split at q
    · rename_i x hx
      obtain ⟨l, hl, hx⟩ := Option.bind_eq_some_iff.mp hx
      obtain ⟨_, h1⟩ := hJ w2 μ2 l n2.ext n2.pre n2.fr n2.st hl
      obtain ⟨h1, h2⟩ := h1 i x hx
      refine ⟨h1, _, fun H' hN => ⟨m, Nat.lt_succ_self m, hN⟩, fun v H' y => ?_⟩
      obtain ⟨w3, rfl, n3, r3⟩ := h2 v H' y
      have n13 := n2.trans n3
      have assoc : ∀ {β1 β2 : Type} (r : R β1) (f : β1 → Mu → R β2) (k : β2 → Mu → R β), (r.bind f).bind k = r.bind fun x μ => (f x μ).bind k := by
        intro β1 β2 r f k
        cases r <;> rfl
      simp only [assoc] at q
      refine ⟨w3, μ2, wipeR ρ vs, x, rfl, n3.st, (rs.mono n13.ext n13.pre).wipe vs, r3, (post.nox (w := w3) q).mono fun ρ4 w4 μ4 n4 q4 => ?_⟩
      clear q
      intro σ4 r4 hw4
      refine ⟨hw4.trans (wipe_twice σ vs), w4, μ4, ρ4, rfl, n4.st, r4, (post.nox (w := w4) q4).mono fun k w5 μ5 n5 q5 => ?_⟩
      clear q4
      have n15 := (n13.trans n4).trans n5
      have n25 := (n3.trans n4).trans n5
      cases k with
      | false =>
        rw [if_neg (by decide)] at q5
        show if _ = true then _ else _
        rw [if_neg (by decide)]
        obtain ⟨k1, k2, k3⟩ := n25.fr.fr D0 hF hA (by rw [hH]; simp) (by rw [hH]; intro ps z; cases z)
        exact ⟨w5, μ5, acc, av, rfl, n15, RepL.mono n25.ext n25.pre _ _ ra, k3.trans hH, k1, k2, by omega, by omega, q5⟩
      | true =>
        rw [if_pos rfl] at q5
        show if _ = true then _ else _
        rw [if_pos rfl]
        simp only [assoc] at q5
        refine ⟨w5, μ5, ρ4, rfl, n5.st, r4.mono n5.ext n5.pre, (post.nox (w := w5) q5).mono fun y w6 μ6 n6 q6 => ?_⟩
        clear q5
        intro vy hy
        have n26 := n25.trans n6
        obtain ⟨k1, k2, k3⟩ := n26.fr.fr D0 hF hA (by rw [hH]; simp) (by rw [hH]; intro ps z; cases z)
        have n16 := n15.trans n6
        have hl : av.length = acc.length := ra.length.symm
        refine ⟨av, k3.trans hH, by omega, ?_⟩
        exact ⟨⟨w6.F, w6.α, upd w6.H D0 (.lst (av ++ [vy]))⟩, μ6, acc ++ [y], av ++ [vy], rfl, n16.poke hD k1 k2 (k3.trans hH) rfl, (RepL.mono n26.ext n26.pre _ _ ra).append (.cons hy .nil), upd_same, k1, k2, by simp; omega, by omega, q6⟩
    · exact q.elim
theorem tLc_of {vs : List Nat} {mi : MI} {g : MG} {t : MT} {e : ME} {σ : L2.St} {H : Hp} {Q : VK} (h : tE X.K X.mg E (eLc vs mi g t e) σ H Q) : tLc (tI X.K X.mg E mi) (tgt X.K X.mg NoE vs g) (tT X.K X.mg NoE t) (tE X.K X.mg NoE e) vs σ H Q := by
  obtain ⟨w, μ, ρ, rfl, st, rs, p⟩ := h
  unfold eLc lcRun at p
  have assoc : ∀ {β β1 β2 : Type} (r : R β1) (f : β1 → Mu → R β2) (k : β2 → Mu → R β), (r.bind f).bind k = r.bind fun x μ => (f x μ).bind k := by
    intro β β1 β2 r f k
    cases r <;> rfl
  rw [assoc] at p
  refine ⟨w, μ, ρ, rfl, st, rs, (post.bind p).mono fun rd w1 μ1 n1 q => ?_⟩
  clear p
  intro J hJ D0 hD
  split at q
  · rename_i l0 hl0
    split at q
    · rename_i hz
      refine lc_turns (fin := fun acc μ => (R.ok (D.lst acc) μ : R D)) hJ n1.st (rs.mono n1.ext n1.pre) hz (fun w μ acc vs D0 n r h1 h2 h3 h4 p => ?_) q D0 hD
      have n' := n.adopt rfl h1 h3 h4 h2
      refine p _ n' (.ref D0) ?_
      simp only [Rep]
      refine ⟨D0, vs, rfl, ?_, RepL.mono (ext_upd h3) List.prefix_rfl _ _ r⟩
      show upd w.F D0 (.lst vs) D0 = some (.lst vs)
      rw [upd_same]
    · exact q.elim
  · exact q.elim
theorem tLc_ofH {vs : List Nat} {mi : MI} {g : MG} {t : MT} {e : ME} {σ : L2.St} {H : Hp} {Q : VK} (h : tE X.K X.mg E (hLc vs mi g t e) σ H Q) : tLc (tI X.K X.mg E mi) (tgt X.K X.mg NoE vs g) (tT X.K X.mg NoE t) (tE X.K X.mg NoE e) vs σ H Q := by
  obtain ⟨w, μ, ρ, rfl, st, rs, p⟩ := h
  unfold hLc lcRun at p
  have assoc : ∀ {β β1 β2 : Type} (r : R β1) (f : β1 → Mu → R β2) (k : β2 → Mu → R β), (r.bind f).bind k = r.bind fun x μ => (f x μ).bind k := by
    intro β β1 β2 r f k
    cases r <;> rfl
  rw [assoc] at p
  refine ⟨w, μ, ρ, rfl, st, rs, (post.bind p).mono fun rd w1 μ1 n1 q => ?_⟩
  clear p
  intro J hJ D0 hD
  split at q
  · rename_i l0 hl0
    split at q
    · rename_i hz
      refine lc_turns (fin := fun acc μ => (R.ok (D.ptr μ.length) (μ ++ [Ob.lv false .lst acc]) : R D)) hJ n1.st (rs.mono n1.ext n1.pre) hz (fun w μ acc vs D0 n r h1 h2 h3 h4 p => ?_) q D0 hD
      have n' := n.adoptH (c := .lst) h1 h3 h4 h2 (by decide) rfl r
      refine p _ n' (.ref D0) ?_
      simp only [Rep]
      exact ⟨D0, rfl, by rw [← n.st.len]; simp⟩
    · exact q.elim
  · exact q.elim
section
variable {elt tg iter : Expr} {ifs : List Expr} {scope : Scope} {own : List (Str × Nat)} {pos : Pos} {mi : MI} {g : MG} {t : MT} {e : ME}
abbrev Blk (X : Cx) (scope : Scope) (P : Cx → Prop) : Prop := ∀ (s : Shared) (H : Hp) (C : Addr) (cl : List (Str × Addr)) (fp : List Addr), P (X.blk s H scope (compEnvC scope cl C X.env) fp)
theorem pd_lc (hc : X.calm = true) (hN : X.N.Nodup) (hi : PDI X E tg iter mi) (ok : BlkOk X.N X.env.scope scope own) (hg : Blk X scope fun X' => PDG X' NoE (own.map (·.2)) tg g) (ht : Blk X scope fun X' => PDTs X' NoE ifs t) (he : Blk X scope fun X' => PDE X' NoE elt e)
    (hs : ∀ x, foldedSetIterable iter X.env x = pure x := by intro _; rfl) : PDE X E (.ListComp elt [⟨tg, iter, ifs, 0⟩] scope pos) (eLc (own.map (·.2)) mi g t e) := (pe_lc hc hN hi ok hg ht he hs).weak fun σ H Q h => tLc_of h
theorem pd_hlc (hc : X.calm = true) (hN : X.N.Nodup) (hi : PDI X E tg iter mi) (ok : BlkOk X.N X.env.scope scope own) (hg : Blk X scope fun X' => PDG X' NoE (own.map (·.2)) tg g) (ht : Blk X scope fun X' => PDTs X' NoE ifs t) (he : Blk X scope fun X' => PDE X' NoE elt e)
    (hs : ∀ x, foldedSetIterable iter X.env x = pure x := by intro _; rfl) : PDE X E (.ListComp elt [⟨tg, iter, ifs, 0⟩] scope pos) (hLc (own.map (·.2)) mi g t e) := (pe_lc hc hN hi ok hg ht he hs).weak fun σ H Q h => tLc_ofH h
section
variable {i : Nat} {y : Str} {py spos : Pos}
theorem tAsg_of {m : ME} {te : TE} (hte : ∀ σ H Q, tE X.K X.mg E m σ H Q → te σ H Q) (De : Ends) (σ : L2.St) (H : Hp) (h : tS X.K X.mg E (sSet i m) De σ H) : tAsg te (gName i) De σ H := by
  refine hte σ H _ ?_
  obtain ⟨w, μ, ρ, rfl, st, rs, p⟩ := h
  refine ⟨w, μ, ρ, rfl, st, rs, (post.bind p).mono fun d w1 μ1 n1 q => ?_⟩
  intro v hv
  exact q w1 (.refl n1.st) _ ((rs.mono n1.ext n1.pre).set i (o := some d) (x := some v) hv)
/-- name = [..] on one line -/
theorem pd_setlc (hc : X.calm = true) (hN : X.N.Nodup) (hy : X.N[i]? = some y) (hyl : X.env.scope.names.lookup y = some .local) (hsw : swapsWith (.ListComp elt [⟨tg, iter, ifs, 0⟩] scope pos) (some (.Name y py)) spos.line X.env = pure true)
    (hi : PDI X E tg iter mi) (ok : BlkOk X.N X.env.scope scope own) (hg : Blk X scope fun X' => PDG X' NoE (own.map (·.2)) tg g) (ht : Blk X scope fun X' => PDTs X' NoE ifs t) (he : Blk X scope fun X' => PDE X' NoE elt e)
    (hs : ∀ x, foldedSetIterable iter X.env x = pure x := by intro _; rfl) : PDS X E (.Assign [.Name y py] (.ListComp elt [⟨tg, iter, ifs, 0⟩] scope pos) spos) (sSet i (eLc (own.map (·.2)) mi g t e)) :=
  (ps_setLc hc hN hy hyl hsw hi ok hg ht he hs).weak fun De σ H h => tAsg_of (fun σ H Q q => tLc_of q) De σ H h
theorem pd_sethlc (hc : X.calm = true) (hN : X.N.Nodup) (hy : X.N[i]? = some y) (hyl : X.env.scope.names.lookup y = some .local) (hsw : swapsWith (.ListComp elt [⟨tg, iter, ifs, 0⟩] scope pos) (some (.Name y py)) spos.line X.env = pure true)
    (hi : PDI X E tg iter mi) (ok : BlkOk X.N X.env.scope scope own) (hg : Blk X scope fun X' => PDG X' NoE (own.map (·.2)) tg g) (ht : Blk X scope fun X' => PDTs X' NoE ifs t) (he : Blk X scope fun X' => PDE X' NoE elt e)
    (hs : ∀ x, foldedSetIterable iter X.env x = pure x := by intro _; rfl) : PDS X E (.Assign [.Name y py] (.ListComp elt [⟨tg, iter, ifs, 0⟩] scope pos) spos) (sSet i (hLc (own.map (·.2)) mi g t e)) :=
  (ps_setLc hc hN hy hyl hsw hi ok hg ht he hs).weak fun De σ H h => tAsg_of (fun σ H Q q => tLc_ofH q) De σ H h
end
end
end
end MP

namespace MP
open PySem PySem.Spec L2
variable [Tb]
section
variable {X : Cx}
/-! ### len -/
def lenN (μ : Mu) (d : D) : Option Nat := match view μ d with
  | .str x => if fitL x.length = true then some x.length else none
  | .con .lst l => some l.length
  | .con .scr l => some l.length
  | .con .tup l => some l.length
  | .con .ctup l => some l.length
  | .con (.dK ks) _ => some ks.length
  | _ => none
def lenD (μ : Mu) (l : List D) : Option D := match l with
  | [d] => (lenN μ d).map fun n => .int n
  | _ => none
def rLen3 (K : PySem.W.Frag) : List V → Hp → VK → Prop := fun xs H Q => (∃ x n, xs = [x] ∧ LenV K x H n ∧ Q (.int n) H) ∨ ∃ a kvs, xs = [V.ref a] ∧ Rd H a (.dK kvs) ∧ Q (.int kvs.length) H
theorem call_len3 : CallR X (.builtin "len") (rLen3 X.K) := by
  refine CallR.or call_len ?_
  intro pins s σ H xs us Q I r h
  obtain ⟨a, kvs, rfl, ha, q⟩ := h
  obtain ⟨u, rfl, ru⟩ := vals1 r
  cases ru
  exact d_len I ha fun t s' I' => ⟨.int kvs.length, H, I', ⟨t, rfl⟩, q⟩
theorem cn_len : CN X (rLen3 X.K) lenD := by
  intro w μ l d vs Q st hl e k
  unfold lenD at e
  split at e
  · rename_i x
    obtain ⟨n, h1, rfl⟩ := Option.map_eq_some_iff.mp e
    obtain ⟨v, rfl, hv⟩ := repl_1 hl
    unfold lenN at h1
    split at h1
    · rename_i y e1
      split at h1
      · rename_i hz
        cases h1
        cases view_str e1 hv
        exact .inl ⟨_, _, rfl, ⟨of_decide_eq_true hz, rfl⟩, k w _ (.refl st) rep_int⟩
      · cases h1
    · rename_i l e1
      cases h1
      obtain ⟨a, vs, rfl, h1, h2⟩ := st.read hv e1
      exact .inl ⟨_, _, rfl, .inl ⟨vs, SqL.of h1, h2.length⟩, k w _ (.refl st) rep_int⟩
    · rename_i l e1
      cases h1
      obtain ⟨a, vs, rfl, h1, h2⟩ := st.read hv e1
      exact .inl ⟨_, _, rfl, .inl ⟨vs, h1, h2.length⟩, k w _ (.refl st) rep_int⟩
    · rename_i l e1
      cases h1
      obtain ⟨a, vs, rfl, h1, h2⟩ := st.read hv e1
      exact .inl ⟨_, _, rfl, .inr ⟨vs, SqT.of h1, h2.length⟩, k w _ (.refl st) rep_int⟩
    · rename_i l e1
      cases h1
      obtain ⟨a, vs, rfl, h1, h2⟩ := st.read hv e1
      exact .inl ⟨_, _, rfl, .inr ⟨vs, h1, h2.length⟩, k w _ (.refl st) rep_int⟩
    · rename_i ks l e1
      cases h1
      obtain ⟨a, vs, rfl, h1, h2⟩ := st.read hv e1
      refine .inr ⟨a, _, rfl, h1.2, ?_⟩
      rw [List.length_zip, h1.1, Nat.min_self, ← h1.1]
      exact k w _ (.refl st) rep_int
    · cases h1
  · cases e
/-! ### int, str, min -/
def intC (_ : Mu) (l : List D) : Option D := match l with
  | [.int i] => some (.int i)
  | [.str x] => match PySem.intText? x with
    | some n => if decide (x.length ≤ 640) = true then some (.int n) else none
    | none => none
  | _ => none
def rInt2 : List V → Hp → VK → Prop := fun xs H Q => ((∃ i, xs = [V.int i] ∧ Q (.int i) H) ∨ ∃ k, xs = [V.bl k] ∧ Q (.int (if k then 1 else 0)) H) ∨ ∃ a n, xs = [.str a] ∧ PySem.intText? a = some n ∧ a.length ≤ 640 ∧ Q (.int n) H
theorem call_int2 : CallR X (.type "int") rInt2 := CallR.or call_int1 call_int_str
theorem cn_int : CN X rInt2 intC := by
  intro w μ l d vs Q st hl e k
  unfold intC at e
  split at e
  · cases e
    obtain ⟨v, rfl, hv⟩ := repl_1 hl
    simp only [Rep] at hv
    subst hv
    exact .inl (.inl ⟨_, rfl, k w _ (.refl st) rep_int⟩)
  · split at e
    · rename_i n e1
      split at e
      · rename_i hz
        cases e
        obtain ⟨v, rfl, hv⟩ := repl_1 hl
        simp only [Rep] at hv
        subst hv
        exact .inr ⟨_, n, rfl, e1, of_decide_eq_true hz, k w _ (.refl st) rep_int⟩
      · cases e
    · cases e
  · cases e
def strC (_ : Mu) (l : List D) : Option D := match l with
  | [.int i] => if decide (i.natAbs.log2 < 1920) = true then some (.str (toString i)) else none
  | [.str x] => some (.str x)
  | _ => none
def rStr2 : List V → Hp → VK → Prop := fun xs H Q => (∃ i, xs = [V.int i] ∧ i.natAbs.log2 < 1920 ∧ Q (.str (toString i)) H) ∨ ∃ a, xs = [V.str a] ∧ Q (.str a) H
theorem call_str2 : CallR X (.type "str") rStr2 := CallR.or call_str_int SkE.call_str_str
theorem cn_str : CN X rStr2 strC := by
  intro w μ l d vs Q st hl e k
  unfold strC at e
  split at e
  · split at e
    · rename_i hz
      cases e
      obtain ⟨v, rfl, hv⟩ := repl_1 hl
      simp only [Rep] at hv
      subst hv
      exact .inl ⟨_, rfl, of_decide_eq_true hz, k w _ (.refl st) rep_str⟩
    · cases e
  · cases e
    obtain ⟨v, rfl, hv⟩ := repl_1 hl
    simp only [Rep] at hv
    subst hv
    exact .inr ⟨_, rfl, k w _ (.refl st) rep_str⟩
  · cases e
def min2 (_ : Mu) (l : List D) : Option D := match l with
  | [.int i, .int j] => some (.int (if j < i then j else i))
  | _ => none
theorem cn_min2 : CN X (fun xs H Q => ∃ i j, xs = [V.int i, V.int j] ∧ Q (.int (if j < i then j else i)) H) min2 := by
  intro w μ l d vs Q st hl e k
  unfold min2 at e
  split at e
  · cases e
    obtain ⟨v, u, rfl, hv, hu⟩ := repl_2 hl
    simp only [Rep] at hv hu
    subst hv hu
    exact ⟨_, _, rfl, k w _ (.refl st) rep_int⟩
  · cases e
/-! ### all, any, sum -/
def blsD : List D → Option (List Bool)
  | [] => some []
  | .bl b :: l => (blsD l).map (b :: ·)
  | _ => none
theorem blsD_rep {K : PySem.W.Frag} {mg : Str → Option Value} {F : Hp} {α : List Addr} : ∀ {l : List D} {bs : List Bool} {vs : List V}, blsD l = some bs → RepL K mg F α l vs → vs = bs.map V.bl
  | [], _, _, h, r => by
    cases h
    simp only [RepL] at r
    exact r
  | .bl b :: l, _, _, h, r => by
    obtain ⟨bs, h1, rfl⟩ := Option.map_eq_some_iff.mp h
    simp only [RepL] at r
    obtain ⟨v, r', rfl, h2, h3⟩ := r
    simp only [Rep] at h2
    rw [h2, blsD_rep h1 h3]
    rfl
  | .non :: _, _, _, h, _ => by cases h
  | .int _ :: _, _, _, h, _ => by cases h
  | .str _ :: _, _, _, h, _ => by cases h
  | .fn _ :: _, _, _, h, _ => by cases h
  | .ptr _ :: _, _, _, h, _ => by cases h
  | .con _ _ :: _, _, _, h, _ => by cases h
def allD (μ : Mu) (l : List D) : Option D := match l with
  | [d] => match view μ d with
    | .con .lst m => (blsD m).map fun bs => .bl (bs.all id)
    | _ => none
  | _ => none
def anyD (μ : Mu) (l : List D) : Option D := match l with
  | [d] => match view μ d with
    | .con .lst m => (blsD m).map fun bs => .bl (bs.any id)
    | _ => none
  | _ => none
theorem cn_all : CN X (rAll X.K) allD := by
  intro w μ l d vs Q st hl e k
  unfold allD at e
  split at e
  · split at e
    · rename_i m e1
      obtain ⟨bs, h1, rfl⟩ := Option.map_eq_some_iff.mp e
      obtain ⟨v, rfl, hv⟩ := repl_1 hl
      obtain ⟨a, us, rfl, h2, h3⟩ := st.read hv e1
      rw [blsD_rep h1 h3] at h2
      exact ⟨a, bs, rfl, SqL.of h2, k w _ (.refl st) rep_bl⟩
    · cases e
  · cases e
theorem cn_any : CN X (rAny X.K) anyD := by
  intro w μ l d vs Q st hl e k
  unfold anyD at e
  split at e
  · split at e
    · rename_i m e1
      obtain ⟨bs, h1, rfl⟩ := Option.map_eq_some_iff.mp e
      obtain ⟨v, rfl, hv⟩ := repl_1 hl
      obtain ⟨a, us, rfl, h2, h3⟩ := st.read hv e1
      rw [blsD_rep h1 h3] at h2
      exact ⟨a, bs, rfl, SqL.of h2, k w _ (.refl st) rep_bl⟩
    · cases e
  · cases e
def intsD : List D → Option (List Int)
  | [] => some []
  | .int b :: l => (intsD l).map (b :: ·)
  | _ => none
theorem intsD_rep {K : PySem.W.Frag} {mg : Str → Option Value} {F : Hp} {α : List Addr} : ∀ {l : List D} {bs : List Int} {vs : List V}, intsD l = some bs → RepL K mg F α l vs → vs = bs.map V.int
  | [], _, _, h, r => by
    cases h
    simp only [RepL] at r
    exact r
  | .int b :: l, _, _, h, r => by
    obtain ⟨bs, h1, rfl⟩ := Option.map_eq_some_iff.mp h
    simp only [RepL] at r
    obtain ⟨v, r', rfl, h2, h3⟩ := r
    simp only [Rep] at h2
    rw [h2, intsD_rep h1 h3]
    rfl
  | .non :: _, _, _, h, _ => by cases h
  | .bl _ :: _, _, _, h, _ => by cases h
  | .str _ :: _, _, _, h, _ => by cases h
  | .fn _ :: _, _, _, h, _ => by cases h
  | .ptr _ :: _, _, _, h, _ => by cases h
  | .con _ _ :: _, _, _, h, _ => by cases h
def sumD (μ : Mu) (l : List D) : Option D := match l with
  | [d] => match view μ d with
    | .con .lst m => (intsD m).map fun bs => .int bs.sum
    | .con .tup m => (intsD m).map fun bs => .int bs.sum
    | _ => none
  | _ => none
def rSum2 (K : PySem.W.Frag) : List V → Hp → VK → Prop := fun vs H Q => rSum K vs H Q ∨ ∃ (a : Addr) (ns : List Int), vs = [V.ref a] ∧ SqT K H a (ns.map V.int) ∧ Q (.int ns.sum) H
theorem call_sum2 (hc : X.calm = true) : CallR X (.builtin "sum") (rSum2 X.K) := by
  refine CallR.or (cr_sum hc) ?_
  intro pins s σ H vs us Q I r h
  obtain ⟨a, ns, rfl, hs, q⟩ := h
  obtain ⟨its, rv, hl, _⟩ := I.tuple hs
  rw [Vals.ref1 r]
  have hT : s.heap.IsTuple a its.toArray := hl
  obtain ⟨xs, e⟩ := rv.ints.allInts.items
  have hn : numsOf (PySem.intItems xs).toList = ns := by
    rw [← e]
    exact rv.ints.numsOf
  rw [nums_intItems] at hn
  rw [e] at hT
  refine PySem.W.ktm_sumG (I.ok.hd hc) hT fun h' tk t' hk => ⟨.int ns.sum, H, I.kept hk, ⟨t', ?_⟩, q⟩
  rw [preSum_eq, List.take_of_length_le (by simp), hn]
theorem cn_sum : CN X (rSum2 X.K) sumD := by
  intro w μ l d vs Q st hl e k
  unfold sumD at e
  split at e
  · split at e
    · rename_i m e1
      obtain ⟨bs, h1, rfl⟩ := Option.map_eq_some_iff.mp e
      obtain ⟨v, rfl, hv⟩ := repl_1 hl
      obtain ⟨a, us, rfl, h2, h3⟩ := st.read hv e1
      rw [intsD_rep h1 h3] at h2
      exact .inl ⟨a, bs, rfl, SqL.of h2, k w _ (.refl st) rep_int⟩
    · rename_i m e1
      obtain ⟨bs, h1, rfl⟩ := Option.map_eq_some_iff.mp e
      obtain ⟨v, rfl, hv⟩ := repl_1 hl
      obtain ⟨a, us, rfl, h2, h3⟩ := st.read hv e1
      rw [intsD_rep h1 h3] at h2
      exact .inr ⟨a, bs, rfl, SqT.of h2, k w _ (.refl st) rep_int⟩
    · cases e
  · cases e
/-! ### tuple, list -/
def tupD (μ : Mu) (l : List D) : Option D := match l with
  | [d] => match view μ d with
    | .con .lst m => some (.tup m)
    | .con .tup m => some (.tup m)
    | _ => none
  | _ => none
def rTupO (K : PySem.W.Frag) : List V → Hp → VK → Prop := fun xs H Q => ∃ p ys, xs = [V.ref p] ∧ ((SqL K H p ys ∧ ∀ l, H l = none → Q (.ref l) (upd H l (.tup ys))) ∨ (SqT K H p ys ∧ Q (.ref p) H))
theorem cn_tup : CN X (rTupO X.K) tupD := by
  intro w μ l d vs Q st hl e k
  unfold tupD at e
  split at e
  · split at e
    · rename_i m e1
      cases e
      obtain ⟨v, rfl, hv⟩ := repl_1 hl
      obtain ⟨a, us, rfl, h2, h3⟩ := st.read hv e1
      exact ⟨a, us, rfl, .inl ⟨SqL.of h2, fun p hp => k _ _ (st.new hp) (Rep.new (st.freshF hp) rfl h3)⟩⟩
    · rename_i m e1
      cases e
      obtain ⟨v, rfl, hv⟩ := repl_1 hl
      have ed := con_self (.inl rfl) st hv e1
      subst ed
      obtain ⟨a, us, rfl, h2, h3⟩ := st.read hv e1
      exact ⟨a, us, rfl, .inr ⟨SqT.of h2, k w _ (.refl st) hv⟩⟩
    · cases e
  · cases e
def lisD (μ : Mu) (l : List D) : Option (List D) := match l with
  | [d] => match view μ d with
    | .con .lst m => some m
    | .con .tup m => some m
    | .con (.dK ks) _ => some (ks.map dKey)
    | _ => none
  | _ => none
def listD (μ : Mu) (l : List D) : Option D := (lisD μ l).map .lst
def rLisO (K : PySem.W.Frag) : List V → Hp → VK → Prop := fun xs H Q => (∃ p ys, xs = [V.ref p] ∧ (SqL K H p ys ∨ SqT K H p ys) ∧ ∀ l, H l = none → Q (.ref l) (upd H l (.lst ys))) ∨
  ∃ (a : Addr) (kvs : List (Key × V)), xs = [.ref a] ∧ Rd H a (.dK kvs) ∧ ∀ p, H p = none → Q (.ref p) (upd H p (.lst (kvs.map fun kv => kV kv.1)))
theorem call_list3 (hc : X.calm = true) : CallR X (.type "list") (rLisO X.K) := CallR.or call_list_of (call_listD hc)
theorem repl_keys {K : PySem.W.Frag} {mg : Str → Option Value} {F : Hp} {α : List Addr} : ∀ (ks : List Key) (vs : List V), ks.length = vs.length → RepL K mg F α (ks.map dKey) ((ks.zip vs).map fun kv => kV kv.1)
  | [], vs, _ => by
    cases vs <;> exact .nil
  | k :: ks, [], h => by cases h
  | k :: ks, v :: vs, h => by
    refine .cons ?_ (repl_keys ks vs (by simpa using h))
    cases k with
    | inl i => exact rep_int
    | inr x => exact rep_str
theorem lisD_rep {w : Ws} {μ : Mu} {l m : List D} {vs : List V} {Q : VK} (st : StOk X.K X.mg w μ) (hl : RepL X.K X.mg w.F w.α l vs) (e : lisD μ l = some m) (k : ∀ p us, w.H p = none → RepL X.K X.mg w.F w.α m us → Q (.ref p) (upd w.H p (.lst us))) : rLisO X.K vs w.H Q := by
  unfold lisD at e
  split at e
  · split at e
    · rename_i m e1
      cases e
      obtain ⟨v, rfl, hv⟩ := repl_1 hl
      obtain ⟨a, us, rfl, h2, h3⟩ := st.read hv e1
      exact .inl ⟨a, us, rfl, .inl (SqL.of h2), fun p hp => k p us hp h3⟩
    · rename_i m e1
      cases e
      obtain ⟨v, rfl, hv⟩ := repl_1 hl
      obtain ⟨a, us, rfl, h2, h3⟩ := st.read hv e1
      exact .inl ⟨a, us, rfl, .inr (SqT.of h2), fun p hp => k p us hp h3⟩
    · rename_i ks m e1
      cases e
      obtain ⟨v, rfl, hv⟩ := repl_1 hl
      obtain ⟨a, us, rfl, h2, h3⟩ := st.read hv e1
      exact .inr ⟨a, _, rfl, h2.2, fun p hp => k p _ hp (repl_keys ks us h2.1)⟩
    · cases e
  · cases e
theorem cn_list : CN X (rLisO X.K) listD := by
  intro w μ l d vs Q st hl e k
  obtain ⟨m, e1, rfl⟩ := Option.map_eq_some_iff.mp e
  exact lisD_rep st hl e1 fun p us hp r => k _ _ (st.new hp) (Rep.new (st.freshF hp) rfl r)
/-- dict(d) -/
def dcpD (μ : Mu) (l : List D) : Option (Con × List D) := match l with
  | [d] => match view μ d with
    | .con (.dK ks) m => some (.dK ks, m)
    | _ => none
  | _ => none
def dictD (μ : Mu) (l : List D) : Option D := (dcpD μ l).map fun p => .con p.1 p.2
abbrev rDcp : List V → Hp → VK → Prop := fun xs H Q => ∃ (a : Addr) (kvs : List (Key × V)), xs = [V.ref a] ∧ Rd H a (.dK kvs) ∧ ∀ p, H p = none → Q (.ref p) (upd H p (.dK kvs))
theorem dcpD_rep {w : Ws} {μ : Mu} {l : List D} {m : Con × List D} {vs : List V} {Q : VK} (st : StOk X.K X.mg w μ) (hl : RepL X.K X.mg w.F w.α l vs) (e : dcpD μ l = some m)
    (k : ∀ p us u, w.H p = none → RepL X.K X.mg w.F w.α m.2 us → HOof X.mg m.1 us u → m.1 ≠ .tup → Q (.ref p) (upd w.H p u)) : rDcp vs w.H Q := by
  unfold dcpD at e
  split at e
  · split at e
    · rename_i ks m e1
      cases e
      obtain ⟨v, rfl, hv⟩ := repl_1 hl
      obtain ⟨a, us, rfl, h2, h3⟩ := st.read hv e1
      exact ⟨a, _, rfl, h2.2, fun p hp => k p us _ hp h3 ⟨h2.1, rfl⟩ (by intro z; cases z)⟩
    · cases e
  · cases e
theorem cn_dict : CN X rDcp dictD := by
  intro w μ l d vs Q st hl e k
  obtain ⟨m, e1, rfl⟩ := Option.map_eq_some_iff.mp e
  exact dcpD_rep st hl e1 fun p us u hp r hu _ => k _ _ (st.new hp hu.ntb) (Rep.new (st.freshF hp) hu r)
end
/-! ### calls whose result is a handle -/
section
variable {X : Cx} {E : XK}
def CH (X : Cx) (r : List V → Hp → VK → Prop) (f : Mu → List D → Option (Con × List D)) : Prop :=
  ∀ (w : Ws) (μ : Mu) (l : List D) (m : Con × List D) (vs : List V) (Q : VK), StOk X.K X.mg w μ → RepL X.K X.mg w.F w.α l vs → f μ l = some m → (∀ w' v, Nx X.K X.mg w w' (μ ++ [.lv false m.1 m.2]) → Rep X.K X.mg w'.F w'.α (.ptr μ.length) v → Q v w'.H) → r vs w.H Q
def eCH (f : Mu → List D → Option (Con × List D)) (a : MA) : ME := fun ρ μ => (a ρ μ).bind fun l μ1 => match f μ1 l with
  | some m => .ok (.ptr μ1.length) (μ1 ++ [.lv false m.1 m.2])
  | none => .stuck
theorem tG_ch {a : MA} {f : Mu → List D → Option (Con × List D)} {r : List V → Hp → VK → Prop} (hf : CH X r f) {σ : L2.St} {H : Hp} {Q : VK} (h : tE X.K X.mg E (eCH f a) σ H Q) : tA X.K X.mg E a σ H fun vs H1 => r vs H1 Q := by
  obtain ⟨w, μ, ρ, rfl, st, rs, p⟩ := h
  refine ⟨w, μ, ρ, rfl, st, rs, (post.bind p).mono fun x w1 μ1 n1 q => ?_⟩
  clear p
  intro vx hx
  split at q
  · rename_i m e
    exact hf w1 μ1 x m vx Q n1.st hx e fun w' v n r => q w' n v r
  · exact q.elim
theorem pd_callTyH {x : Str} {p pos : Pos} {e : Expr} {es : List Expr} {m : MA} {T : String} {r : List V → Hp → VK → Prop} {f : Mu → List D → Option (Con × List D)} (hc : CallR X (.type T) r) (hf : CH X r f) (hg : Gl X x) (hm : X.mg x = none) (hv : bootBuiltins x = some (.type T)) (ha : PDA X E (e :: es) m)
    (hn : x ≠ "__name__" := by decide) (hdb : (x == ("__debug__" : Str)) = false := by decide) (he : starEach (e :: es) X.env = (false, eval e X.env) :: starEach es X.env := by rfl) (hpl : (backTo pos (starEach es X.env)).any (·.1) = false := by rfl) :
    PDE X E (.Call (.Name x p) (e :: es) [] pos) (eCH f m) := (pe_callTy hc hg hm hv ha hn hdb he hpl).weak fun _ _ _ h => tG_ch hf h
theorem ch_list : CH X (rLisO X.K) (fun μ l => (lisD μ l).map fun m => (.lst, m)) := by
  intro w μ l m vs Q st hl e k
  obtain ⟨m, e1, rfl⟩ := Option.map_eq_some_iff.mp e
  refine lisD_rep st hl e1 fun p us hp r => k _ _ (st.push hp (by intro z; cases z) rfl r) ?_
  simp only [Rep]
  exact ⟨p, rfl, by rw [← st.len]; simp⟩
theorem ch_dict : CH X rDcp dcpD := by
  intro w μ l m vs Q st hl e k
  refine dcpD_rep st hl e fun p us u hp r hu hc => k _ _ (st.push hp hc hu r) ?_
  simp only [Rep]
  exact ⟨p, rfl, by rw [← st.len]; simp⟩
end
end MP

/-! a dict's keys walked: the dict is locked while the statement runs -/
namespace MP
open PySem PySem.Spec L2
variable [Tb]
abbrev Sel := Rho → Mu → Option D
def vSel (i : Nat) : Sel := fun ρ _ => match ρ[i]? with
  | some (some d) => some d
  | _ => none
def fSel (f : Str) (cs : List Str) (i : Nat) : Sel := fun ρ μ => (vSel i ρ μ).bind (fldD f cs μ)
def unlk {β : Type} (k : Nat) (x : β) (μ : Mu) : R β := match μ[k]? with
  | some (.lv true c l) => .ok x (μ.set k (.lv false c l))
  | _ => .stuck
def lockM {β : Type} (sel : Sel) (m : Rho → Mu → R β) : Rho → Mu → R β := fun ρ μ => match sel ρ μ with
  | some (.ptr k) => match μ[k]? with
    | some (.lv false (.dK ks) l) => (noX (m ρ (μ.set k (.lv true (.dK ks) l)))).bind (unlk k)
    | some (.lv true _ _) => m ρ μ
    | _ => .stuck
  | _ => .stuck
def SelOk (K : PySem.W.Frag) (mg : Str → Option Value) (sel : Sel) : Prop :=
  ∀ (w : Ws) (μ : Mu) (ρ : Rho) (σ : L2.St) (d : D), StOk K mg w μ → RepS K mg w.F w.α ρ σ → sel ρ μ = some d → ∃ v, Rep K mg w.F w.α d v
section
variable {K : PySem.W.Frag} {mg : Str → Option Value}
theorem selV (i : Nat) : SelOk K mg (vSel i) := by
  intro w μ ρ σ d st rs h
  unfold vSel at h
  split at h
  · rename_i d' e
    cases h
    obtain ⟨v, _, h2⟩ := rs.get e
    exact ⟨v, h2⟩
  · cases h
theorem selF {f : Str} {cs : List Str} (i : Nat) : SelOk K mg (fSel f cs i) := by
  intro w μ ρ σ d st rs h
  unfold fSel at h
  obtain ⟨x, h1, h2⟩ := Option.bind_eq_some_iff.mp h
  obtain ⟨v, hv⟩ := selV i w μ ρ σ x st rs h1
  unfold fldD at h2
  split at h2
  · rename_i C fs l e1
    split at h2
    · obtain ⟨a, vs, _, _, h4⟩ := st.read hv e1
      obtain ⟨v', _, h6⟩ := lookup_zip h4 h2
      exact ⟨v', h6⟩
    · cases h2
  · cases h2
theorem tt_frz {H : Hp} {p : Addr} {o : Obj} {u x : HO} (h : H p = some (.frz o u)) : TbS H (upd H p x) := fun T t q hq => by
  obtain ⟨ps, h1, h2, h3⟩ := t q hq
  have n1 : q.1 ≠ p := fun z => by
    rw [z, h] at h1
    cases h1
  refine ⟨ps, by rw [upd_ne n1]; exact h1, h2, fun pos cv hcv => ?_⟩
  obtain ⟨c, e1, e2⟩ := h3 pos cv hcv
  refine ⟨c, e1, ?_⟩
  have n2 : c ≠ p := fun z => by
    rw [z, h] at e2
    cases Option.some.inj e2
  rw [upd_ne n2]
  exact e2
/-- unlocked again -/
theorem Nx.unlock {w w' : Ws} {μ μ' : Mu} {k : Nat} {a : Addr} {od : Obj} {u : HO} {c0 c : Con} {l0 l : List D} (st : StOk K mg w μ) (hk : μ[k]? = some (.lv false c0 l0)) (ha : w.α[k]? = some a) (hu : w.H a = some u) (hnf : ∀ o x, u ≠ .frz o x)
    (n : Nx K mg ⟨w.F, w.α, upd w.H a (.frz od u)⟩ w' μ') (hk' : μ'[k]? = some (.lv true c l)) : w'.H a = some (.frz od u) ∧ Nx K mg w ⟨w'.F, w'.α, upd w'.H a u⟩ (μ'.set k (.lv false c l)) := by
  have hz : w'.H a = some (.frz od u) := n.fr.fz a od u upd_same
  have ha' : w'.α[k]? = some a := get_pre n.pre ha
  refine ⟨hz, n.ext, n.pre, ⟨?_, ?_, n.st.nd, fun k2 b ob hb hk2 => ?_, tt_frz hz _ n.st.tb⟩, ⟨fun b q1 q2 q3 q4 => ?_, fun b o x q => ?_⟩⟩
  · have o := n.st.own k a _ ha' hk'
    exact n.st.sub.updH o.1
  · show w'.α.length = _
    rw [List.length_set]
    exact n.st.len
  · have hb : w'.α[k2]? = some b := hb
    by_cases hkk : k = k2
    · subst hkk
      have hl : k < μ'.length := (List.getElem?_eq_some_iff.mp hk').1
      rw [List.getElem?_set_self hl] at hk2
      cases hk2
      have eb : b = a := Option.some.inj (hb.symm.trans ha')
      subst eb
      obtain ⟨o1, o2, vs, x, o3, o4, o5⟩ := n.st.own k b _ ha' hk'
      unfold Held at o4
      rw [if_pos rfl] at o4
      obtain ⟨_, o', o6⟩ := o4
      rw [hz] at o6
      cases o6
      exact ⟨o1, o2, vs, u, o3, upd_same, o5⟩
    · rw [List.getElem?_set_ne hkk] at hk2
      have o := n.st.own k2 b ob hb hk2
      have hba : b ≠ a := fun z => hkk (nodup_get n.st.nd ha' (z ▸ hb))
      cases ob with
      | dead => exact o
      | lv lk c2 l2 =>
        obtain ⟨o1, o2, vs, x, o3, o4, o5⟩ := o
        exact ⟨o1, o2, vs, x, o3, o4.ne hba, o5⟩
  · have hba : b ≠ a := fun z => q2 (z ▸ List.mem_of_getElem? ha)
    have hH : upd w.H a (.frz od u) b = w.H b := upd_ne hba
    obtain ⟨k1, k2, k3⟩ := n.fr.fr b q1 q2 (fun z => q3 (hH.symm.trans z)) (fun ps z => q4 ps (hH.symm.trans z))
    refine ⟨k1, k2, ?_⟩
    show upd w'.H a u b = w.H b
    rw [upd_ne hba]
    exact k3.trans (upd_ne hba)
  · have hba : b ≠ a := fun z => by
      rw [z, hu] at q
      exact hnf _ _ (Option.some.inj q)
    show upd w'.H a u b = _
    rw [upd_ne hba]
    exact n.fr.fz b o x ((upd_ne hba).trans q)
theorem lock_of {β : Type} {sel : Sel} (hs : SelOk K mg sel) {m : Rho → Mu → R β} {σ : L2.St} {H : Hp} {E : XK} {P : β → Ws → Mu → Rho → Prop} (h : tG K mg E (lockM sel m) σ H P) :
    (∃ d u, H d = some u ∧ Mut (some u) ∧ ∀ od, tG K mg E m σ (upd H d (.frz od u)) fun x w' μ' ρ => w'.H d = some (.frz od u) ∧ ∃ μ2, P x ⟨w'.F, w'.α, upd w'.H d u⟩ μ2 ρ) ∨ tG K mg E m σ H P := by
  obtain ⟨w, μ, ρ, rfl, st, rs, p⟩ := h
  unfold lockM at p
  split at p
  · rename_i k e
    obtain ⟨v, hv⟩ := hs w μ ρ σ _ st rs e
    simp only [Rep] at hv
    obtain ⟨a, _, ha⟩ := hv
    split at p
    · rename_i ks l hk
      obtain ⟨hF, hc, vs, u, h1, h2, h3⟩ := st.own k a _ ha hk
      have h2 : w.H a = some u := h2
      obtain ⟨h1l, h1e⟩ := h1
      subst h1e
      refine .inl ⟨a, _, h2, trivial, fun od => ?_⟩
      have n := st.write (k := k) (a := a) (u := .dK (ks.zip vs)) (c := .dK ks) (l := l) (vs := vs) ha hF h2 rfl hc true ⟨h1l, rfl⟩ h3 (.frz od (.dK (ks.zip vs))) (by rw [if_pos rfl]; exact ⟨rfl, od, rfl⟩)
      refine ⟨_, _, ρ, rfl, n.st, rs, ?_⟩
      refine (post.nox (w := ⟨w.F, w.α, upd w.H a (.frz od (.dK (ks.zip vs)))⟩) p).mono fun x w' μ' n' q => ?_
      unfold unlk at q
      split at q
      · rename_i c l2 hk'
        obtain ⟨z1, z2⟩ := Nx.unlock st hk ha h2 (fun _ _ z => nomatch z) n' hk'
        exact ⟨z1, _, q _ z2⟩
      · exact q.elim
    · exact .inr ⟨w, μ, ρ, rfl, st, rs, p⟩
    · exact p.elim
  · exact p.elim
end
section
variable {X : Cx} {E : XK}
theorem pd_lockS {st : Stmt} {m : MS} (sel : Sel) (hs : SelOk X.K X.mg sel) (h : PDS X E st m) : PDS X E st (lockM sel m) := by
  refine ⟨fun pins s σ H De I q => ?_⟩
  rcases lock_of hs q with ⟨d, u, h1, h2, h3⟩ | q
  · refine (ps_lock h).run pins s σ H De I ⟨d, u, h1, h2, fun od => ?_⟩
    obtain ⟨w, μ, ρ, e, st, rs, p⟩ := h3 od
    refine ⟨w, μ, ρ, e, st, rs, p.mono fun x w' μ' n' q => ?_⟩
    obtain ⟨q1, μ2, q2⟩ := q
    intro σ' r'
    have q3 := q2 σ' r'
    obtain ⟨f, ρ'⟩ := x
    cases f with
    | nx => exact ⟨q1, q3⟩
    | bk => exact ⟨q1, q3⟩
    | ct => exact ⟨q1, q3⟩
    | rt d => exact fun v hv => ⟨q1, q3 v hv⟩
  · exact h.run pins s σ H De I q
theorem pd_lockE {e : Expr} {m : ME} (sel : Sel) (hs : SelOk X.K X.mg sel) (h : PDE X E e m) : PDE X E e (lockM sel m) := by
  refine ⟨fun pins s σ H Q I q => ?_⟩
  rcases lock_of hs q with ⟨d, u, h1, h2, h3⟩ | q
  · refine (pe_lock h).run pins s σ H Q I ⟨d, u, h1, h2, fun od => ?_⟩
    obtain ⟨w, μ, ρ, e, st, rs, p⟩ := h3 od
    refine ⟨w, μ, ρ, e, st, rs, p.mono fun x w' μ' n' q => ?_⟩
    obtain ⟨q1, μ2, q2⟩ := q
    exact fun v hv => ⟨q1, q2 v hv⟩
  · exact h.run pins s σ H Q I q
/-- the keys of the locked dict -/
def iKeysL (a : ME) : MI := fun ρ μ => (a ρ μ).bind fun d μ1 => match d with
  | .ptr k => match μ1[k]? with
    | some (.lv true (.dK ks) _) => .ok (fun _ => some (ks.map dKey)) μ1
    | _ => .stuck
  | _ => .stuck
theorem dKey_rep {K : PySem.W.Frag} {mg : Str → Option Value} {F : Hp} {α : List Addr} : ∀ k : Key, Rep K mg F α (dKey k) (kV k)
  | .inl i => rep_int
  | .inr x => rep_str
theorem pd_ikeys {tg e : Expr} {m : ME} (he : PDE X E e m) : PDI X E tg e (iKeysL m) := PI.weak' (pi_keys he) fun σ H R h => by
  obtain ⟨w, μ, ρ, rfl, st, rs, p⟩ := h
  refine ⟨w, μ, ρ, rfl, st, rs, (post.bind p).mono fun d w1 μ1 n1 q => ?_⟩
  clear p
  intro v hv
  split at q
  · rename_i k
    split at q
    · rename_i ks l hk
      simp only [Rep] at hv
      obtain ⟨a, rfl, ha⟩ := hv
      obtain ⟨hF, hc, vs, u, h1, h2, h3⟩ := n1.st.own k a _ ha hk
      unfold Held at h2
      rw [if_pos rfl] at h2
      obtain ⟨_, o, h4⟩ := h2
      obtain ⟨h1l, h1e⟩ := h1
      subst h1e
      refine ⟨a, o, rfl, .inl ⟨_, h4, q w1 (.refl n1.st) _ ?_⟩⟩
      intro w2 μ2 l2 _ _ fr s2 hl
      cases hl
      have h5 := fr.fz a o _ h4
      have hlen : (ks.zip vs).length = ks.length := by
        rw [List.length_zip, h1l, Nat.min_self]
      refine ⟨⟨h5, by rw [hlen, List.length_map]; exact Nat.le_refl _⟩, fun i x hx => ?_⟩
      rw [List.getElem?_map, Option.map_eq_some_iff] at hx
      obtain ⟨key, hx1, rfl⟩ := hx
      have hi := (List.getElem?_eq_some_iff.mp hx1).1
      refine ⟨⟨h5, by rw [hlen]; exact hi⟩, fun v' H' y => ?_⟩
      obtain ⟨rfl, k3, v3, h6, rfl⟩ := y
      have h7 : k3 = key := by
        have e1 : ((ks.zip vs).map (·.1))[i]? = some k3 := by
          rw [List.getElem?_map, h6]
          rfl
        rw [List.map_fst_zip (Nat.le_of_eq h1l), hx1] at e1
        exact (Option.some.inj e1).symm
      subst h7
      exact ⟨w2, rfl, .refl s2, dKey_rep _⟩
    · exact q.elim
  · exact q.elim
end
end MP

namespace MP
open PySem PySem.Spec L2
variable [Tb]
section
variable {X : Cx} {E : XK}
/-! ### methods of lists and texts -/
def tyOk (T : String) (μ : Mu) (o : D) : Bool := match view μ o with
  | .con .lst _ => T == "list"
  | .con .scr _ => T == "list"
  | .str _ => T == "str"
  | _ => false
def MM (X : Cx) (r : V → List V → Hp → VK → Prop) (g : Mu → D → List D → Option (D × Mu)) : Prop :=
  ∀ (w : Ws) (μ μ' : Mu) (o d : D) (l : List D) (vo : V) (vs : List V) (Q : VK), StOk X.K X.mg w μ → Rep X.K X.mg w.F w.α o vo → RepL X.K X.mg w.F w.α l vs → g μ o l = some (d, μ') → (∀ w' v, Nx X.K X.mg w w' μ' → Rep X.K X.mg w'.F w'.α d v → Q v w'.H) → r vo vs w.H Q
def eMt (T : String) (g : Mu → D → List D → Option (D × Mu)) (o : ME) (a : MA) : ME := fun ρ μ => (o ρ μ).bind fun x μ1 => if tyOk T μ1 x = true then (a ρ μ1).bind fun l μ2 => (match g μ2 x l with
  | some p => .ok p.1 p.2
  | none => .stuck) else .stuck
theorem tyOk_rep {T : String} {w : Ws} {μ : Mu} {o : D} {v : V} (st : StOk X.K X.mg w μ) (r : Rep X.K X.mg w.F w.α o v) (h : tyOk T μ o = true) : tyV X.K T v w.H := by
  unfold tyOk at h
  split at h
  · rename_i l e
    obtain ⟨a, vs, rfl, h1, h2⟩ := st.read r e
    exact .inl ⟨eq_of_beq h, vs, SqL.of h1⟩
  · rename_i l e
    obtain ⟨a, vs, rfl, h1, h2⟩ := st.read r e
    exact .inl ⟨eq_of_beq h, vs, h1⟩
  · rename_i l e
    cases view_str e r
    exact eq_of_beq h
  · cases h
theorem tG_mt {T : String} {r : V → List V → Hp → VK → Prop} {g : Mu → D → List D → Option (D × Mu)} (hm : MM X r g) {mo : ME} {ma : MA} {σ : L2.St} {H : Hp} {Q : VK} (h : tE X.K X.mg E (eMt T g mo ma) σ H Q) :
    tE X.K X.mg E mo σ H fun x H1 => tyV X.K T x H1 ∧ tA X.K X.mg E ma σ H1 fun xs H2 => r x xs H2 Q := by
  obtain ⟨w, μ, ρ, rfl, st, rs, p⟩ := h
  refine ⟨w, μ, ρ, rfl, st, rs, (post.bind p).mono fun x w1 μ1 n1 q => ?_⟩
  clear p
  intro vx hx
  split at q
  · rename_i ht
    refine ⟨tyOk_rep n1.st hx ht, w1, μ1, ρ, rfl, n1.st, rs.mono n1.ext n1.pre, (post.bind q).mono fun l w2 μ2 n2 q2 => ?_⟩
    clear q
    intro vs hv
    split at q2
    · rename_i p e
      exact hm w2 μ2 p.2 x p.1 l vx vs Q n2.st (Rep.mono n2.ext n2.pre _ _ hx) hv e fun w' v n r => q2 w' n v r
    · exact q2.elim
  · exact q.elim
section
variable {o e : Expr} {es : List Expr} {mo : ME} {ma : MA} {name : Str} {apos cpos : Pos} {T id : String} {r : V → List V → Hp → VK → Prop} {g : Mu → D → List D → Option (D × Mu)}
theorem pd_mt0 (pa : PlainAttrs T) (slot : Slot T name id) (hty : typeOf (.builtin id) = pure (.type "method_descriptor")) (hm : MtR X id r) (hg : MM X r g) (ho : PDE X E o mo)
    (hbase : attributeBase o name X.env (eval o X.env) = eval o X.env := by rfl) (hline : (apos.endLine == cpos.line) = true := by rfl) : PDE X E (.Call (.Attribute o name apos) [] [] cpos) (eMt T g mo aNil) :=
  (pe_bm0 pa slot hty hm ho hbase hline).weak fun σ H Q h => by
    obtain ⟨w, μ, ρ, eH, st, rs, p⟩ := tG_mt hg h
    refine ⟨w, μ, ρ, eH, st, rs, p.mono fun x w1 μ1 n1 q => ?_⟩
    intro vx hx
    obtain ⟨q1, w2, μ2, ρ2, e2, s2, rs2, q2⟩ := q vx hx
    refine ⟨q1, ?_⟩
    have q3 := q2 w2 (.refl s2) [] .nil
    rw [e2] at q3
    exact q3
theorem pd_mt (pa : PlainAttrs T) (slot : Slot T name id) (hty : typeOf (.builtin id) = pure (.type "method_descriptor")) (hm : MtR X id r) (hg : MM X r g) (ho : PDE X E o mo) (ha : PDA X E (e :: es) ma)
    (hbase : attributeBase o name X.env (eval o X.env) = eval o X.env := by rfl)
    (hfew : ((backTo cpos (starEach (e :: es) X.env)).all (fun x => !x.1)
      && (backToKw cpos (keywordEach [] X.env)).all (fun x => x.1.isSome)
      && decide ((e :: es).length + ([] : List Keyword).length
        + (if ([] : List Keyword).isEmpty then 0 else 1) < 30)) = true := by rfl)
    (hline : (apos.endLine == cpos.line) = true := by rfl)
    (hs : starEach (e :: es) X.env = (false, eval e X.env) :: starEach es X.env := by rfl)
    (hplain : (backTo cpos (starEach es X.env)).any (·.1) = false := by rfl) : PDE X E (.Call (.Attribute o name apos) (e :: es) [] cpos) (eMt T g mo ma) :=
  (pe_bm pa slot hty hm ho ha hbase hfew hline hs hplain).weak fun σ H Q h => tG_mt hg h
end
/-! ### append, extend, pop -/
def lstAt (μ : Mu) (o : D) : Option (Nat × List D) := match o with
  | .ptr k => match μ[k]? with
    | some (.lv false .lst m) => some (k, m)
    | _ => none
  | _ => none
theorem lstAt_rep {w : Ws} {μ : Mu} {o : D} {k : Nat} {m : List D} {v : V} (st : StOk X.K X.mg w μ) (r : Rep X.K X.mg w.F w.α o v) (h : lstAt μ o = some (k, m)) :
    ∃ a vs, v = .ref a ∧ w.H a = some (.lst vs) ∧ RepL X.K X.mg w.F w.α m vs ∧ ∀ l' vs', RepL X.K X.mg w.F w.α l' vs' → Nx X.K X.mg w ⟨w.F, w.α, upd w.H a (.lst vs')⟩ (μ.set k (.lv false .lst l')) := by
  unfold lstAt at h
  split at h
  · rename_i k0
    split at h
    · rename_i m0 hk
      cases h
      obtain ⟨a, vs, u, rfl, ha, hF, hc, hu, hH, hr⟩ := st.ptr r hk
      have hu' : u = .lst vs := hu
      subst hu'
      exact ⟨a, vs, rfl, hH, hr, fun l' vs' r' => st.put ha hF hH hu hc (c' := .lst) rfl r'⟩
    · cases h
  · cases h
def appG (μ : Mu) (o : D) (l : List D) : Option (D × Mu) := match lstAt μ o, l with
  | some (k, m), [d] => if decide (m.length < sizeLine) = true then some (.non, μ.set k (.lv false .lst (m ++ [d]))) else none
  | _, _ => none
theorem mm_app : MM X rAppend appG := by
  intro w μ μ' o d l vo vs Q st ho hl e k
  unfold appG at e
  split at e
  · rename_i kk m d' e1
    split at e
    · rename_i hz
      cases e
      obtain ⟨a, us, rfl, h1, h2, h3⟩ := lstAt_rep st ho e1
      obtain ⟨v, rfl, hv⟩ := repl_1 hl
      exact ⟨a, us, v, rfl, rfl, h1, by rw [← h2.length]; exact of_decide_eq_true hz, k _ _ (h3 _ _ (h2.append (.cons hv .nil))) rep_non⟩
    · cases e
  · cases e
def extG (μ : Mu) (o : D) (l : List D) : Option (D × Mu) := match lstAt μ o, l with
  | some (k, m), [d] => (match view μ d with
    | .con .lst z => if fitL (m.length + z.length) = true then some (.non, μ.set k (.lv false .lst (m ++ z))) else none
    | _ => none)
  | _, _ => none
theorem mm_ext : MM X rExtend extG := by
  intro w μ μ' o d l vo vs Q st ho hl e k
  unfold extG at e
  split at e
  · rename_i kk m d' e1
    split at e
    · rename_i z e2
      split at e
      · rename_i hz
        cases e
        obtain ⟨a, us, rfl, h1, h2, h3⟩ := lstAt_rep st ho e1
        obtain ⟨v, rfl, hv⟩ := repl_1 hl
        obtain ⟨b, zs, rfl, h4, h5⟩ := st.read hv e2
        exact ⟨a, b, us, zs, rfl, rfl, h1, h4, by rw [← h2.length, ← h5.length]; exact of_decide_eq_true hz, k _ _ (h3 _ _ (h2.append h5)) rep_non⟩
      · cases e
    · cases e
  · cases e
def popG (μ : Mu) (o : D) (l : List D) : Option (D × Mu) := match lstAt μ o, l with
  | some (k, m), [] => (m[m.length - 1]?).map fun d => (d, μ.set k (.lv false .lst m.dropLast))
  | _, _ => none
theorem RepL.dropLast {K : PySem.W.Frag} {mg : Str → Option Value} {F : Hp} {α : List Addr} {l : List D} {vs : List V} (h : RepL K mg F α l vs) : RepL K mg F α l.dropLast vs.dropLast := by
  rw [List.dropLast_eq_take, List.dropLast_eq_take, h.length]
  exact h.take _
theorem mm_pop : MM X rPop popG := by
  intro w μ μ' o d l vo vs Q st ho hl e k
  unfold popG at e
  split at e
  · rename_i kk m e1
    obtain ⟨x, h0, e2⟩ := Option.map_eq_some_iff.mp e
    cases e2
    obtain ⟨a, us, rfl, h1, h2, h3⟩ := lstAt_rep st ho e1
    simp only [RepL] at hl
    subst hl
    obtain ⟨v, h4, h5⟩ := h2.get h0
    exact ⟨a, us, v, rfl, rfl, h1, by rw [← h2.length]; exact h4, k _ _ (h3 _ _ h2.dropLast) h5⟩
  · cases e
def popAtG (μ : Mu) (o : D) (l : List D) : Option (D × Mu) := match lstAt μ o, l with
  | some (k, m), [.int i] => if smallI i = true then (match ixN m.length i with
    | some j => (m[j]?).map fun d => (d, μ.set k (.lv false .lst (m.eraseIdx j)))
    | none => none) else none
  | _, _ => none
theorem mm_popAt : MM X rPopAt popAtG := by
  intro w μ μ' o d l vo vs Q st ho hl e k
  unfold popAtG at e
  split at e
  · rename_i kk m i e1
    split at e
    · rename_i hb
      split at e
      · rename_i j e2
        obtain ⟨x, h0, e3⟩ := Option.map_eq_some_iff.mp e
        cases e3
        obtain ⟨a, us, rfl, h1, h2, h3⟩ := lstAt_rep st ho e1
        obtain ⟨v, rfl, hv⟩ := repl_1 hl
        simp only [Rep] at hv
        subst hv
        obtain ⟨v, h4, h5⟩ := h2.get h0
        obtain ⟨s1, s2, s3, s4⟩ := ixN_seq e2
        obtain ⟨b1, b2⟩ := small_of hb
        exact ⟨a, us, i, j, v, rfl, rfl, h1, by omega, by omega, by rw [← h2.length]; exact s1, h4, k _ _ (h3 _ _ (h2.eraseIdx j)) h5⟩
      · cases e
    · cases e
  · cases e
/-! ### join, startswith, split -/
def strsD : List D → Option (List Str)
  | [] => some []
  | .str b :: l => (strsD l).map (b :: ·)
  | _ => none
theorem strsD_rep {K : PySem.W.Frag} {mg : Str → Option Value} {F : Hp} {α : List Addr} : ∀ {l : List D} {bs : List Str} {vs : List V}, strsD l = some bs → RepL K mg F α l vs → vs = bs.map V.str
  | [], _, _, h, r => by
    cases h
    simp only [RepL] at r
    exact r
  | .str b :: l, _, _, h, r => by
    obtain ⟨bs, h1, rfl⟩ := Option.map_eq_some_iff.mp h
    simp only [RepL] at r
    obtain ⟨v, r', rfl, h2, h3⟩ := r
    simp only [Rep] at h2
    rw [h2, strsD_rep h1 h3]
    rfl
  | .non :: _, _, _, h, _ => by cases h
  | .bl _ :: _, _, _, h, _ => by cases h
  | .int _ :: _, _, _, h, _ => by cases h
  | .fn _ :: _, _, _, h, _ => by cases h
  | .ptr _ :: _, _, _, h, _ => by cases h
  | .con _ _ :: _, _, _, h, _ => by cases h
def joinFit (a : Str) (ys : List Str) : Bool := decide ((ys.map (·.length)).sum + ys.length * a.length ≤ 16777216)
def joinG (μ : Mu) (o : D) (l : List D) : Option (D × Mu) := match o, l with
  | .str a, [d] => (match view μ d with
    | .con .lst m => (match strsD m with
      | some ys => if joinFit a ys = true then some (.str (Txt.join a ys), μ) else none
      | none => none)
    | _ => none)
  | _, _ => none
abbrev rJoin (K : PySem.W.Frag) : V → List V → Hp → VK → Prop := fun x xs H Q => ∃ a p, ∃ ys : List Str, x = .str a ∧ xs = [.ref p] ∧ (SqL K H p (ys.map V.str) ∨ SqT K H p (ys.map V.str)) ∧
  (ys.map (·.length)).sum + ys.length * a.length ≤ 16777216 ∧ Q (.str (Txt.join a ys)) H
theorem mm_join : MM X (rJoin X.K) joinG := by
  intro w μ μ' o d l vo vs Q st ho hl e k
  unfold joinG at e
  split at e
  · rename_i a d'
    split at e
    · rename_i m e1
      split at e
      · rename_i ys e2
        split at e
        · rename_i hz
          cases e
          obtain ⟨v, rfl, hv⟩ := repl_1 hl
          obtain ⟨p, us, rfl, h1, h2⟩ := st.read hv e1
          simp only [Rep] at ho
          subst ho
          rw [strsD_rep e2 h2] at h1
          exact ⟨a, p, ys, rfl, rfl, .inl (SqL.of h1), of_decide_eq_true hz, k w _ (.refl st) rep_str⟩
        · cases e
      · cases e
    · cases e
  · cases e
def startG (μ : Mu) (o : D) (l : List D) : Option (D × Mu) := match o, l with
  | .str a, [.str b] => some (.bl (Txt.startswith a b), μ)
  | _, _ => none
abbrev rStart : V → List V → Hp → VK → Prop := fun x xs H Q => ∃ a b, x = .str a ∧ xs = [.str b] ∧ Q (.bl (Txt.startswith a b)) H
theorem mm_start : MM X rStart startG := by
  intro w μ μ' o d l vo vs Q st ho hl e k
  unfold startG at e
  split at e
  · cases e
    obtain ⟨v, rfl, hv⟩ := repl_1 hl
    simp only [Rep] at ho hv
    subst ho hv
    exact ⟨_, _, rfl, rfl, k w _ (.refl st) rep_bl⟩
  · cases e
def splitG (μ : Mu) (o : D) (l : List D) : Option (D × Mu) := match o, l with
  | .str a, [.str b] => if (!(b.length == 0) && decide (a.length + 2 ≤ sizeLine)) = true then some (.lst ((Txt.split a b).map .str), μ) else none
  | _, _ => none
abbrev rSplit : V → List V → Hp → VK → Prop := fun x xs H Q => ∃ a b, x = .str a ∧ xs = [.str b] ∧ (b.length == 0) = false ∧ a.length + 2 ≤ sizeLine ∧ rNewStrs (Txt.split a b) H Q
theorem repl_strs {K : PySem.W.Frag} {mg : Str → Option Value} {F : Hp} {α : List Addr} : ∀ (ys : List Str), RepL K mg F α (ys.map D.str) (ys.map V.str)
  | [] => .nil
  | y :: ys => .cons rep_str (repl_strs ys)
theorem mm_split : MM X rSplit splitG := by
  intro w μ μ' o d l vo vs Q st ho hl e k
  unfold splitG at e
  split at e
  · split at e
    · rename_i hz
      cases e
      obtain ⟨v, rfl, hv⟩ := repl_1 hl
      simp only [Rep] at ho hv
      subst ho hv
      rw [Bool.and_eq_true, decide_eq_true_eq] at hz
      refine ⟨_, _, rfl, rfl, by simpa using hz.1, hz.2, fun p hp => k _ _ (st.new hp) (Rep.new (st.freshF hp) rfl (repl_strs _))⟩
    · cases e
  · cases e
/-! ### dicts: get, pop -/
def eGet (o y z : ME) : ME := fun ρ μ => (o ρ μ).bind fun x μ1 => match view μ1 x with
  | .con (.dK _) _ => (y ρ μ1).bind fun k μ2 => (z ρ μ2).bind fun u μ3 => (match view μ3 x with
    | .con (.dK ks) l => (match keyD k with
      | some key => .ok ((findD ks l key).getD u) μ3
      | none => .stuck)
    | _ => .stuck)
  | .con (.dT _) _ => (y ρ μ1).bind fun k μ2 => (z ρ μ2).bind fun u μ3 => (match view μ3 x with
    | .con (.dT ks) l => (match k with
      | .con .tup m => (match keysD m with
        | some key => .ok ((findD ks l key).getD u) μ3
        | none => .stuck)
      | _ => .stuck)
    | _ => .stuck)
  | _ => .stuck
theorem getD_rep {κ : Type} [DecidableEq κ] {K : PySem.W.Frag} {mg : Str → Option Value} {F : Hp} {α : List Addr} {ks : List κ} {l : List D} {vs : List V} {x : κ} {u : D} {vu : V} (r : RepL K mg F α l vs) (ru : Rep K mg F α u vu) : Rep K mg F α ((findD ks l x).getD u) ((valV (ks.zip vs) x).getD vu) := by
  cases h : findD ks l x with
  | none =>
    rw [findD_none r h]
    exact ru
  | some d =>
    obtain ⟨v, h1, h2⟩ := findD_rep r h
    rw [h1]
    exact h2
theorem pd_get {o e f : Expr} {mo me mf : ME} {apos cpos : Pos} (hu : X.A.units + 1 < cLine) (ho : PDE X E o mo) (he : PDE X E e me) (hf : PDE X E f mf) (m : M2 X o "get" apos e f cpos) : PDE X E (.Call (.Attribute o "get" apos) [e, f] [] cpos) (eGet mo me mf) :=
  (pe_dget2 hu ho he hf m).weak fun σ H Q h => by
    obtain ⟨w, μ, ρ, rfl, st, rs, p⟩ := h
    refine ⟨w, μ, ρ, rfl, st, rs, (post.bind p).mono fun x w1 μ1 n1 q => ?_⟩
    clear p
    intro vx hx
    split at q
    · rename_i ks0 l0 e0
      obtain ⟨a, vs0, rfl, h1, h2⟩ := n1.st.read hx e0
      refine ⟨a, rfl, .inl ⟨_, h1.2⟩, w1, μ1, ρ, rfl, n1.st, rs.mono n1.ext n1.pre, (post.bind q).mono fun k w2 μ2 n2 q2 => ?_⟩
      clear q
      intro vk hk
      refine ⟨w2, μ2, ρ, rfl, n2.st, (rs.mono n1.ext n1.pre).mono n2.ext n2.pre, (post.bind q2).mono fun u w3 μ3 n3 q3 => ?_⟩
      clear q2
      intro vu hu2
      have hx3 := Rep.mono n3.ext n3.pre _ _ (Rep.mono n2.ext n2.pre _ _ hx)
      split at q3
      · rename_i ks l e3
        split at q3
        · rename_i key e4
          obtain ⟨a', vs, ea, h3, h4⟩ := n3.st.read hx3 e3
          cases ea
          exact ⟨_, .inl ⟨_, key, h3.2, keyD_rep e4 hk, rfl⟩, q3 w3 (.refl n3.st) _ (getD_rep h4 hu2)⟩
        · exact q3.elim
      · exact q3.elim
    · rename_i ks0 l0 e0
      obtain ⟨a, vs0, rfl, h1, h2⟩ := n1.st.read hx e0
      refine ⟨a, rfl, .inr ⟨_, h1.2⟩, w1, μ1, ρ, rfl, n1.st, rs.mono n1.ext n1.pre, (post.bind q).mono fun k w2 μ2 n2 q2 => ?_⟩
      clear q
      intro vk hk
      refine ⟨w2, μ2, ρ, rfl, n2.st, (rs.mono n1.ext n1.pre).mono n2.ext n2.pre, (post.bind q2).mono fun u w3 μ3 n3 q3 => ?_⟩
      clear q2
      intro vu hu2
      have hx3 := Rep.mono n3.ext n3.pre _ _ (Rep.mono n2.ext n2.pre _ _ hx)
      have hk3 := Rep.mono n3.ext n3.pre _ _ hk
      split at q3
      · rename_i ks l e3
        split at q3
        · rename_i m0
          split at q3
          · rename_i key e4
            obtain ⟨a', vs, ea, h3, h4⟩ := n3.st.read hx3 e3
            cases ea
            obtain ⟨b, us, rfl, h5, h6⟩ := n3.st.read (c := .tup) (l := m0) hk3 rfl
            have e5 := keysD_rep e4 h6
            subst e5
            exact ⟨_, .inr ⟨_, key, b, h3.2, rfl, h5, rfl⟩, q3 w3 (.refl n3.st) _ (getD_rep h4 hu2)⟩
          · exact q3.elim
        · exact q3.elim
      · exact q3.elim
    · exact q.elim
def eDPop (o y : ME) : ME := fun ρ μ => (o ρ μ).bind fun x μ1 => match view μ1 x with
  | .con (.dK _) _ => (y ρ μ1).bind fun k μ2 => (match x with
    | .ptr i => (match μ2[i]? with
      | some (.lv false (.dK ks) l) => (match keyD k with
        | some key => (match findD ks l key with
          | some d => .ok d (μ2.set i (.lv false (.dK (dropKs ks key)) (dropDs ks l key)))
          | none => .stuck)
        | none => .stuck)
      | _ => .stuck)
    | _ => .stuck)
  | _ => .stuck
theorem pd_dpop {o e : Expr} {mo me : ME} {apos cpos : Pos} (ho : PDE X E o mo) (he : PDE X E e me) (m : M1 X o "pop" apos e cpos) : PDE X E (.Call (.Attribute o "pop" apos) [e] [] cpos) (eDPop mo me) :=
  (pe_dpop1 ho he m).weak fun σ H Q h => by
    obtain ⟨w, μ, ρ, rfl, st, rs, p⟩ := h
    refine ⟨w, μ, ρ, rfl, st, rs, (post.bind p).mono fun x w1 μ1 n1 q => ?_⟩
    clear p
    intro vx hx
    split at q
    · rename_i ks0 l0 e0
      obtain ⟨a, vs0, rfl, h1, h2⟩ := n1.st.read hx e0
      refine ⟨a, rfl, .inl ⟨_, h1.2⟩, w1, μ1, ρ, rfl, n1.st, rs.mono n1.ext n1.pre, (post.bind q).mono fun k w2 μ2 n2 q2 => ?_⟩
      clear q
      intro vk hk
      have hx2 := Rep.mono n2.ext n2.pre _ _ hx
      split at q2
      · rename_i i
        split at q2
        · rename_i ks l e2
          split at q2
          · rename_i key e3
            split at q2
            · rename_i d e4
              obtain ⟨a', us, u, ea, ha, hF, hc, hu, hH, hr⟩ := n2.st.ptr hx2 e2
              cases ea
              obtain ⟨g1, rfl⟩ := hu
              obtain ⟨v, h3, h4⟩ := findD_rep hr e4
              obtain ⟨us2, j1, j2, j3⟩ := dropD_rep (x := key) g1 hr
              refine ⟨_, key, v, hH, keyD_rep e3 hk, h3, ?_⟩
              rw [j1]
              have n := n2.st.put ha hF hH (c := .dK ks) ⟨g1, rfl⟩ (by intro z; cases z) (c' := .dK (dropKs ks key)) ⟨j3, rfl⟩ j2
              exact q2 _ n v (Rep.mono n.ext n.pre _ _ h4)
            · exact q2.elim
          · exact q2.elim
        · exact q2.elim
      · exact q2.elim
    · exact q.elim
end
end MP

namespace MP
open PySem PySem.Spec L2
variable [Tb]
/-! ### isinstance -/
/-- a class: a built-in type or one of the module's -/
inductive Ty where
  | b (n : String)
  | own (C : Str)
def tyD (μ : Mu) (d : D) : Option Ty := match view μ d with
  | .non => some (.b "NoneType")
  | .bl _ => some (.b "bool")
  | .int _ => some (.b "int")
  | .str _ => some (.b "str")
  | .con .tup _ => some (.b "tuple")
  | .con .ctup _ => some (.b "tuple")
  | .con .lst _ => some (.b "list")
  | .con .scr _ => some (.b "list")
  | .con (.dK _) _ => some (.b "dict")
  | .con (.ins C _) _ => some (.own C)
  | _ => none
def isaB (a b : String) : Bool := a == b || (a == "bool" && b == "int")
def tysA : List String := ["NoneType", "bool", "int", "str", "tuple", "list", "dict"]
def tysB : List String := ["bool", "int", "str", "tuple", "list", "dict"]
theorem isaB_ok : ∀ a ∈ tysA, ∀ b ∈ tysB, kitB a b = some (isaB a b) := by decide +kernel
def isaT (cs : List Str) (t c : Ty) : Option Bool := match t, c with
  | .b x, .b y => if (tysA.contains x && tysB.contains y) = true then some (isaB x y) else none
  | .b x, .own C => if (tysA.contains x && decide (C ∈ cs)) = true then some false else none
  | .own C, .b y => if (tysB.contains y && decide (C ∈ cs)) = true then some false else none
  | .own C, .own C' => if (decide (C ∈ cs) && decide (C' ∈ cs)) = true then some (decide (C = C')) else none
structure ClsF (K : PySem.W.Frag) (mg : Str → Option Value) (cs : List Str) : Prop where
  cl : ∀ C ∈ cs, ∃ Ca, mg C = some (.ref Ca) ∧ Cls K Ca ∧ PySem.W.findIn K (.ref Ca) "__class__" = some (some (.builtin "object.__class__")) ∧
    PySem.W.specialIn K (.builtin "object.__class__") "__get__" = some (some (.builtin "getset_descriptor.__get__")) ∧ PySem.W.takesIn K (.builtin "object.__class__") = some true ∧ PySem.W.mroIn K Ca (.type "object") = some true
  bo : ∀ C ∈ cs, ∀ x ∈ tysA, ∀ Ca, mg C = some (.ref Ca) → PySem.W.kitOne K (.type x) (.ref Ca) = some false
  ob : ∀ C ∈ cs, ∀ x ∈ tysB, ∀ Ca, mg C = some (.ref Ca) → PySem.W.kitOne K (.ref Ca) (.type x) = some false
  oo : ∀ C ∈ cs, ∀ C' ∈ cs, ∀ Ca Cb, mg C = some (.ref Ca) → mg C' = some (.ref Cb) → PySem.W.kitOne K (.ref Ca) (.ref Cb) = some (decide (C = C'))
def TyV (mg : Str → Option Value) : Ty → Value → Prop
  | .b x, v => v = .type x
  | .own C, v => ∃ Ca, mg C = some (.ref Ca) ∧ v = .ref Ca
section
variable {X : Cx} {E : XK} {cs : List Str}
theorem isaT_rep (F : ClsF X.K X.mg cs) {t c : Ty} {b : Bool} {vt vc : Value} (e : isaT cs t c = some b) (ht : TyV X.mg t vt) (hc : TyV X.mg c vc) : PySem.W.kitOne X.K vt vc = some b := by
  cases t with
  | b x =>
    have ht' : vt = .type x := ht
    subst ht'
    cases c with
    | b y =>
      have hc' : vc = .type y := hc
      subst hc'
      simp only [isaT] at e
      split at e
      · rename_i h
        cases e
        rw [Bool.and_eq_true, List.contains_iff_mem, List.contains_iff_mem] at h
        exact kit_ty (isaB_ok x h.1 y h.2)
      · cases e
    | own C =>
      obtain ⟨Ca, h1, rfl⟩ := hc
      simp only [isaT] at e
      split at e
      · rename_i h
        cases e
        rw [Bool.and_eq_true, List.contains_iff_mem, decide_eq_true_eq] at h
        exact F.bo C h.2 x h.1 Ca h1
      · cases e
  | own C =>
    obtain ⟨Ca, h1, rfl⟩ := ht
    cases c with
    | b y =>
      have hc' : vc = .type y := hc
      subst hc'
      simp only [isaT] at e
      split at e
      · rename_i h
        cases e
        rw [Bool.and_eq_true, List.contains_iff_mem, decide_eq_true_eq] at h
        exact F.ob C h.2 y h.1 Ca h1
      · cases e
    | own C' =>
      obtain ⟨Cb, h2, rfl⟩ := hc
      simp only [isaT] at e
      split at e
      · rename_i h
        cases e
        rw [Bool.and_eq_true, decide_eq_true_eq, decide_eq_true_eq] at h
        exact F.oo C h.1 C' h.2 Ca Cb h1 h2
      · cases e
def okTy (cs : List Str) : Ty → Bool
  | .b x => tysA.contains x
  | .own C => decide (C ∈ cs)
theorem frz_of {a : Addr} {u : HO} {H : Hp} (h : Rd H a u) : H a = some u ∨ ∃ o, H a = some (.frz o u) := h
theorem tyD_rep (F : ClsF X.K X.mg cs) {w : Ws} {μ : Mu} {d : D} {v : V} {t : Ty} (st : StOk X.K X.mg w μ) (r : Rep X.K X.mg w.F w.α d v) (e : tyD μ d = some t) (ok : okTy cs t = true) : ∃ vt, TyV X.mg t vt ∧ TyX X.K w.H v vt := by
  unfold tyD at e
  split at e
  · rename_i e1
    cases e
    cases view_non e1 r
    exact ⟨_, rfl, .base .non⟩
  · rename_i e1
    cases e
    cases view_bl e1 r
    exact ⟨_, rfl, .base (.bl _)⟩
  · rename_i e1
    cases e
    cases view_int e1 r
    exact ⟨_, rfl, .base (.int _)⟩
  · rename_i e1
    cases e
    cases view_str e1 r
    exact ⟨_, rfl, .base (.str _)⟩
  · rename_i l e1
    cases e
    obtain ⟨a, vs, rfl, h1, h2⟩ := st.read r e1
    exact ⟨_, rfl, .base (.tup h1)⟩
  · rename_i l e1
    cases e
    obtain ⟨a, vs, rfl, h1, h2⟩ := st.read r e1
    refine ⟨_, rfl, ?_⟩
    rcases h1 with (h1 | ⟨o, h1⟩) | ⟨o, its, n, h1, h3, _⟩
    · exact .base (.tup h1)
    · exact .fTuple h1
    · exact .kTuple h1 h3
  · rename_i l e1
    cases e
    obtain ⟨a, vs, rfl, h1, h2⟩ := st.read r e1
    exact ⟨_, rfl, .base (.lst h1)⟩
  · rename_i l e1
    cases e
    obtain ⟨a, vs, rfl, h1, h2⟩ := st.read r e1
    refine ⟨_, rfl, ?_⟩
    rcases h1 with (h1 | ⟨o, h1⟩) | ⟨o, its, n, h1, h3, _⟩
    · exact .base (.lst h1)
    · exact .base (.frz h1)
    · exact .kList h1 h3
  · rename_i ks l e1
    cases e
    obtain ⟨a, vs, rfl, h1, h2⟩ := st.read r e1
    refine ⟨_, rfl, ?_⟩
    rcases h1.2 with h1 | ⟨o, h1⟩
    · exact .base (.dK h1)
    · exact .fDict h1
  · rename_i C fs l e1
    cases e
    obtain ⟨a, vs, rfl, h1, h2⟩ := st.read r e1
    obtain ⟨h3, Ca, dx, h4, h5⟩ := h1
    have hC : C ∈ cs := of_decide_eq_true ok
    obtain ⟨Cb, g1, g2, g3, g4, g5, g6⟩ := F.cl C hC
    rw [h4] at g1
    cases g1
    exact ⟨_, ⟨Ca, h4, rfl⟩, .base (.ins h5 g2 g3 g4 g5 g6)⟩
  · cases e
def isiD (cs : List Str) (c : Ty) (μ : Mu) (x : D) : Option D := match tyD μ x with
  | some t => if okTy cs t = true then (isaT cs t c).map .bl else none
  | none => none
/-- the value of a class's name -/
def tyVal : Ty → Addr → V
  | .b n, _ => .ty n
  | .own _, a => .ref a
theorem isiD_rep (F : ClsF X.K X.mg cs) {w : Ws} {μ : Mu} {x d : D} {c : Ty} {v cv : V} {vc : Value} {Q : VK} (st : StOk X.K X.mg w μ) (r : Rep X.K X.mg w.F w.α x v) (hc : TyV X.mg c vc) (hcv : ClsV cv vc) (e : isiD cs c μ x = some d)
    (k : ∀ w' v, Nx X.K X.mg w w' μ → Rep X.K X.mg w'.F w'.α d v → Q v w'.H) : rIsi X.K [v, cv] w.H Q := by
  unfold isiD at e
  split at e
  · rename_i t e1
    split at e
    · rename_i ok
      obtain ⟨b, e2, rfl⟩ := Option.map_eq_some_iff.mp e
      obtain ⟨vt, h1, h2⟩ := tyD_rep F st r e1 ok
      exact ⟨v, cv, vt, vc, b, rfl, hcv, h2, isaT_rep F e2 h1 hc, k w _ (.refl st) rep_bl⟩
    · cases e
  · cases e
section
variable {e c : Expr} {m : ME} {p pos : Pos}
theorem pd_isi {cv : V} {vc : Value} {t : Ty} (F : ClsF X.K X.mg cs) (hc : PE X c (tC cv)) (ht : TyV X.mg t vc) (hcv : ClsV cv vc) (hg : Gl X "isinstance") (hm : X.mg "isinstance" = none) (he : PDE X E e m)
    (hs : starEach [e, c] X.env = (false, eval e X.env) :: starEach [c] X.env := by rfl) (hs2 : starEach [c] X.env = (false, eval c X.env) :: starEach [] X.env := by rfl) (hpl : (backTo pos (starEach [c] X.env)).any (·.1) = false := by rfl) :
    PDE X E (.Call (.Name "isinstance" p) [e, c] [] pos) (eU1 (isiD cs t) m) :=
  (pe_callB call_isi hg hm PyProof.Rows.boot_isinstance (pa_cons he (pa_cons hc pa_nil hs2) hs) (by decide) (by decide) hs hpl).weak fun σ H Q h => by
    obtain ⟨w, μ, ρ, rfl, st, rs, p⟩ := h
    refine ⟨w, μ, ρ, rfl, st, rs, (post.bind p).mono fun x w1 μ1 n1 q => ?_⟩
    clear p
    intro v hv
    obtain ⟨d, e1, q1⟩ := post.lift q
    exact isiD_rep F n1.st hv ht hcv e1 fun w' v' n r => q1 w' n v' r
/-- the name of a built-in type -/
theorem pe_tyB {x : Str} {n : String} {pos : Pos} (hg : Gl X x) (hm : X.mg x = none) (hv : bootBuiltins x = some (.type n)) (hn : x ≠ "__name__" := by decide) (hd : (x == ("__debug__" : Str)) = false := by decide) : PE X (.Name x pos) (tC (.ty n)) := pe_bltn hg hm hv rfl hn hd
theorem pd_isiB {x : Str} {n : String} {p2 : Pos} (F : ClsF X.K X.mg cs) (hv : bootBuiltins x = some (.type n)) (hgx : Gl X x) (hmx : X.mg x = none) (hg : Gl X "isinstance") (hm : X.mg "isinstance" = none) (he : PDE X E e m)
    (hn : x ≠ "__name__" := by decide) (hd : (x == ("__debug__" : Str)) = false := by decide)
    (hs : starEach [e, .Name x p2] X.env = (false, eval e X.env) :: starEach [.Name x p2] X.env := by rfl) (hs2 : starEach [.Name x p2] X.env = (false, eval (.Name x p2) X.env) :: starEach [] X.env := by rfl) (hpl : (backTo pos (starEach [.Name x p2] X.env)).any (·.1) = false := by rfl) :
    PDE X E (.Call (.Name "isinstance" p) [e, .Name x p2] [] pos) (eU1 (isiD cs (.b n)) m) := pd_isi F (pe_tyB hgx hmx hv hn hd) rfl (.ty n) hg hm he hs hs2 hpl
theorem pd_isiC {x : Str} {Ca : Addr} {p2 : Pos} (F : ClsF X.K X.mg cs) (hgx : Gl X x) (hmx : X.mg x = some (.ref Ca)) (hg : Gl X "isinstance") (hm : X.mg "isinstance" = none) (he : PDE X E e m) (hd : (x == ("__debug__" : Str)) = false := by decide)
    (hs : starEach [e, .Name x p2] X.env = (false, eval e X.env) :: starEach [.Name x p2] X.env := by rfl) (hs2 : starEach [.Name x p2] X.env = (false, eval (.Name x p2) X.env) :: starEach [] X.env := by rfl) (hpl : (backTo pos (starEach [.Name x p2] X.env)).any (·.1) = false := by rfl) :
    PDE X E (.Call (.Name "isinstance" p) [e, .Name x p2] [] pos) (eU1 (isiD cs (.own x)) m) := pd_isi F (pe_glob (v := .ref Ca) hgx hmx rfl hd) ⟨Ca, hmx, rfl⟩ (.own Ca) hg hm he hs hs2 hpl
/-- isinstance(x, (T, U)) -/
def anyTy (cs : List Str) (t : Ty) : List Ty → Option Bool
  | [] => some false
  | c :: r => match isaT cs t c with
    | some true => some true
    | some false => anyTy cs t r
    | none => none
def isiTD (cs : List Str) (l : List Ty) (μ : Mu) (x : D) : Option D := match tyD μ x with
  | some t => if okTy cs t = true then (anyTy cs t l).map .bl else none
  | none => none
theorem anyTy_rep (F : ClsF X.K X.mg cs) {t : Ty} {vt : Value} (ht : TyV X.mg t vt) : ∀ {l : List Ty} {us : List Value} {b : Bool}, Paired (fun c u => TyV X.mg c u) l us → anyTy cs t l = some b → PySem.W.kitAny X.K vt us = some b
  | _, _, _, .nil, e => e
  | _, _, _, .cons h t', e => by
    rename_i x u xs us
    unfold anyTy at e
    unfold PySem.W.kitAny
    split at e
    · rename_i e1
      rw [isaT_rep F e1 ht h]
      exact e
    · rename_i e1
      rw [isaT_rep F e1 ht h]
      exact anyTy_rep F ht t' e
    · cases e
theorem pd_isi2 {x y : Str} {n1 n2 : String} {p2 p3 tpos : Pos} {k : Nat} (F : ClsF X.K X.mg cs) (hvx : bootBuiltins x = some (.type n1)) (hvy : bootBuiltins y = some (.type n2)) (hgx : Gl X x) (hmx : X.mg x = none) (hgy : Gl X y) (hmy : X.mg y = none) (hg : Gl X "isinstance") (hm : X.mg "isinstance" = none) (he : PDE X E e m)
    (hnx : x ≠ "__name__" := by decide) (hdx : (x == ("__debug__" : Str)) = false := by decide) (hny : y ≠ "__name__" := by decide) (hdy : (y == ("__debug__" : Str)) = false := by decide)
    (hs0 : starEach [.Name x p2, .Name y p3] X.env = (false, eval (.Name x p2) X.env) :: starEach [.Name y p3] X.env := by rfl) (hs1 : starEach [.Name y p3] X.env = (false, eval (.Name y p3) X.env) :: starEach [] X.env := by rfl)
    (hs : starEach [e, .Tuple [.Name x p2, .Name y p3] k tpos] X.env = (false, eval e X.env) :: starEach [.Tuple [.Name x p2, .Name y p3] k tpos] X.env := by rfl)
    (hs2 : starEach [.Tuple [.Name x p2, .Name y p3] k tpos] X.env = (false, eval (.Tuple [.Name x p2, .Name y p3] k tpos) X.env) :: starEach [] X.env := by rfl)
    (hpl : (backTo pos (starEach [.Tuple [.Name x p2, .Name y p3] k tpos] X.env)).any (·.1) = false := by rfl) :
    PDE X E (.Call (.Name "isinstance" p) [e, .Tuple [.Name x p2, .Name y p3] k tpos] [] pos) (eU1 (isiTD cs [.b n1, .b n2]) m) :=
  (pe_callB call_isiT hg hm PyProof.Rows.boot_isinstance (pa_cons he (pa_cons (pe_tup (pa_cons (pe_tyB hgx hmx hvx hnx hdx) (pa_cons (pe_tyB hgy hmy hvy hny hdy) pa_nil hs1) hs0)) pa_nil hs2) hs) (by decide) (by decide) hs hpl).weak fun σ H Q h => by
    obtain ⟨w, μ, ρ, rfl, st, rs, p⟩ := h
    refine ⟨w, μ, ρ, rfl, st, rs, (post.bind p).mono fun x w1 μ1 n1' q => ?_⟩
    clear p
    intro v hv
    obtain ⟨d, e1, q1⟩ := post.lift q
    refine ⟨by show 2 ≤ sizeLine; rw [sizeLine_eq]; omega, fun T hT => ?_⟩
    have nj := n1'.st.junk (u := .tup [.ty n1, .ty n2]) hT
    unfold isiTD at e1
    split at e1
    · rename_i t e2
      split at e1
      · rename_i ok
        obtain ⟨b, e3, rfl⟩ := Option.map_eq_some_iff.mp e1
        obtain ⟨vt, h1, h2⟩ := tyD_rep F nj.st (Rep.mono nj.ext nj.pre _ _ hv) e2 ok
        exact ⟨v, T, _, vt, [.type n1, .type n2], b, rfl, upd_same, .cons (.ty n1) (.cons (.ty n2) .nil), h2, anyTy_rep F h1 (.cons (show TyV X.mg (.b n1) (.type n1) from rfl) (.cons (show TyV X.mg (.b n2) (.type n2) from rfl) .nil)) e3, q1 _ nj _ rep_bl⟩
      · cases e1
    · cases e1
end
end
end MP

/-! sorted -/
namespace PySem
open PySem.W PyProof.Rows
section
variable {prog : Program} {w : World} {A : Around} {E : Value → Shared → Prop} {s : Shared} {β : Type}
/-- sorted(v), v told by what it is collected to -/
theorem mp_sorted {v : Value} {bs : List β} {enc : β → PyData} {R : Value → β → Prop} {Q : Value → Shared → Prop} {E1 : Value → Shared → Prop}
    (hcol : wpAny (model prog w) A.in1 (collect v) (fun us' s1 => ∃ h' tk, s1 = { s with heap := h', toks := tk } ∧ (∀ b o, s.heap.get? b = some o → h'.get? b = some o) ∧ EachIs R us' bs ∧ EachIs (fun v b => ∃ as, Reads h' v (enc b) as) us' bs) E1 s)
    (hE : ∀ e s', E1 e s' → False) (hal : AllAlike (bs.map enc)) (hk : Sortable (bs.map enc)) (hL : bs.length ≤ sizeLine) (hu : ∀ b, b ∈ bs → A.units + 2 + (enc b).depth < cLine)
    (h : ∀ (h1 h' : Heap) tk e out, (∀ b o, s.heap.get? b = some o → h1.get? b = some o) → (∀ b o, h1.get? b = some o → h'.get? b = some o) → h'.get? h1.objs.size = some (seqObj "list" (List.toArray out) e) → EachIs R out (bs.mergeSort (dataLe false enc)) → Q (.ref h1.objs.size) { s with heap := h', toks := tk }) :
    wpAny (model prog w) A (call (.builtin "sorted") [v]) Q E s := by
  refine Calls.call_function_entry kind_sorted plain_sorted entry_sorted (args_sorted1 _) ?_
  unfold Builtin.«sorted»
  refine wpAny_bind (m := checkCount "sorted" 1 1 _) (wpAny_pure ?_)
  refine wpAny_bind (wpAny_mono hcol (fun us' s1 h1 => ?_) fun e s' z => (hE e s' z).elim)
  obtain ⟨h', tk, rfl, kp, er, rd⟩ := h1
  have hLu : us'.length ≤ sizeLine := by rw [er.length]; exact hL
  refine wpAny_bind (wpAny_newList ?_ hLu)
  have hoL : (h'.push (seqObj "list" us'.toArray 0)).get? h'.objs.size = some (seqObj "list" us'.toArray 0) := Heap.get?_push_size _ rfl
  show wpAny _ _ _ _ _ { s with heap := h'.push (seqObj "list" us'.toArray 0), toks := tk }
  have kp2 : ∀ b o, h'.get? b = some o → (sortingHeap (h'.push (seqObj "list" us'.toArray 0)) h'.objs.size us').get? b = some o := fun b o e => by
    have hb : b ≠ h'.objs.size := Nat.ne_of_lt (Heap.lt_size e)
    exact sortingHeap_old hb (Heap.get?_push_of_some _ e)
  have rd' : EachIs (fun v b => ∃ as, Reads (sortingHeap (h'.push (seqObj "list" us'.toArray 0)) h'.objs.size us') v (enc b) as) us' bs := rd.mono fun _ _ ⟨as, r⟩ => ⟨as, PyProof.Rows.Reads.keeps kp2 r⟩
  have S := SortsAt.data (prog := prog) (w := w) (A := A.in1.in1) (s := { s with heap := sortingHeap (h'.push (seqObj "list" us'.toArray 0)) h'.objs.size us', toks := tk }) (each_map (R := fun v d => ∃ as, Reads (sortingHeap (h'.push (seqObj "list" us'.toArray 0)) h'.objs.size us') v d as) enc rd') hal hk (bound_map hu)
  refine wpAny_bind (wpAny_holding (wpAny_call_entry slot_list_sort ⟨_, hoL, rfl⟩ entry_list_sort
    (list_sort_vals (s := { s with heap := h'.push (seqObj "list" us'.toArray 0), toks := tk }) hoL S hLu ⟨_, rfl, ?_⟩) (args_list_sort _)))
  obtain ⟨e', he'⟩ := PyProof.Rows.sortedHeap_at (vs := us') (out := (sortVals (dataKind (sortingHeap (h'.push (seqObj "list" us'.toArray 0)) h'.objs.size us') (bs.map enc)) false us' us').toArray) hoL
  refine wpAny_pure ⟨_, rfl, h h' _ tk e' _ kp (fun b o hb => ?_) he' (sortVals_data false er rd' hal)⟩
  have hlt : b < h'.objs.size := Heap.lt_size hb
  rw [PyProof.Rows.sortedHeap_old (Nat.ne_of_lt hlt) (by rw [size_push']; exact Nat.lt_succ_of_lt hlt)]
  exact Heap.get?_push_of_some _ hb
theorem mp_collect_seq {l : Addr} {T : String} {o : Obj} {vs : List Value} {n : Nat} {Q : List Value → Shared → Prop} (hT : T = "list" ∨ T = "tuple") (ho : s.heap.get? l = some o) (hc : o.cls = .type T) (hd : o.data = .seq vs.toArray n)
    (h : Q vs { s with heap := (s.heap.push (seqObj "list" #[] 0)).update s.heap.objs.size (Obj.mapSeq (· ++ vs.toArray)) }) (hsz : vs.length ≤ sizeLine) : wpAny (model prog w) A (collect (.ref l)) Q E s := by
  unfold collect
  refine wpAny_bind (wpAny_runValue (codeAny_builtin PyProof.Rows.entry_proto_collect' ?_))
  show wpAny _ _ (do again (.builtin "list.__iadd__" ⟨[← newList [], .ref l], []⟩)) _ _ s
  refine wpAny_bind (wpAny_newList (wpAny_pure ⟨Code.quiet_builtin _ (by decide +kernel), codeAny_builtin PyProof.Rows.entry_list_iadd' ?_⟩))
  show wpAny _ _ (Builtin.List.listExtendWith (.ref s.heap.objs.size) (.ref l) (.ref s.heap.objs.size)) _ _ { s with heap := s.heap.push (seqObj "list" #[] 0) }
  unfold Builtin.List.listExtendWith
  have ho' : (s.heap.push (seqObj "list" #[] 0)).get? l = some o := Heap.get?_push_of_some _ ho
  refine wpAny_bind (wpAny_typeOf (T := T) ⟨o, ho', hc⟩ ?_)
  rw [if_pos (by rcases hT with rfl | rfl <;> simp)]
  refine wpAny_bind (PyProof.Rows.listItems_at ho' hd ?_)
  refine wpAny_bind (PyProof.Rows.listItems_at (xs := #[]) (n := 0) (Heap.get?_push_size _ rfl) rfl ?_)
  rw [if_neg (by simp)]
  refine wpAny_bind (PyProof.Rows.listUpdate_at (xs := #[]) (n := 0) (Heap.get?_push_size _ rfl) rfl ?_ (Nat.zero_le _) (by show (#[] ++ vs.toArray).size ≤ sizeLine + 1; simp only [Array.size_append, List.size_toArray, List.length_nil]; omega))
  refine wpAny_pure ?_
  show wpAny (model prog w) A (do
      let o ← load s.heap.objs.size
      match o.data with
      | .seq xs _ => pure xs.toList
      | _ => unsupported "internal:collect") Q E { s with heap := (s.heap.push (seqObj "list" #[] 0)).update s.heap.objs.size (Obj.mapSeq (· ++ vs.toArray)) }
  refine wpAny_bind (wpAny_load (PyProof.Rows.get?_update_seq (Heap.get?_push_size _ rfl) _) ?_)
  show wpAny _ _ (pure ((#[] : Array Value) ++ vs.toArray).toList) Q E _
  rw [show ((#[] : Array Value) ++ vs.toArray).toList = vs by simp]
  exact wpAny_pure h
theorem mp_collect_keep {h : Heap} {vs : List Value} : ∀ b o, h.get? b = some o → ((h.push (seqObj "list" #[] 0)).update h.objs.size (Obj.mapSeq (· ++ vs.toArray))).get? b = some o := fun b o e => by
  have hlt : b < h.objs.size := Heap.lt_size e
  rw [Heap.get?_update_ne _ _ _ _ (Nat.ne_of_lt hlt)]
  exact Heap.get?_push_of_some _ e
end
end PySem
namespace MP
open PySem PySem.Spec L2
variable [Tb]
open PySem.W (dataLe AllAlike Sortable)
/-! ### sorted of data -/
def pyCond (ps : List PyData) : Prop := AllAlike ps ∧ Sortable ps ∧ ps.length ≤ sizeLine ∧ ∀ p ∈ ps, p.depth ≤ 8
open Classical in
noncomputable def sortL (l : List D) : Option (List D) := match toPyL l with
  | some ps => if pyCond ps then some (((l.zip ps).mergeSort (dataLe false (·.2))).map (·.1)) else none
  | none => none
def seqL (μ : Mu) (d : D) : Option (List D) := match view μ d with
  | .con .lst l => some l
  | .con .tup l => some l
  | .con (.dK ks) _ => some (ks.map dKey)
  | _ => none
noncomputable def sortsD (μ : Mu) (l : List D) : Option (List D) := match l with
  | [d] => (seqL μ d).bind sortL
  | _ => none
noncomputable def sortedD (μ : Mu) (l : List D) : Option D := (sortsD μ l).map .lst
section
variable {X : Cx}
/-- the values and what they stand for, in a row -/
theorem sorts_rep {K : PySem.W.Frag} {mg : Str → Option Value} {F : Hp} {α : List Addr} : ∀ {l : List D} {ps : List PyData} {vs : List V}, l.length = ps.length → RepL K mg F α l vs → ∃ ts : List ((V × PyData) × D), ts.map (·.1) = vs.zip ps ∧ ts.map (fun t => (t.2, t.1.2)) = l.zip ps ∧ ∀ t ∈ ts, Rep K mg F α t.2 t.1.1
  | [], [], vs, _, r => by
    simp only [RepL] at r
    subst r
    exact ⟨[], rfl, rfl, by simp⟩
  | d :: l, p :: ps, vs, hl, r => by
    simp only [RepL] at r
    obtain ⟨v, r', rfl, h1, h2⟩ := r
    obtain ⟨ts, e1, e2, e3⟩ := sorts_rep (ps := ps) (by simpa using hl) h2
    refine ⟨((v, p), d) :: ts, by simp [e1], by simp [e2], fun t ht => ?_⟩
    rcases List.mem_cons.mp ht with rfl | ht
    · exact h1
    · exact e3 t ht
  | [], _ :: _, _, hl, _ => by cases hl
  | _ :: _, [], _, hl, _ => by cases hl
theorem repl_of_ts {K : PySem.W.Frag} {mg : Str → Option Value} {F : Hp} {α : List Addr} : ∀ {ts : List ((V × PyData) × D)}, (∀ t ∈ ts, Rep K mg F α t.2 t.1.1) → RepL K mg F α (ts.map (·.2)) (ts.map (·.1.1))
  | [], _ => .nil
  | t :: ts, h => .cons (h t (by simp)) (repl_of_ts fun t ht => h t (by simp [ht]))
theorem sort_both {K : PySem.W.Frag} {mg : Str → Option Value} {F : Hp} {α : List Addr} {l : List D} {ps : List PyData} {vs : List V} (hl : l.length = ps.length) (r : RepL K mg F α l vs) :
    RepL K mg F α (((l.zip ps).mergeSort (dataLe false (·.2))).map (·.1)) (((vs.zip ps).mergeSort (dataLe false (·.2))).map (·.1)) := by
  obtain ⟨ts, e1, e2, e3⟩ := sorts_rep hl r
  rw [← e1, ← e2]
  have m1 := List.map_mergeSort (r := dataLe false fun t : (V × PyData) × D => t.1.2) (s := dataLe false (·.2)) (f := (·.1)) (l := ts) (fun a _ b _ => rfl)
  have m2 := List.map_mergeSort (r := dataLe false fun t : (V × PyData) × D => t.1.2) (s := dataLe false fun p : D × PyData => p.2) (f := fun t => (t.2, t.1.2)) (l := ts) (fun a _ b _ => rfl)
  rw [← m1, ← m2, List.map_map, List.map_map]
  exact repl_of_ts fun t ht => e3 t ((List.mergeSort_perm ts _).mem_iff.mp ht)
theorem toPyL_len : ∀ {l : List D} {ps : List PyData}, toPyL l = some ps → l.length = ps.length
  | [], _, h => by
    simp only [toPyL, Option.some.injEq] at h
    subst h
    rfl
  | d :: l, ps, h => by
    simp only [toPyL] at h
    split at h
    · rename_i p q e1 e2
      cases h
      simp [toPyL_len e2]
    · cases h
/-- the list is collected as values -/
def rSortG (X : Cx) : List V → Hp → VK → Prop := fun xs H Q => ∃ (a : Addr) (vs : List V) (ps : List PyData), xs = [V.ref a] ∧ (SqL X.K H a vs ∨ SqT X.K H a vs ∨ ∃ kvs, Rd H a (.dK kvs) ∧ vs = kvs.map fun kv => kV kv.1) ∧ DpAll X.K H vs ps ∧ pyCond ps ∧
  ∀ p, H p = none → Q (.ref p) (upd H p (.lst (((vs.zip ps).mergeSort (dataLe false (·.2))).map (·.1))))
theorem dpAll_len {K : PySem.W.Frag} {H : Hp} : ∀ {vs : List V} {ps : List PyData}, DpAll K H vs ps → vs.length = ps.length
  | _, _, .nil => rfl
  | _, _, .cons _ t => by simp [dpAll_len t]
theorem each_zip : ∀ {vs : List V} {us : List Value} {ps : List PyData}, Vals vs us → vs.length = ps.length → PySem.W.EachIs (fun v (b : V × PyData) => RelV b.1 v) us (vs.zip ps)
  | _, _, [], .nil, _ => .nil
  | _, _, p :: ps, .cons r t, h => .cons r (each_zip t (by simpa using h))
  | _, _, _ :: _, .nil, h => by cases h
  | _, _, [], .cons _ _, h => by cases h
theorem each_vals : ∀ {out : List Value} {bs : List (V × PyData)}, PySem.W.EachIs (fun v (b : V × PyData) => RelV b.1 v) out bs → Vals (bs.map (·.1)) out
  | _, _, .nil => .nil
  | _, _, .cons h t => .cons h (each_vals t)
theorem zip_snd : ∀ {vs : List V} {ps : List PyData}, vs.length = ps.length → (vs.zip ps).map (·.2) = ps
  | [], [], _ => rfl
  | [], _ :: _, h => by cases h
  | _ :: _, [], h => by cases h
  | v :: vs, p :: ps, h => by simp [zip_snd (vs := vs) (ps := ps) (by simpa using h)]
theorem call_sortG (hcalm : X.calm = true) (hu : X.A.units + 12 < cLine) : CallR X (.builtin "sorted") (rSortG X) := by
  intro pins s σ H xs us Q I r h
  obtain ⟨a, vs, ps, rfl, hv, hp, ⟨c1, c2, c3, c4⟩, q⟩ := h
  obtain ⟨u, rfl, ru⟩ := vals1 r
  cases ru
  have hl := dpAll_len hp
  have es : (vs.zip ps).map (·.2) = ps := zip_snd hl
  have fin : wpAny (model X.prog X.w) X.A.in1 (collect (.ref a)) (fun us' s1 => Vals vs us' ∧ ∃ h' tk, s1 = { s with heap := h', toks := tk } ∧ (∀ b o, s.heap.get? b = some o → h'.get? b = some o)) (fun _ _ => False) s →
      wpAny (model X.prog X.w) X.A (call (.builtin "sorted") [.ref a]) (EP X pins σ Q) X.xe s := fun hc => by
    refine PySem.mp_sorted (bs := vs.zip ps) (enc := (·.2)) (R := fun v b => RelV b.1 v) (E1 := fun _ _ => False) (wpAny_mono hc (fun us' s1 ⟨rv, h', tk, e2, kp⟩ => ⟨h', tk, e2, kp, each_zip rv hl, ?_⟩) fun _ _ z => z) (fun _ _ z => z) (by rw [es]; exact c1) (by rw [es]; exact c2)
      (by rw [List.length_zip, hl, Nat.min_self]; exact c3) (fun b hb => ?_) fun h1 h' tk e out k1 k2 hat ho => ?_
    · obtain ⟨as, rd⟩ := Dp.readsAll I ps vs us' hp rv
      have rd0 : ReadsAll s.heap us' ((vs.zip ps).map (·.2)) as := by
        rw [es]
        exact rd
      exact (PySem.W.readsAll_each (·.2) rd0).mono fun _ _ ⟨as, r⟩ => ⟨as, PyProof.Rows.Reads.keeps kp r⟩
    · have : b.2 ∈ ps := by
        rw [← es]
        exact List.mem_map.mpr ⟨b, hb, rfl⟩
      have := c4 _ this
      omega
    · have I1 : L2.Inv X pins σ H { s with heap := h1, toks := tk } := I.kept k1
      have hlen : (((vs.zip ps).mergeSort (dataLe false (·.2))).map (·.1)).length ≤ sizeLine := by
        rw [List.length_map, List.length_mergeSort, List.length_zip, hl, Nat.min_self]
        exact c3
      exact ⟨.ref _, _, I1.laid (t' := tk) k2 (Nat.le_refl _) (show ObjOk X.prog X.w _ h' _ (.lst _) from ⟨hlen, out, e, each_vals ho, hat⟩), rfl, q _ (I1.hok.fresh (Nat.le_refl _))⟩
  rcases hv with hv | hv | ⟨kvs, hv, ek⟩
  · obtain ⟨its, rv, pl, hz⟩ := I.list hv
    obtain ⟨o, ho, hc, n, hd⟩ := pl.isList
    exact fin (PySem.mp_collect_seq (.inl rfl) ho hc hd ⟨rv, _, _, rfl, PySem.mp_collect_keep⟩ (by rw [← rv.length]; exact hz))
  · obtain ⟨its, rv, pl, hz⟩ := I.tuple hv
    obtain ⟨o, ho, hc, n, hd⟩ := pl
    exact fin (PySem.mp_collect_seq (.inr rfl) ho hc hd ⟨rv, _, _, rfl, PySem.mp_collect_keep⟩ (by rw [← rv.length]; exact hz))
  · obtain ⟨z, lo, kv, rel, dd⟩ := dk_rd I.hok hv
    obtain ⟨ep, hat⟩ := dd.dictAt
    have ek2 : vs = kv.map fun p => kV p.1 := by
      have e := congrArg (List.map kV) rel.keys
      rw [List.map_map, List.map_map] at e
      rw [ek]
      exact e
    refine fin (PySem.W.kdu_collect (A := X.A.in1) (PySem.W.kdl_dict (knd := mixKind X.prog X.w) (kvs := kv) (ep := ep) lo) (I.ok.hd hcalm) hat (by rw [← rel.length]; exact z) fun h' tk acc hk hacc => ⟨?_, h', tk, rfl, hk⟩)
    rw [ek2]
    refine keys_at (by rw [Array.length_toList]; exact hacc.1) fun j v e => ?_
    exact hacc.2 j v (by rw [← Array.getElem?_toList]; exact e)
theorem seqL_rep {w : Ws} {μ : Mu} {l m : List D} {vs : List V} {Q : VK} (st : StOk X.K X.mg w μ) (hl : RepL X.K X.mg w.F w.α l vs) (e : sortsD μ l = some m) (k : ∀ p us, w.H p = none → RepL X.K X.mg w.F w.α m us → Q (.ref p) (upd w.H p (.lst us))) : rSortG X vs w.H Q := by
  unfold sortsD at e
  split at e
  · rename_i d
    obtain ⟨n, e1, e2⟩ := Option.bind_eq_some_iff.mp e
    obtain ⟨v, rfl, hv⟩ := repl_1 hl
    unfold sortL at e2
    split at e2
    · rename_i ps e3
      split at e2
      · rename_i hc
        cases e2
        have hlen := toPyL_len e3
        unfold seqL at e1
        split at e1
        · rename_i l0 e4
          cases e1
          obtain ⟨a, us, rfl, h1, h2⟩ := st.read hv e4
          exact ⟨a, us, ps, rfl, .inl (SqL.of h1), toPyL_rep st.sub _ _ _ h2 e3, hc, fun p hp => k p _ hp (sort_both hlen h2)⟩
        · rename_i l0 e4
          cases e1
          obtain ⟨a, us, rfl, h1, h2⟩ := st.read hv e4
          exact ⟨a, us, ps, rfl, .inr (.inl (SqT.of h1)), toPyL_rep st.sub _ _ _ h2 e3, hc, fun p hp => k p _ hp (sort_both hlen h2)⟩
        · rename_i ks l0 e4
          cases e1
          obtain ⟨a, us, rfl, h1, h2⟩ := st.read hv e4
          have rk := repl_keys (K := X.K) (mg := X.mg) (F := w.F) (α := w.α) ks us h1.1
          exact ⟨a, _, ps, rfl, .inr (.inr ⟨_, h1.2, rfl⟩), toPyL_rep st.sub _ _ _ rk e3, hc, fun p hp => k p _ hp (sort_both hlen rk)⟩
        · cases e1
      · cases e2
    · cases e2
  · cases e
theorem cn_sorted : CN X (rSortG X) sortedD := by
  intro w μ l d vs Q st hl e k
  obtain ⟨m, e1, rfl⟩ := Option.map_eq_some_iff.mp e
  exact seqL_rep st hl e1 fun p us hp r => k _ _ (st.new hp) (Rep.new (st.freshF hp) rfl r)
end
end MP

/-! min of a row of data; len(set(..)) -/
namespace PySem
open PyProof.Rows
mutual
theorem mp_reads1 {h : Heap} : ∀ {v : Value} {p : PyData} {as : List Addr}, Reads h v p as → ∀ {p' : PyData} {as' : List Addr}, Reads h v p' as' → p = p'
  | _, _, _, .none, _, _, .none => rfl
  | _, _, _, .bool _, _, _, .bool _ => rfl
  | _, _, _, .int _ _, _, _, .int _ _ => rfl
  | _, _, _, .str _ _, _, _, .str _ _ => rfl
  | _, _, _, .list e1 e2 e3 r, _, _, .list f1 f2 f3 q => by
    rw [e1] at f1
    cases f1
    rw [e3] at f3
    cases f3
    rw [mp_reads2 r q]
  | _, _, _, .list e1 e2 e3 r, _, _, .tuple f1 f2 f3 q => by
    rw [e1] at f1
    cases f1
    rw [e2] at f2
    injection f2 with z
    exact absurd z (by decide)
  | _, _, _, .list e1 e2 e3 r, _, _, .dict f1 f2 f3 q q2 => by
    rw [e1] at f1
    cases f1
    rw [e2] at f2
    injection f2 with z
    exact absurd z (by decide)
  | _, _, _, .tuple e1 e2 e3 r, _, _, .list f1 f2 f3 q => by
    rw [e1] at f1
    cases f1
    rw [e2] at f2
    injection f2 with z
    exact absurd z (by decide)
  | _, _, _, .tuple e1 e2 e3 r, _, _, .tuple f1 f2 f3 q => by
    rw [e1] at f1
    cases f1
    rw [e3] at f3
    cases f3
    rw [mp_reads2 r q]
  | _, _, _, .tuple e1 e2 e3 r, _, _, .dict f1 f2 f3 q q2 => by
    rw [e1] at f1
    cases f1
    rw [e2] at f2
    injection f2 with z
    exact absurd z (by decide)
  | _, _, _, .dict e1 e2 e3 r r2, _, _, .list f1 f2 f3 q => by
    rw [e1] at f1
    cases f1
    rw [e2] at f2
    injection f2 with z
    exact absurd z (by decide)
  | _, _, _, .dict e1 e2 e3 r r2, _, _, .tuple f1 f2 f3 q => by
    rw [e1] at f1
    cases f1
    rw [e2] at f2
    injection f2 with z
    exact absurd z (by decide)
  | _, _, _, .dict (kvs := kvs) e1 e2 e3 r r2, _, _, .dict (kvs := kvs') f1 f2 f3 q q2 => by
    rw [e1] at f1
    cases f1
    rw [e3] at f3
    cases f3
    have a1 := mp_reads2 r q
    have a2 := mp_reads2 r2 q2
    have z : ∀ {l m : List (PyData × PyData)}, l.map (·.1) = m.map (·.1) → l.map (·.2) = m.map (·.2) → l = m := by
      intro l
      induction l with
      | nil =>
        intro m h1 _
        cases m with
        | nil => rfl
        | cons _ _ => cases h1
      | cons x l ih =>
        intro m h1 h2
        cases m with
        | nil => cases h1
        | cons y m =>
          simp only [List.map_cons, List.cons.injEq] at h1 h2
          rw [ih h1.2 h2.2, Prod.ext h1.1 h2.1]
    rw [z a1 a2]
theorem mp_reads2 {h : Heap} : ∀ {vs : List Value} {ps : List PyData} {as : List Addr}, ReadsAll h vs ps as → ∀ {ps' : List PyData} {as' : List Addr}, ReadsAll h vs ps' as' → ps = ps'
  | _, _, _, .nil, _, _, .nil => rfl
  | _, _, _, .cons r t, _, _, .cons q u => by rw [mp_reads1 r q, mp_reads2 t u]
end
theorem mp_readsAt {h : Heap} : ∀ {vs : List Value} {ps : List PyData} {as : List Addr}, ReadsAll h vs ps as → ∀ {i : Nat} {v : Value}, vs[i]? = some v → ∃ p bs, ps[i]? = some p ∧ Reads h v p bs
  | _, _, _, .nil, _, _, e => by simp at e
  | _, _, _, .cons r t, 0, _, e => by
    simp only [List.getElem?_cons_zero, Option.some.injEq] at e
    subst e
    exact ⟨_, _, rfl, r⟩
  | _, _, _, .cons r t, i + 1, _, e => by
    simp only [List.getElem?_cons_succ] at e ⊢
    exact mp_readsAt t e
end PySem
namespace MP
open PySem PySem.Spec L2
open PySem.W (AlikeAll minD)
variable [Tb]
mutual
theorem toPy_inj : ∀ (d d' : D) (p : PyData), toPy d = some p → toPy d' = some p → d = d'
  | .non, d', p, h, h' => by
    simp only [toPy, Option.some.injEq] at h
    subst h
    cases d' with
    | con c l => cases c <;> simp [toPy] at h'
    | _ => first | rfl | simp [toPy] at h'
  | .bl b, d', p, h, h' => by
    simp only [toPy, Option.some.injEq] at h
    subst h
    cases d' with
    | con c l => cases c <;> simp [toPy] at h'
    | bl b' => simp [toPy] at h'; rw [h']
    | _ => simp [toPy] at h'
  | .int i, d', p, h, h' => by
    simp only [toPy, Option.some.injEq] at h
    subst h
    cases d' with
    | con c l => cases c <;> simp [toPy] at h'
    | int b' => simp [toPy] at h'; rw [h']
    | _ => simp [toPy] at h'
  | .str i, d', p, h, h' => by
    simp only [toPy, Option.some.injEq] at h
    subst h
    cases d' with
    | con c l => cases c <;> simp [toPy] at h'
    | str b' => simp [toPy] at h'; rw [h']
    | _ => simp [toPy] at h'
  | .con .tup l, d', p, h, h' => by
    simp only [toPy, Option.map_eq_some_iff] at h
    obtain ⟨ps, h1, rfl⟩ := h
    cases d' with
    | con c m =>
      cases c with
      | tup =>
        simp only [toPy, Option.map_eq_some_iff, PyData.tuple.injEq] at h'
        obtain ⟨qs, h2, rfl⟩ := h'
        rw [toPyL_inj l m qs h1 h2]
      | _ => simp [toPy] at h'
    | _ => simp [toPy] at h'
  | .con .lst l, d', p, h, h' => by
    simp only [toPy, Option.map_eq_some_iff] at h
    obtain ⟨ps, h1, rfl⟩ := h
    cases d' with
    | con c m =>
      cases c with
      | lst =>
        simp only [toPy, Option.map_eq_some_iff, PyData.list.injEq] at h'
        obtain ⟨qs, h2, rfl⟩ := h'
        rw [toPyL_inj l m qs h1 h2]
      | _ => simp [toPy] at h'
    | _ => simp [toPy] at h'
  | .con .scr l, d', p, h, h' => by simp [toPy] at h
  | .con .ctup l, d', p, h, h' => by simp [toPy] at h
  | .con (.dK _) l, d', p, h, h' => by simp [toPy] at h
  | .con (.dT _) l, d', p, h, h' => by simp [toPy] at h
  | .con (.ins _ _) l, d', p, h, h' => by simp [toPy] at h
  | .fn _, d', p, h, h' => by simp [toPy] at h
  | .ptr _, d', p, h, h' => by simp [toPy] at h
theorem toPyL_inj : ∀ (l m : List D) (ps : List PyData), toPyL l = some ps → toPyL m = some ps → l = m
  | [], m, ps, h, h' => by
    simp only [toPyL, Option.some.injEq] at h
    subst h
    cases m with
    | nil => rfl
    | cons d m =>
      simp only [toPyL] at h'
      split at h' <;> cases h'
  | d :: l, m, ps, h, h' => by
    simp only [toPyL] at h
    split at h
    · rename_i p q e1 e2
      cases h
      cases m with
      | nil => simp [toPyL] at h'
      | cons d' m =>
        simp only [toPyL] at h'
        split at h'
        · rename_i p' q' e3 e4
          cases h'
          rw [toPy_inj d d' _ e1 e3, toPyL_inj l m _ e2 e4]
        · cases h'
    · cases h
end
theorem toPyL_at : ∀ {l : List D} {ps : List PyData}, toPyL l = some ps → ∀ {i : Nat} {p : PyData}, ps[i]? = some p → ∃ d, l[i]? = some d ∧ toPy d = some p
  | [], ps, h, i, p, e => by
    simp only [toPyL, Option.some.injEq] at h
    subst h
    simp at e
  | d :: l, ps, h, i, p, e => by
    simp only [toPyL] at h
    split at h
    · rename_i p' q e1 e2
      cases h
      cases i with
      | zero =>
        simp only [List.getElem?_cons_zero, Option.some.injEq] at e
        subst e
        exact ⟨d, rfl, e1⟩
      | succ i =>
        simp only [List.getElem?_cons_succ] at e ⊢
        exact toPyL_at e2 e
    · cases h
theorem toPyL_zip : ∀ {l : List D} {ps : List PyData}, toPyL l = some ps → ∀ z ∈ l.zip ps, toPy z.1 = some z.2
  | [], ps, h, z, hz => by simp at hz
  | d :: l, ps, h, z, hz => by
    simp only [toPyL] at h
    split at h
    · rename_i p q e1 e2
      cases h
      rcases List.mem_cons.mp hz with rfl | hz
      · exact e1
      · exact toPyL_zip e2 z hz
    · cases h
theorem vals_at : ∀ {vs : List V} {us : List Value}, Vals vs us → ∀ {i : Nat} {u : Value}, us[i]? = some u → ∃ v, vs[i]? = some v ∧ RelV v u
  | _, _, .nil, i, u, e => by simp at e
  | _, _, .cons r t, 0, u, e => by
    simp only [List.getElem?_cons_zero, Option.some.injEq] at e
    subst e
    exact ⟨_, rfl, r⟩
  | _, _, .cons r t, i + 1, u, e => by
    simp only [List.getElem?_cons_succ] at e ⊢
    exact vals_at t e
def minStep (b c : D × PyData) : D × PyData := if PySem.W.dataLt c.2 b.2 then c else b
def minCond (ps : List PyData) : Prop := AlikeAll ps ∧ PyData.depthAll ps ≤ 8
open Classical in
noncomputable def minL (l : List D) : Option D := match l, toPyL l with
  | d :: ds, some (p :: ps) => if minCond (p :: ps) then some ((ds.zip ps).foldl minStep (d, p)).1 else none
  | _, _ => none
theorem minStep_mem : ∀ (l : List (D × PyData)) (b : D × PyData), l.foldl minStep b ∈ b :: l
  | [], b => by simp
  | c :: l, b => by
    have h := minStep_mem l (minStep b c)
    rw [List.foldl_cons]
    rcases List.mem_cons.mp h with h | h
    · rw [h]
      unfold minStep
      split <;> simp
    · exact List.mem_cons_of_mem _ (List.mem_cons_of_mem _ h)
theorem minStep_snd : ∀ (ds : List D) (ps : List PyData) (b : D × PyData), ds.length = ps.length → ((ds.zip ps).foldl minStep b).2 = minD b.2 ps
  | [], [], b, _ => rfl
  | d :: ds, p :: ps, b, h => by
    have ih := minStep_snd ds ps (minStep b (d, p)) (by simpa using h)
    rw [List.zip_cons_cons, List.foldl_cons, ih]
    unfold minD
    rw [List.foldl_cons]
    unfold minStep
    split <;> simp_all
  | [], _ :: _, _, h => by cases h
  | _ :: _, [], _, h => by cases h
section
variable {X : Cx}
def rMin1 (X : Cx) : List V → Hp → VK → Prop := fun xs H Q => ∃ (a : Addr) (vs : List V) (p : PyData) (ps : List PyData), xs = [V.ref a] ∧ (SqL X.K H a vs ∨ SqT X.K H a vs) ∧ DpAll X.K H vs (p :: ps) ∧ minCond (p :: ps) ∧
  ∀ (i : Nat) (v : V), vs[i]? = some v → (p :: ps)[i]? = some (minD p ps) → Q v H
theorem call_min1 (hc : X.calm = true) (hu : X.A.units + 12 < cLine) : CallR X (.builtin "min") (rMin1 X) := by
  intro pins s σ H xs us Q I r h
  obtain ⟨a, vs, p, ps, rfl, hv, hp, ⟨c1, c2⟩, q⟩ := h
  obtain ⟨u, rfl, ru⟩ := vals1 r
  cases ru
  have fin : ∀ {us : List Value} {as : List Addr} (i : Nat) (v : Value) (h' : Heap) (tk : Nat) (bs : List Addr), Vals vs us → ReadsAll s.heap us (p :: ps) as → us[i]? = some v → Reads h' v (minD p ps) bs → (∀ b o, s.heap.get? b = some o → h'.get? b = some o) → EP X pins σ Q v { s with heap := h', toks := tk } :=
    fun {us as} i v h' tk bs rv rd hi r2 kp => by
      obtain ⟨p', bs', e1, r3⟩ := PySem.mp_readsAt rd hi
      have e2 := PySem.mp_reads1 (PyProof.Rows.Reads.keeps kp r3) r2
      subst e2
      obtain ⟨y, hy, ry⟩ := vals_at rv hi
      exact ⟨y, H, I.kept kp, ry, q i y hy e1⟩
  rcases hv with hv | hv
  · obtain ⟨its, rv, pl, hz⟩ := I.list hv
    obtain ⟨as, rd⟩ := Dp.readsAll I _ vs its hp rv
    exact PySem.W.min_list_data (vs := its.toArray) (I.ok.hd hc) pl.isList (by simpa using rd) c1 (by omega) fun i v h' tk bs hi r2 kp => fin i v h' tk bs rv rd (by simpa using hi) r2 kp
  · obtain ⟨its, rv, pl, hz⟩ := I.tuple hv
    obtain ⟨as, rd⟩ := Dp.readsAll I _ vs its hp rv
    exact PySem.W.min_tuple_data (vs := its.toArray) (I.ok.hd hc) (show s.heap.IsTuple a its.toArray from pl) (by simpa using rd) c1 (by omega) fun i v h' tk bs hi r2 kp => fin i v h' tk bs rv rd (by simpa using hi) r2 kp
def mseqL (μ : Mu) (d : D) : Option (List D) := match view μ d with
  | .con .lst l => some l
  | .con .tup l => some l
  | _ => none
noncomputable def min1 (μ : Mu) (l : List D) : Option D := match l with
  | [d] => (mseqL μ d).bind minL
  | _ => none
theorem cn_min1 : CN X (rMin1 X) min1 := by
  intro w μ l d vs Q st hl e k
  unfold min1 at e
  split at e
  · rename_i d0
    obtain ⟨n, e1, e2⟩ := Option.bind_eq_some_iff.mp e
    obtain ⟨v, rfl, hv⟩ := repl_1 hl
    unfold minL at e2
    split at e2
    · rename_i d1 ds p ps e3
      split at e2
      · rename_i hc
        cases e2
        have key : ∀ {us : List V}, RepL X.K X.mg w.F w.α (d1 :: ds) us → ∀ (i : Nat) (v : V), us[i]? = some v → (p :: ps)[i]? = some (minD p ps) → Q v w.H := fun {us} h2 i v hi hp => by
          obtain ⟨d2, f1, f2⟩ := toPyL_at e3 hp
          have hlen := toPyL_len e3
          have hm := minStep_mem (ds.zip ps) (d1, p)
          have hm2 : (ds.zip ps).foldl minStep (d1, p) ∈ (d1 :: ds).zip (p :: ps) := by
            rw [List.zip_cons_cons]
            exact hm
          have g := toPyL_zip e3 _ hm2
          rw [minStep_snd ds ps (d1, p) (by simpa using hlen)] at g
          have ed := toPy_inj _ _ _ f2 g
          obtain ⟨v2, h5, h6⟩ := h2.get f1
          rw [hi] at h5
          cases h5
          exact k w v (.refl st) (ed ▸ h6)
        unfold mseqL at e1
        split at e1
        · rename_i l0 e4
          cases e1
          obtain ⟨a, us, rfl, h1, h2⟩ := st.read hv e4
          exact ⟨a, us, p, ps, rfl, .inl (SqL.of h1), toPyL_rep st.sub _ _ _ h2 e3, hc, key h2⟩
        · rename_i l0 e4
          cases e1
          obtain ⟨a, us, rfl, h1, h2⟩ := st.read hv e4
          exact ⟨a, us, p, ps, rfl, .inr (SqT.of h1), toPyL_rep st.sub _ _ _ h2 e3, hc, key h2⟩
        · cases e1
      · cases e2
    · cases e2
  · cases e
end
end MP
namespace MP
open PySem PySem.Spec L2
variable [Tb]
/-! ### len(set(l)) of a list of ints that are all different -/
def eLenSet (a : ME) : ME := fun ρ μ => (a ρ μ).bind fun d μ1 => match view μ1 d with
  | .con .lst l => match intsD l with
    | some ns => if ns.Nodup ∧ ns.length ≤ 4000 then .ok (.int (ns.length : Nat)) μ1 else .stuck
    | none => .stuck
  | _ => .stuck
section
variable {X : Cx} {E : XK}
theorem pd_lenset {e : Expr} {m : ME} {p p2 q pos : Pos} (hc : X.calm = true) (hg : Gl X "len") (hm : X.mg "len" = none) (hg2 : Gl X "set") (hm2 : X.mg "set" = none) (ha : PDE X E e m)
    (na : starEach [e] X.env = (false, eval e X.env) :: starEach [] X.env := by rfl) : PDE X E (.Call (.Name "len" p) [.Call (.Name "set" p2) [e] [] q] [] pos) (eLenSet m) :=
  (RZ.pe_lenSetI hg hm hg2 hm2 ha hc na).weak fun σ H Q h => by
    obtain ⟨w, μ, ρ, rfl, st, rs, p⟩ := h
    refine ⟨w, μ, ρ, rfl, st, rs, (post.bind p).mono fun d w1 μ1 n1 q => ?_⟩
    clear p
    intro v hv
    split at q
    · rename_i l e1
      split at q
      · rename_i ns e2
        split at q
        · rename_i hc
          obtain ⟨a, vs, rfl, h1, h2⟩ := n1.st.read hv e1
          have e3 := intsD_rep e2 h2
          subst e3
          exact ⟨a, ns, rfl, SqL.of h1, hc.1, hc.2, q w1 (.refl n1.st) _ rep_int⟩
        · exact q.elim
      · exact q.elim
    · exact q.elim
end
end MP

/-! try: .. except C1 as e: .. except C2 as e: .. -/
namespace MP
open PySem PySem.Spec L2
abbrev Clause := Value × (Addr → Value → Option Addr → TS)
/-- slot i is forgotten behind the suite -/
def gone (i : Nat) (De : Ends) : Ends where
  nx σ H := De.nx (σ.set i none) H
  rt := De.rt
  bk σ H := De.bk (σ.set i none) H
  ct σ H := De.ct (σ.set i none) H
def wishAs (K : PySem.W.Frag) (i : Nat) (De : Ends) : List Clause → WX
  | [], _, _, _, _ => False
  | q :: r, cls, d, σ, H => ∃ b, PySem.W.exmOne K cls q.1 = some b ∧
    (b = true → ∀ a, H a = none → q.2 a cls d (gone i De) (σ.set i (some (.ref a))) H) ∧
    (b = false → wishAs K i De r cls d σ H)
inductive AsOk (X : Cx) (n : Str) : List ExceptHandler → List Clause → Prop
  | nil : AsOk X n [] []
  | cons {x : Str} {c : Value} {ts : Addr → Value → Option Addr → TS} {b0 : Stmt} {su : List Stmt} {np p' : Pos} {hds : List ExceptHandler} {l : List Clause}
      (hc : Names X x c)
      (hsu : ∀ (a : Addr) (o : Obj) (cls : Value) (d : Option Addr) (pn : List (Addr × Obj)), Zc cls d o → (∃ vs, o.data = .fields vs) →
        PSs (X.suite a ((a, o) :: pn)) (b0 :: su) (ts a cls d))
      (r : AsOk X n hds l) : AsOk X n (.ExceptHandler (some (.Name x np)) (some n) (b0 :: su) p' :: hds) ((c, ts) :: l)
section
variable {X : Cx} {n : Str} {i : Nat} {body : List Stmt} {hd : ExceptHandler} {hds : List ExceptHandler} {l : List Clause} {pos : Pos} {tb : WX → TS}
theorem ps_tryAs (stk : X.stack = X.env :: X.outer) (fr : X.env.frame = some X.env.locals) (nd : X.N.Nodup) (hi : X.N[i]? = some n)
    (ln : X.env.kindOf n = some .local)
    (hb : ∀ (W : WX) (pn : List (Addr × Obj)) (xe : Value → Shared → Prop),
      Takes (X.tr pn xe) W → PassesOwn (model X.prog X.w) X.A X.env xe → PSs (X.tr pn xe) body (tb W))
    (hh : AsOk X n (hd :: hds) l) :
    PS X (.Try body (hd :: hds) [] [] pos) (fun De σ H => tb (wishAs X.K i De l) De σ H) := by
  constructor
  intro pins s σ H De I h
  have ok := I.ok
  have frs' : X.A.frames = some (X.env :: X.outer) := ok.frames.trans (by rw [stk])
  apply wpAny_Try_except
  refine wpAny_mono ((hb (wishAs X.K i De l) (X.pn ++ pins)
    (fun e t1 => wpAny (model X.prog X.w) X.A (noteFrame e X.env)
      (fun _ t2 => wpAny (model X.prog X.w) X.A (setFlight e none)
        (fun _ t3 => wpAny (model X.prog X.w) X.A (handleBy e X.env (hd :: hds)) (SP X pins De) X.xe t3) X.xe t2) X.xe t1)
    ?caught PassesOwn.looking).run [] s σ H De (I.toTry _) h) ?fine (fun e s1 he => he)
  case fine =>
    intro f s1 hsp
    cases f with
    | next =>
      obtain ⟨σ1, H1, J1, q⟩ := hsp
      exact wpAny_execs_nil ⟨_, _, J1.ofTry ok, q⟩
    | brk => exact ⟨_, _, hsp.choose_spec.choose_spec.1.ofTry ok, hsp.choose_spec.choose_spec.2⟩
    | cont => exact ⟨_, _, hsp.choose_spec.choose_spec.1.ofTry ok, hsp.choose_spec.choose_spec.2⟩
    | ret u =>
      obtain ⟨v, σ1, H1, J1, r, q⟩ := hsp
      exact ⟨v, σ1, H1, J1.ofTry ok, r, q⟩
  case caught =>
    rintro u s1 ⟨a, B, sI, pins1, σ1, H1, cls, d, rfl, J0, nb, up, sky, na, os, ag, w⟩
    have J : Inv X pins σ1 H1 sI := J0.ofTry ok
    have sky1 : Sky B (X.env :: X.outer) a (Zc cls d) X.env.locals s1.heap := stk ▸ sky
    show wpAny _ X.A (noteFrame (.ref a) X.env) _ _ _
    apply Sky.land Zc.steady frs' fr sky1
    intro h3 fl3 up3
    have J3 : Inv X pins σ1 H1 { s1 with heap := h3 } := J.landed nb fl3.1 (up.trans up3) os ag
    obtain ⟨o3, vs3, he3, hz3, hd3⟩ := fl3.there
    have away : a ∉ frs (X.env :: X.outer) := fun hm => by
      obtain ⟨_, o', e', hnf⟩ := fl3.2.2.1.mem hm
      rw [he3] at e'
      cases e'
      exact hnf _ hd3
    have nL : a ≠ X.env.locals := fun z => away (List.mem_filterMap.mpr ⟨X.env, .head _, by rw [fr, z]⟩)
    have nF : a ∉ X.fs := fun hm => by
      obtain ⟨e, he, q⟩ := List.mem_filterMap.mp hm
      exact away (List.mem_filterMap.mpr ⟨e, .tail _ he, q⟩)
    have S3 := J3.suite he3 hd3 na nL nF
    have look : PySem.W.Looks (model X.prog X.w) h3 (typeOf (.ref a)) cls := fun A Q E s k q =>
      wpAny_typeOf_ref (k _ _ he3) (hz3.1.symm ▸ q)
    suffices go : ∀ (hs : List ExceptHandler) (ls : List Clause), AsOk X n hs ls → wishAs X.K i De ls cls d σ1 H1 →
        wpAny (model X.prog X.w) X.A (handleBy (.ref a) X.env hs) (SP X pins De) X.xe { s1 with heap := h3 } from go _ _ hh w
    clear w
    intro hs ls hk
    induction hk with
    | nil => exact fun w => w.elim
    | @cons x c ts b0 su np p' hs2 l2 hc hsu _ ih =>
      rintro ⟨b, hb1, yes, no⟩
      refine wpAny_handleBy_cons (codeAny_handlers_test ?_) (fun q => nomatch q)
      have LM := PySem.W.exm_one (M := model X.prog X.w) J3.kIn look hb1
      have name : ∀ {Q : Value → Shared → Prop} {E : Value → Shared → Prop}, Q c { s1 with heap := h3 } →
          wpAny (model X.prog X.w) (X.A.mark (some (.ref a))) (eval (.Name x np) X.env) Q E { s1 with heap := h3 } := by
        intro Q E q
        obtain ⟨hg, hdb, hm | ⟨hm, hv, hnn⟩⟩ := hc
        · exact ld_glob (X := X.suite a ((a, o3) :: (X.pn ++ pins))) S3 hg hm q hdb
        · exact ld_blt (X := X.suite a ((a, o3) :: (X.pn ++ pins))) S3 hg hm hv q hnn hdb
      apply name
      apply LM.here
      cases b with
      | false => exact ih (no rfl)
      | true =>
        apply codeAny_handlers_suite_as
        apply HandSPX.lands_againZ fl3
        intro h4 fl4 up4
        have J4 : Inv X pins σ1 H1 { s1 with heap := h4 } := J.landed nb fl4.1 ((up.trans up3).trans up4) os ag
        obtain ⟨o4, vs4, he4, hz4, hd4⟩ := fl4.there
        have S4 := J4.suite he4 hd4 na nL nF
        refine store_ok (X := X.suite a ((a, o4) :: (X.pn ++ pins))) (v := .ref a) S4 nd hi (.inl ln) rfl (fun s5 S5 => ?_) (.inr ln)
        refine wpAny_mono ((hsu a o4 cls d (X.pn ++ pins) hz4 ⟨_, hd4⟩).run [] s5 _ H1 _ S5 (yes rfl a na)) (fun f s6 hsp => ?_)
          (fun _ _ z => z.elim)
        have fin : ∀ {σ6 : L2.St} {H6 : Hp} {Q : Shared → Prop}, Inv (X.suite a ((a, o4) :: (X.pn ++ pins))) [] σ6 H6 s6 →
            (∀ s7, Inv X pins (σ6.set i none) H6 s7 → Q s7) →
            wpAny (model X.prog X.w) X.A (do bindName X.env n .none; unbindBehindTheSuite X.env n p') (fun _ s7 => Q s7) X.xe s6 :=
          fun S6 hq => gone_ok (S6.unsuite ok) nd hi ln hq
        cases f with
        | next =>
          obtain ⟨_, _, S6, q6⟩ := hsp
          exact fin S6 fun s7 J7 => ⟨_, _, J7, q6⟩
        | brk =>
          obtain ⟨_, _, S6, q6⟩ := hsp
          exact fin S6 fun s7 J7 => ⟨_, _, J7, q6⟩
        | cont =>
          obtain ⟨_, _, S6, q6⟩ := hsp
          exact fin S6 fun s7 J7 => ⟨_, _, J7, q6⟩
        | ret u =>
          obtain ⟨_, _, _, S6, r6, q6⟩ := hsp
          exact fin S6 fun s7 J7 => ⟨_, _, _, J7, r6, q6⟩
end
end MP

/-! a def that calls what it got, and tells the word and the value of the error -/
namespace MP
open PySem PySem.Spec L2
open LamX (CodeO GivesTo Tabs ExtN TabB LamS lamCx lamEnv)
abbrev RefL := List (Str × Str)
/-- the clauses by class and word -/
inductive RefH : List ExceptHandler → RefL → Prop
  | nil : RefH [] []
  | cons {C wd : Str} {j k : Nat} {np p' p1 p2 p3 p4 p5 : Pos} {hs : List ExceptHandler} {l : RefL} (r : RefH hs l) :
      RefH (.ExceptHandler (some (.Name C np)) (some "e") [.Return (some (.Tuple [.Constant (.str wd) j p1, .Attribute (.Name "e" p2) "value" p3] k p4)) p5] p' :: hs) ((C, wd) :: l)
structure RefF (K : PySem.W.Frag) (mg : Str → Option Value) (l : RefL) (adr : Str → Addr) : Prop where
  glo : ∀ q ∈ l, mg q.1 = some (.ref (adr q.1))
  xf : ∀ q ∈ l, XfC K (adr q.1)
  nv : ∀ q ∈ l, PySem.W.findIn K (.ref (adr q.1)) "value" = some none
  em : ∀ q ∈ l, ∀ r ∈ l, PySem.W.exmOne K (.ref (adr q.1)) (.ref (adr r.1)) = some (decide (q.1 = r.1))
def refTs (adr : Str → Addr) (q : Str × Str) : Addr → Value → Option Addr → TS := fun a cls d =>
  tRet (tTup (tCons (tC (.str q.2)) (tCons (tXf a cls d (adr q.1) "value" (tVar 1)) tNil)))
def refCl (adr : Str → Addr) (l : RefL) : List Clause := l.map fun q => (.ref (adr q.1), refTs adr q)
theorem refH_ok {X : Cx} {adr : Str → Addr} {hs : List ExceptHandler} {l : RefL} (h : RefH hs l) (F : RefF X.K X.mg l adr) (hN : X.N[1]? = some ("e" : Str)) (hv : Vis X.env.scope "e")
    (hg : ∀ q ∈ l, Gl X q.1) (hd : ∀ q ∈ l, (q.1 == ("__debug__" : Str)) = false) (hb : ∀ p2, attributeBase (.Name "e" p2) "value" X.env (eval (.Name "e" p2) X.env) = eval (.Name "e" p2) X.env) : AsOk X "e" hs (refCl adr l) := by
  induction h with
  | nil => exact .nil
  | @cons C wd j k np p' p1 p2 p3 p4 p5 hs l r ih =>
    have F' : RefF X.K X.mg l adr := ⟨fun q h => F.glo q (.tail _ h), fun q h => F.xf q (.tail _ h), fun q h => F.nv q (.tail _ h), fun q h r h' => F.em q (.tail _ h) r (.tail _ h')⟩
    refine .cons ⟨hg _ (.head _), hd _ (.head _), .inl (F.glo _ (.head _))⟩ (fun a o cls d pn hz hf => ?_) (ih F' (fun q h => hg q (.tail _ h)) fun q h => hd q (.tail _ h))
    have x1 : PE (X.suite a ((a, o) :: pn)) (.Name "e" p2) (tVar 1) := pe_var (i := 1) hN hv
    exact pss_one (ps_ret (pe_tup (pa_cons pe_str (pa_cons (pe_xf (F.xf _ (.head _)) (F.nv _ (.head _)) hz hf x1 (hb p2)) pa_nil))))
/-- what is made of the error -/
def refWish (mg : Str → Option Value) (l : RefL) (Q : VK) : XK := fun cls d H => ∃ C wd Ca dx v, cls = .ref Ca ∧ mg C = some (.ref Ca) ∧ l.lookup C = some wd ∧ d = some dx ∧ H dx = some (.xd [(("value" : Str), v)]) ∧
  ∀ p, H p = none → Q (.ref p) (upd H p (.tup [.str wd, v]))
def TTref (mg : Str → Option Value) (l : RefL) : (XK → Hp → VK → Prop) → Hp → VK → Prop := fun tl H Q =>
  tl (refWish mg l Q) H fun _ H' => ∀ p, H' p = none → Q (.ref p) (upd H' p (.tup [.str "", .non]))
theorem wish_of {K : PySem.W.Frag} {mg : Str → Option Value} {adr : Str → Addr} {l : RefL} {De : Ends} {σ : L2.St} {H : Hp} {Q : VK} {cls : Value} {d : Option Addr} (F : RefF K mg l adr) (h2 : σ.length = 2) (hrt : De.rt = Q) (h : refWish mg l Q cls d H) : wishAs K 1 De (refCl adr l) cls d σ H := by
  obtain ⟨C, wd, Ca, dx, v, rfl, hC, hl, rfl, hH, q⟩ := h
  have hmem : ∀ {l : RefL}, l.lookup C = some wd → (C, wd) ∈ l := fun {l} e => by
    induction l with
    | nil => cases e
    | cons a l ih =>
      rw [List.lookup_cons] at e
      split at e
      · rename_i z
        cases e
        have : C = a.1 := by simpa using z
        rw [this]
        exact .head _
      · exact .tail _ (ih e)
  have hCa : Ca = adr C := by
    have := F.glo _ (hmem hl)
    rw [hC] at this
    cases this
    rfl
  subst hCa
  have hCm := hmem hl
  suffices g : ∀ l' : RefL, (∀ q ∈ l', q ∈ l) → l'.lookup C = some wd → wishAs K 1 De (refCl adr l') (.ref (adr C)) (some dx) σ H from g l (fun _ h => h) hl
  intro l'
  induction l' with
  | nil => exact fun _ e => nomatch e
  | cons a l' ih =>
    intro hs e
    refine ⟨_, F.em _ hCm a (hs a (.head _)), fun hb0 aa haa => ?_, fun hb0 => ih (fun q h => hs q (.tail _ h)) ?_⟩
    · have hb : C = a.1 := of_decide_eq_true hb0
      have ewd : a.2 = wd := by
        rw [List.lookup_cons, show (C == a.1) = true by simp [hb]] at e
        exact Option.some.inj e
      subst ewd
      refine ⟨.ref aa, ?_, ?_⟩
      · rw [List.getElem?_set_self (by omega)]
      · refine ⟨rfl, by rw [hb], dx, _, v, rfl, hH, rfl, ?_⟩
        refine ⟨by show 2 ≤ sizeLine; rw [sizeLine_eq]; omega, fun p hp => ?_⟩
        show De.rt _ _
        rw [hrt]
        exact q p hp
    · have hb : ¬ C = a.1 := of_decide_eq_false hb0
      rw [List.lookup_cons, show (C == a.1) = false by simpa using hb] at e
      exact e
theorem ref_gives {X : Cx} {adr : Str → Addr} {x q : Str} {sg : Scope} {g : Addr} {cdg : Value} {hd : ExceptHandler} {hs : List ExceptHandler} {l : RefL} {j : Nat} {k k2 : Nat} {p1 p2 p3 p4 p5 p6 p7 p8 : Pos} (hh : RefH (hd :: hs) l) (F : RefF X.K X.mg l adr)
    (hls : sg.names.lookup ("e" : Str) = some .local) (hgl : ∀ q ∈ l, sg.names.lookup q.1 = some .globalImplicit) (hdb : ∀ q ∈ l, (q.1 == ("__debug__" : Str)) = false)
    (hat : ∀ (L : Addr) (p : Pos), attributeBase (.Name "e" p) "value" (PyProof.Rows.envOfC x sg L g cdg) (eval (.Name "e" p) (PyProof.Rows.envOfC x sg L g cdg)) = eval (.Name "e" p) (PyProof.Rows.envOfC x sg L g cdg)) :
    GivesTo X ["ask", "e"] x sg g cdg [.Try [.Expr (.Call (.Name "ask" p1) [] [] p2) p3] (hd :: hs) [] [] p4, .Return (some (.Tuple [.Constant (.str "") j p5, .Constant .none k p6] k2 p7)) p8] "ask" q (TTref X.mg l) := by
  intro f c' s H Q tl act hc h
  refine ⟨_, pss_cons (ps_tryAs (X := (cxOf C8.CX0 X.prog X.w X.K X.mg X.base ["ask", "e"] x sg g cdg X.A X.stack s H C8.E0).nox) (n := "e") (i := 1) (l := refCl adr l)
      (tb := fun W De σ H => ∃ Ech : XK, (∀ cls d σ' H', σ'.length = 2 → Ech cls d H' → W cls d σ' H') ∧ σ[0]? = some (some (.ref f)) ∧ H c' = some (CodeO c' q) ∧ tl Ech H fun _ H' => De.nx σ H')
      rfl rfl (show (["ask", "e"] : List Str).Nodup by decide) rfl hls (fun W pn xe tk _ => ?_) (refH_ok hh F rfl (.inl hls) hgl hdb (fun p => hat _ p))) (pss_one (ps_ret (pe_tup (pa_cons pe_str (pa_cons pe_non pa_nil))))), ?_⟩
  · refine ⟨fun pins s' σ H' D I h' => ?_⟩
    obtain ⟨Ech, hW, h1, h2, h3⟩ := h'
    have tk' : Takes ((cxOf C8.CX0 X.prog X.w X.K X.mg X.base ["ask", "e"] x sg g cdg X.A X.stack s H C8.E0).tr pn xe) (fun cls d σ2 H2 => σ2.length = 2 → W cls d σ2 H2) := fun u s2 hx => by
      obtain ⟨a, B, sI, pins2, σ2, H2, cls, d, e1, I2, r1, r2, r3, r4, r5, r6, r7⟩ := hx
      exact tk u s2 ⟨a, B, sI, pins2, σ2, H2, cls, d, e1, I2, r1, r2, r3, r4, r5, r6, r7 I2.len⟩
    have hp := act _ pn xe Ech p1 p2 tk' fun cls d σ2 H2 h5 h6 => hW cls d σ2 H2 h6 h5
    have hq := pss_one (ps_expr (pos := p3) hp)
    exact hq.run pins s' σ H' D I ⟨h1, h2, h3⟩
  · refine ⟨refWish X.mg l Q, fun cls d σ' H' hl w => wish_of F hl rfl w, rfl, hc, ?_⟩
    have e : (fun (_ : V) (H' : Hp) => ∀ p, H' p = none → Q (.ref p) (upd H' p (.tup [.str "", .non]))) = fun (_ : V) (H' : Hp) => tRet (tTup (tCons (tC (.str "")) (tCons (tC .non) tNil))) { nx := fun _ H' => Q .non H', rt := Q } (L2.start ["ask", "e"] [.ref f]) H' := by
      funext _ H'
      apply propext
      constructor
      · exact fun k => ⟨by show 2 ≤ sizeLine; rw [sizeLine_eq]; omega, k⟩
      · exact fun k => k.2
    have h' : tl (refWish X.mg l Q) H (fun _ H' => ∀ p, H' p = none → Q (.ref p) (upd H' p (.tup [.str "", .non]))) := h
    rw [e] at h'
    exact h'
/-! ### x(lambda: e) -/
def refR (l : RefL) (r : R D) : R D := match r with
  | .ok _ μ => .ok (.tup [.str "", .non]) μ
  | .exc C x μ => (match l.lookup C with
    | some wd => .ok (.tup [.str wd, x]) μ
    | none => .stuck)
  | .stuck => .stuck
def eRef (l : RefL) (m : ME) : ME := fun ρ μ => truncD μ.length (refR l (m ρ μ))
section
variable [Tb] {X : Cx} {E : XK}
theorem StOk.grow {w : Ws} {μ : Mu} {H1 : Hp} (s : StOk X.K X.mg w μ) (e : ExtN w.H H1) (t : Tabs Tb.T H1) : Nx X.K X.mg w ⟨w.F, w.α, H1⟩ μ := by
  have stay : ∀ a u, w.H a = some u → isTb u = false → H1 a = some u := fun a u h n => e a u h fun ps z => by
    rw [z] at n
    cases n
  refine ⟨.refl, List.prefix_rfl, ⟨fun a u h => ?_, s.len, s.nd, fun k a ob ha hk => ?_, t⟩, ⟨fun a h1 h2 h3 h4 => ⟨h1, h2, ?_⟩, fun a o u h => stay a _ h rfl⟩⟩
  · obtain ⟨n, h1⟩ := s.sub a u h
    refine ⟨n, ?_⟩
    rcases h1 with h1 | ⟨h1, o, h2⟩
    · exact .inl (stay a u h1 n)
    · exact .inr ⟨h1, o, stay a _ h2 rfl⟩
  · have o := s.own k a ob ha hk
    cases ob with
    | dead => exact o
    | lv lk c l =>
      obtain ⟨k1, k0, vs, u, k2, k3, k4⟩ := o
      refine ⟨k1, k0, vs, u, k2, ?_, k4⟩
      unfold Held at k3 ⊢
      cases lk with
      | true => exact ⟨k3.1, k3.2.choose, stay a _ k3.2.choose_spec rfl⟩
      | false => exact stay a _ k3 k2.ntb
  · cases q : w.H a with
    | none => exact absurd q h3
    | some u => exact e a u q fun ps z => h4 ps (by rw [q, z])
theorem ref_lam {l : RefL} {m : ME} {σ : L2.St} {H : Hp} {Q : VK} (h : tE X.K X.mg E (eRef l m) σ H Q) : LamX.tLam Tb.T (TTref X.mg l) (fun E' => tE X.K X.mg E' m) σ H Q := by
  obtain ⟨w, μ, ρ, rfl, st, rs, p⟩ := h
  refine ⟨st.tb, fun H1 eN T1 => ?_⟩
  have n1 := st.grow eN T1
  have p1 := post.trunc (by exact st.len) p
  refine ⟨⟨w.F, w.α, H1⟩, μ, ρ, rfl, n1.st, rs, ?_⟩
  have pair : ∀ {w' : Ws} {μ' : Mu} {wd : Str} {x : D} {v : V}, Nx X.K X.mg w w' μ' → Rep X.K X.mg w'.F w'.α x v → (∀ w2, Nx X.K X.mg w w2 μ' → ∀ u, Rep X.K X.mg w2.F w2.α (.tup [.str wd, x]) u → Q u w2.H) → ∀ p, w'.H p = none → Q (.ref p) (upd w'.H p (.tup [.str wd, v])) :=
    fun {w' μ' wd x v} n r k p hp => k _ (n.trans (n.st.new hp)) _ (Rep.new (n.st.freshF hp) rfl (.cons rep_str (.cons r .nil)))
  cases hm : m ρ μ with
  | ok d μ' =>
    rw [hm] at p1
    intro w' n' v hv
    exact pair (n1.trans n') rep_non fun w2 n2 u hu => p1 w2 n2 u hu
  | exc C x μ' =>
    rw [hm] at p1
    unfold refR at p1
    simp only at p1
    split at p1
    · rename_i wd hl
      intro w' ca dx v n' hC hd hv
      exact ⟨C, wd, ca, dx, v, rfl, hC, hl, rfl, hd, pair (n1.trans n') hv fun w2 n2 u hu => p1 w2 n2 u hu⟩
    · exact p1.elim
  | stuck =>
    rw [hm] at p1
    exact p1
theorem pd_ref {adr : Str → Addr} {x : Str} {g c P : Addr} {k : Nat} {pg : Arguments} {sg : Scope} {dV kV doc pm cdv ct oc : Value} {an od : Option Addr} {osl : Array (Option Value)} {params : Arguments} {body : Expr} {scope : Scope} {m : ME} {p lpos pos : Pos}
    {hd : ExceptHandler} {hs : List ExceptHandler} {l : RefL} {j k1 k2 : Nat} {p1 p2 p3 p4 p5 p6 p7 p8 : Pos} (hh : RefH (hd :: hs) l) (F : RefF X.K X.mg l adr) (hg : Gl X x) (hm : X.mg x = some (.ref g)) (hk : PySem.W.keepIn X.K (.ref g) = true)
    (lk : X.K.lookup g = some ⟨oc, od, .func (PySem.W.fnOf x x pg [.Try [.Expr (.Call (.Name "ask" p1) [] [] p2) p3] (hd :: hs) [] [] p4, .Return (some (.Tuple [.Constant (.str "") j p5, .Constant .none k1 p6] k2 p7)) p8] sg dV kV doc pm an cdv ct), osl⟩)
    (hcg : PySem.W.codeIn X.K cdv x = true) (hb : L2.Binds X.K (PySem.W.fnOf x x pg [.Try [.Expr (.Call (.Name "ask" p1) [] [] p2) p3] (hd :: hs) [] [] p4, .Return (some (.Tuple [.Constant (.str "") j p5, .Constant .none k1 p6] k2 p7)) p8] sg dV kV doc pm an cdv ct) ["ask"] [])
    (Sg : FnScope ["ask", "e"] ["ask"] sg) (hva : Vis sg "ask") (hls : sg.names.lookup ("e" : Str) = some .local) (hgl : ∀ q ∈ l, sg.names.lookup q.1 = some .globalImplicit) (hdb : ∀ q ∈ l, (q.1 == ("__debug__" : Str)) = false)
    (hat : ∀ (L : Addr) (p : Pos), attributeBase (.Name "e" p) "value" (PyProof.Rows.envOfC x sg L g cdv) (eval (.Name "e" p) (PyProof.Rows.envOfC x sg L g cdv)) = eval (.Name "e" p) (PyProof.Rows.envOfC x sg L g cdv))
    (TB : TabB X.base X.mg c P) (hcode : X.env.code = .ref c) (hmT : (P, X.env.qual ++ "<lambda>") ∈ Tb.T) (hu : ∀ p ∈ Tb.T, p.1 = P → p.2 = X.env.qual ++ "<lambda>") (hr : Room (k + 2) X.A) (L : LamS X.env.scope scope) (hdef : defaultsOf params X.env = ([], []))
    (hbind : ∀ (q : Str) (cl : List (Str × Addr)) (pm cv ctv : Value), bindArgs (PySem.W.kla_fn "<lambda>" q params body scope cl pm cv ctv) ⟨[], []⟩ = pure [])
    (he : ∀ (A : Around) (outer : List Env) (s : Shared) (H : Hp) (E' : XK) (f c' : Addr), Room k (A.deeper (lamEnv X scope s.heap.objs.size f c')) → PDE (lamCx X A outer s H E' scope f c') E' body m) (hdx : (x == ("__debug__" : Str)) = false := by decide) :
    PDE X E (.Call (.Name x p) [.Lambda params body scope lpos] [] pos) (eRef l m) :=
  (LamX.pe_lamcall (T := Tb.T) hg hm hk lk hcg hb Sg rfl hva (ref_gives hh F hls hgl hdb hat) TB hcode hmT hu hr L hdef hbind he hdx).weak fun σ H Q h => ref_lam h
end
end MP

namespace MP
open PySem PySem.Spec L2
variable [Tb]
/-! ### a def -/
def startR (n : Nat) (l : List D) : Rho := l.map some ++ List.replicate (n - l.length) none
def defM (n : Nat) (m : MS) : MF := fun l μ => (m (startR n l) μ).bind fun r μ' => match r.1 with
  | .nx => .ok .non μ'
  | .rt d => .ok d μ'
  | _ => .stuck
theorem reps_none {K : PySem.W.Frag} {mg : Str → Option Value} {F : Hp} {α : List Addr} : ∀ n : Nat, RepS K mg F α (List.replicate n none) (List.replicate n none)
  | 0 => rfl
  | n + 1 => ⟨none, _, rfl, trivial, reps_none n⟩
theorem reps_start {K : PySem.W.Frag} {mg : Str → Option Value} {F : Hp} {α : List Addr} : ∀ {l : List D} {vs : List V} (n : Nat), RepL K mg F α l vs → RepS K mg F α (l.map some ++ List.replicate n none) (vs.map some ++ List.replicate n none)
  | [], vs, n, r => by
    simp only [RepL] at r
    subst r
    exact reps_none n
  | d :: l, vs, n, r => by
    simp only [RepL] at r
    obtain ⟨v, r', rfl, h1, h2⟩ := r
    exact ⟨some v, _, rfl, h1, reps_start n h2⟩
theorem def_body {K : PySem.W.Frag} {mg : Str → Option Value} {N : List Str} {m : MS} {vs : List V} {H : Hp} {Q : VK} {E : XK} {n : Nat} (h : spF K mg n (defM N.length m) vs H Q E) : tS K mg E m { nx := fun _ H' => Q .non H', rt := Q } (L2.start N vs) H := by
  obtain ⟨w, μ, l, rfl, st, rl, hn, p⟩ := h
  refine ⟨w, μ, startR N.length l, rfl, st, ?_, (post.bind p).mono fun r w1 μ1 n1 q => ?_⟩
  · unfold startR L2.start
    rw [rl.length]
    exact reps_start _ rl
  · intro σ1 r1
    obtain ⟨f, ρ1⟩ := r
    cases f with
    | nx => exact q w1 (.refl n1.st) _ rep_non
    | bk => exact q.elim
    | ct => exact q.elim
    | rt d => exact fun v hv => q w1 (.refl n1.st) v hv
section
variable {P : Program} {w : World} {K : PySem.W.Frag} {mg : Str → Option Value} {base : Heap} {x qual : Str} {params : Arguments} {body : List Stmt} {scope : Scope} {dvs : List V} {kws : List (Str × V)} {f : Addr} {fd : FuncData} {N ps : List Str} {k n : Nat} {m : MS}
theorem sp_len {g : MF} : ∀ (vs : List V) (H : Hp) (Q : VK) (E : XK), spF K mg n g vs H Q E → vs.length = n := fun vs H Q E h => by
  obtain ⟨w, μ, l, _, _, _, hn, _⟩ := h
  exact hn
theorem pd_def (F : FunD K x qual params body scope dvs kws f fd) (S : FnScope N ps scope) (hn : ps.length = n)
    (hb : ∀ (cdv : Value) (A : Around) (outer : List Env) (s : Shared) (H : Hp) (E : XK), Room k (A.deeper (PyProof.Rows.envOfC qual scope s.heap.objs.size f cdv)) → PDSs (cxOf (L2.CX P w) P w K mg base N qual scope f cdv A outer s H E) E body m) :
    FnOk P w K mg base (L2.CX P w) (k + 1) f fd ps (spF K mg n (defM N.length m)) :=
  F.ok S (fun vs H Q E h => (sp_len vs H Q E h).trans hn.symm) fun cdv A outer s H vs Q E hr h => ⟨_, hb cdv A outer s H E hr, def_body h⟩
/-- nothing is promised -/
def stuckF : MF := fun _ _ => .stuck
theorem fn_stuck (hn : ps.length = n) : FnOk P w K mg base (L2.CX P w) k f fd ps (spF K mg n stuckF) :=
  ⟨fun vs H Q E h => (sp_len vs H Q E h).trans hn.symm, fun A outer s H args us vs Q E hr e0 hb r h => by
    obtain ⟨_, _, _, _, _, _, _, p⟩ := h
    exact p.elim⟩
end
-- what a def's context takes
section
variable {P : Program} {w : World} {K : PySem.W.Frag} {mg : Str → Option Value} {base : Heap} {N : List Str} {qual : Str} {scope : Scope} {f : Addr} {cdv : Value} {A : Around} {outer : List Env} {s : Shared} {H : Hp} {E : XK}
theorem tk_def : Takes (cxOf (L2.CX P w) P w K mg base N qual scope f cdv A outer s H E) (fun c d _ H => E c d H) := takes_of rfl rfl rfl rfl
theorem ps_def : Passes (L2.CX P w) (cxOf (L2.CX P w) P w K mg base N qual scope f cdv A outer s H E) E := passes_call tk_def fun _ _ _ _ h => h
theorem po_def : PassesOwn (model P w) (cxOf (L2.CX P w) P w K mg base N qual scope f cdv A outer s H E).A (cxOf (L2.CX P w) P w K mg base N qual scope f cdv A outer s H E).env (cxOf (L2.CX P w) P w K mg base N qual scope f cdv A outer s H E).xe := passes_of rfl
end
section
variable {X : Cx} {A : Around} {outer : List Env} {s : Shared} {H : Hp} {E : XK} {scope : Scope} {f c' : Addr}
theorem tk_lam : Takes (LamX.lamCx X A outer s H E scope f c') (fun c d _ H => E c d H) := takes_of rfl rfl rfl rfl
theorem ps_lam : Passes (L2.CX (LamX.lamCx X A outer s H E scope f c').prog (LamX.lamCx X A outer s H E scope f c').w) (LamX.lamCx X A outer s H E scope f c') E := passes_call tk_lam fun _ _ _ _ h => h
end
theorem ps_noX {X : Cx} : Passes (L2.CX X.prog X.w) X NoE := fun pins σ H s e s' I c => by
  obtain ⟨a, B, H', cls, d, _, _, _, _, _, _, _, h⟩ := c
  exact h.elim
end MP

namespace MP
open PySem PySem.Spec L2
variable [Tb]
/-! ### data behind handles -/
mutual
def pyF : Nat → Mu → D → Option PyData
  | 0, _, _ => none
  | n + 1, μ, d => match view μ d with
    | .non => some .none
    | .bl b => some (.bool b)
    | .int i => some (.int i)
    | .str x => some (.str x)
    | .con .tup l => (pyFL n μ l).map .tuple
    | .con .lst l => (pyFL n μ l).map .list
    | _ => none
def pyFL : Nat → Mu → List D → Option (List PyData)
  | 0, _, _ => none
  | _ + 1, _, [] => some []
  | n + 1, μ, d :: l => match pyF n μ d, pyFL n μ l with
    | some p, some q => some (p :: q)
    | _, _ => none
end
section
variable {K : PySem.W.Frag} {mg : Str → Option Value} {w : Ws} {μ : Mu}
mutual
theorem pyF_rep (s : StOk K mg w μ) : ∀ (n : Nat) (d : D) (v : V) (p : PyData), Rep K mg w.F w.α d v → pyF n μ d = some p → Dp K w.H v p
  | 0, _, _, _, _, h => by simp [pyF] at h
  | n + 1, d, v, p, r, h => by
    simp only [pyF] at h
    split at h
    · rename_i e
      cases h
      cases view_non e r
      exact .non
    · rename_i e
      cases h
      cases view_bl e r
      exact .bl _
    · rename_i e
      cases h
      cases view_int e r
      exact .int _
    · rename_i e
      cases h
      cases view_str e r
      exact .str _
    · rename_i l e
      obtain ⟨ps, h1, rfl⟩ := Option.map_eq_some_iff.mp h
      obtain ⟨a, vs, rfl, h2, h3⟩ := s.read r e
      exact .tup (SqT.of h2) (pyFL_rep s n l vs ps h3 h1)
    · rename_i l e
      obtain ⟨ps, h1, rfl⟩ := Option.map_eq_some_iff.mp h
      obtain ⟨a, vs, rfl, h2, h3⟩ := s.read r e
      exact .lst (SqL.of h2) (pyFL_rep s n l vs ps h3 h1)
    · cases h
theorem pyFL_rep (s : StOk K mg w μ) : ∀ (n : Nat) (l : List D) (vs : List V) (ps : List PyData), RepL K mg w.F w.α l vs → pyFL n μ l = some ps → DpAll K w.H vs ps
  | 0, _, _, _, _, h => by simp [pyFL] at h
  | n + 1, [], vs, ps, r, h => by
    simp only [RepL] at r
    simp only [pyFL, Option.some.injEq] at h
    subst r h
    exact .nil
  | n + 1, d :: l, vs, ps, r, h => by
    simp only [RepL] at r
    obtain ⟨v, r', rfl, h1, h2⟩ := r
    simp only [pyFL] at h
    split at h
    · rename_i p q e1 e2
      cases h
      exact .cons (pyF_rep s n d v p h1 e1) (pyFL_rep s n l r' q h2 e2)
    · cases h
end
end
/-! ### repr -/
def PYF : Nat := 100000
def isEmptyDict (μ : Mu) (d : D) : Bool := match view μ d with
  | .con (.dK []) _ => true
  | _ => false
/-- what repr shows: a tuple or a list of data, or a pair of a word and an empty dict -/
def reprP (μ : Mu) (d : D) : Option PyData := match view μ d with
  | .con .tup [.str wd, x] => if isEmptyDict μ x = true then some (.tuple [.str wd, .dict []]) else match pyF PYF μ d with
    | some p => if (!p.hasDict) = true then some p else none
    | none => none
  | .con .tup _ => (match pyF PYF μ d with
    | some p => if (!p.hasDict) = true then some p else none
    | none => none)
  | _ => none
def reprOk (p : PyData) : Bool := p.showable && decide (p.shown.length ≤ sizeLine) && decide (p.depth ≤ 12)
def reprD (μ : Mu) (l : List D) : Option D := match l with
  | [d] => (match reprP μ d with
    | some p => if reprOk p = true then some (.str p.shown) else none
    | none => none)
  | _ => none
/-- the value is shown so -/
def rRepr (X : Cx) : List V → Hp → VK → Prop := fun xs H Q => ∃ (a : Addr) (p : PyData), xs = [V.ref a] ∧ reprOk p = true ∧
  ((p.hasDict = false ∧ Dp X.K H (.ref a) p) ∨ ∃ wd b kvs, p = .tuple [.str wd, .dict []] ∧ SqT X.K H a [.str wd, .ref b] ∧ Rd H b (.dK kvs) ∧ kvs = []) ∧ Q (.str p.shown) H
section
variable {X : Cx}
theorem call_repr (hgd : X.A.guards = some []) (hu : X.A.units + 20 < cLine) : CallR X (.builtin "repr") (rRepr X) := by
  intro pins s σ H xs us Q I r h
  obtain ⟨a, p, rfl, hok, hp, q⟩ := h
  obtain ⟨u, rfl, ru⟩ := vals1 r
  cases ru
  unfold reprOk at hok
  simp only [Bool.and_eq_true, decide_eq_true_eq] at hok
  obtain ⟨⟨o1, o2⟩, o3⟩ := hok
  have fin : ∀ {as : List Addr}, Reads s.heap (.ref a) p as → (p.hasDict = true → sysModules ∉ as) → wpAny (model X.prog X.w) X.A (call (.builtin "repr") [.ref a]) (EP X pins σ Q) X.xe s := fun rd hsm =>
    PySem.repr_of_reads' rd o1 hsm hgd (by omega) (fun _ _ e => e) (fun h' u tk hk => ⟨.str p.shown, H, I.kept hk, ⟨u, rfl⟩, q⟩) o2
  rcases hp with ⟨nd, hp⟩ | ⟨wd, b, kvs, rfl, hT, hD, rfl⟩
  · obtain ⟨as, rd⟩ := Dp.reads I p (.ref a) (.ref a) hp rfl
    exact fin rd (PyData.noDict_hsm nd)
  · obtain ⟨its, rv, ⟨o, ho, hc, n, hd⟩, hz⟩ := I.tuple hT
    cases rv with
    | cons r1 rv =>
      cases rv with
      | cons r2 rv =>
        cases rv
        obtain ⟨t, rfl⟩ := r1
        cases r2
        obtain ⟨z, lo, vs, rel, dd⟩ := dk_rd I.hok hD
        cases rel
        obtain ⟨ob, es, ep, h1, h2, h3, hes⟩ := dd
        have e0 : es.toList = [] := by
          have l1 := hes.2.1.length
          simpa using l1
        refine fin (as := [] ++ ((b :: [] ++ []) ++ [])) (.tuple ho hc hd (.cons (.str wd t) (.cons (.dict h1 h2.1 h3 ?_ ?_) .nil))) fun _ => ?_
        · rw [e0]
          exact .nil
        · rw [e0]
          exact .nil
        · simp only [List.nil_append, List.append_nil, List.mem_singleton]
          intro z
          rw [z] at lo
          simp at lo
theorem cn_repr : CN X (rRepr X) reprD := by
  intro w μ l d vs Q st hl e k
  unfold reprD at e
  split at e
  · rename_i x
    split at e
    · rename_i p e1
      split at e
      · rename_i hok
        cases e
        obtain ⟨v, rfl, hv⟩ := repl_1 hl
        have q := k w (.str p.shown) (.refl st) rep_str
        have gen : ∀ {l0 : List D}, view μ x = .con .tup l0 → (match pyF PYF μ x with
            | some p => if (!p.hasDict) = true then some p else none
            | none => none) = some p → rRepr X [v] w.H Q := fun {l0} ev e2 => by
          split at e2
          · rename_i p' e3
            split at e2
            · rename_i nd
              cases e2
              obtain ⟨a, us, rfl, h1, h2⟩ := st.read hv ev
              exact ⟨a, p, rfl, hok, .inl ⟨by simpa using nd, pyF_rep st _ _ _ _ hv e3⟩, q⟩
            · cases e2
          · cases e2
        unfold reprP at e1
        split at e1
        · rename_i wd y ev
          split at e1
          · rename_i hd
            cases e1
            obtain ⟨a, us, rfl, h1, h2⟩ := st.read hv ev
            obtain ⟨v1, v2, rfl, h3, h4⟩ := repl_2 h2
            simp only [Rep] at h3
            subst h3
            unfold isEmptyDict at hd
            split at hd
            · rename_i l1 ed
              obtain ⟨b, ws, rfl, h5, h6⟩ := st.read h4 ed
              exact ⟨a, _, rfl, hok, .inr ⟨wd, b, _, rfl, SqT.of h1, h5.2, rfl⟩, q⟩
            · cases hd
          · exact gen ev e1
        · rename_i l0 _ ev
          exact gen ev e1
        · cases e1
      · cases e
    · cases e
  · cases e
end
end MP

/-! the law's own call, from the claim's caller alone -/
namespace MP
open PySem PySem.Spec L2
open LamX (TabB)
/-- the script as it comes -/
abbrev scrO (vs : List Value) : Obj := { cls := .type "list", data := .seq vs.toArray }
abbrev tabO (m : Array Value) : Obj := { cls := .none, data := .fields m }
open Classical in
noncomputable def lawH (K : PySem.W.Frag) (tabs : List Addr) (a : Addr) (vs : List Value) (ns : List Int) : Hp := fun b =>
  if b ∈ tabs then some (.tbl #[])
  else if b = a ∧ K.lookup a = none then some (.frz (scrO vs) (.lst (ns.map V.int)))
  else none
/-- what the law's def does, called so -/
def LawRun (P : Program) (w : World) (K : PySem.W.Frag) (mg : Str → Option Value) (fa : Addr) (cs : List (Addr × Addr)) (n : Nat) : Prop :=
  ∀ (base : Heap) (H : Hp) (s : Shared) (a : Addr) (ns : List Int), K.In base → base.Ns mainGlobals mg → (∀ p ∈ cs, TabB base mg p.1 p.2) → (∀ p ∈ cs, H p.2 = some (.tbl #[])) →
    ns.length ≤ n → (∀ z ∈ ns, Builtin.Int.intBits z ≤ 1048576) → SqL K H a (ns.map V.int) → Env0 P w K mg base callerA [] s H →
    codeAny (model P w) callerA (.call (.ref fa) ⟨[.ref a], []⟩) (CR (L2.CX P w) [] P w H s (fun v _ => v = .bl true) NoE) s
section
variable {P : Program} {w : World} {K : PySem.W.Frag} {mg mb : Str → Option Value} {fa a : Addr} {cs : List (Addr × Addr)} {s : Shared} {vs : List Value} {ns : List Int} {n : Nat}
theorem law_end (KX : K.In s.heap) (hG : s.heap.Ns mainGlobals mg) (hB : s.heap.Ns builtinsNs mb) (hboot : ∀ x : Str, x ≠ "__name__" → mb x = bootBuiltins x)
    (hlim : s.heap.NoLimit) (hgen : s.gens = #[])
    (hT : ∀ p ∈ cs, s.heap.get? p.2 = some (tabO #[])) (nT : ∀ p ∈ cs, K.lookup p.2 = none) (C : ∀ p ∈ cs, PySem.W.CodeHd s.heap p.1 p.2)
    (hbm : ∃ (bm : Addr) (ob : Obj), mg "__builtins__" = some (.ref bm) ∧ bm ≠ builtinsNs ∧ s.heap.get? bm = some ob ∧ ob.cls = .type "module"
      ∧ ob.dict = some builtinsNs ∧ ob.data = .plain)
    (ha : s.heap.get? a = some (scrO vs)) (hi : PyProof.Rows.IntsAre vs ns) (hn : ns.length ≤ n) (hz : n ≤ sizeLine) (hbits : ∀ z ∈ ns, Builtin.Int.intBits z ≤ 1048576)
    (R : LawRun P w K mg fa cs n) :
    codeAny (model P w) callerA (.call (.ref fa) ⟨[.ref a], []⟩)
      (fun r s' => r = .ok (.ret (.bool true)) ∧ OldK s.heap s'.heap ∧ s'.os = s.os ∧ PyProof.Rows.AllBare s'.gens) s := by
  have hv := vals_ints hi
  have hlen : ns.length ≤ sizeLine := Nat.le_trans hn hz
  generalize et : cs.map (·.2) = tabs
  have tab : ∀ {b}, b ∈ tabs → ∃ p ∈ cs, p.2 = b := fun {b} h => by
    rw [← et] at h
    exact List.mem_map.mp h
  have tabAt : ∀ {b}, b ∈ tabs → s.heap.get? b = some (tabO #[]) := fun h => by
    obtain ⟨p, hp, rfl⟩ := tab h
    exact hT p hp
  have inT : ∀ p ∈ cs, p.2 ∈ tabs := fun p hp => et ▸ List.mem_map.mpr ⟨p, hp, rfl⟩
  have aT : a ∉ tabs := fun h => by
    have q := tabAt h
    rw [ha] at q
    exact nomatch congrArg Obj.data (Option.some.inj q)
  have H1 : ∀ {b}, b ∈ tabs → lawH K tabs a vs ns b = some (.tbl #[]) := fun h => if_pos h
  -- the three kinds of addresses
  have kinds : ∀ b, (b ∈ tabs ∧ lawH K tabs a vs ns b = some (.tbl #[])) ∨ (b = a ∧ K.lookup a = none ∧ lawH K tabs a vs ns b = some (.frz (scrO vs) (.lst (ns.map V.int)))) ∨
      (b ∉ tabs ∧ lawH K tabs a vs ns b = none) := fun b => by
    by_cases h : b ∈ tabs
    · exact .inl ⟨h, if_pos h⟩
    · by_cases h2 : b = a ∧ K.lookup a = none
      · exact .inr (.inl ⟨h2.1, h2.2, (if_neg h).trans (if_pos h2)⟩)
      · exact .inr (.inr ⟨h, (if_neg h).trans (if_neg h2)⟩)
  have ok : HOk P w (lawH K tabs a vs ns) s.heap := fun b u e => by
    rcases kinds b with ⟨h, q⟩ | ⟨rfl, _, q⟩ | ⟨_, q⟩ <;> rw [q] at e <;> cases e
    · exact tabAt h
    · exact ⟨ha, by rw [List.length_map]; exact hlen, vs, _, hv, ha⟩
  have free : ∀ {b : Addr} {o : Obj}, s.heap.get? b = some o → (∀ m k, o.data ≠ .seq m k) → o.data ≠ .fields #[] → lawH K tabs a vs ns b = none := fun {b o} e h1 h2 => by
    rcases kinds b with ⟨h, _⟩ | ⟨rfl, _, _⟩ | ⟨_, q⟩
    · rw [tabAt h] at e
      cases e
      exact absurd rfl h2
    · rw [ha] at e
      cases e
      exact absurd rfl (h1 _ _)
    · exact q
  have put : ∀ {b : Addr} {o : Obj}, s.heap.get? b = some o → (∀ m k, o.data ≠ .seq m k) → o.data ≠ .fields #[] → (hidT s.heap (lawH K tabs a vs ns)).get? b = some o :=
    fun e h1 h2 => hidT_get e (free e h1 h2)
  have dct : ∀ {b : Addr} {m : Str → Option Value}, s.heap.Ns b m → (hidT s.heap (lawH K tabs a vs ns)).Ns b m := fun h => by
    obtain ⟨o, es, ep, e, hd, r⟩ := h
    exact ⟨o, es, ep, put e (fun _ _ z => by rw [hd] at z; cases z) (fun z => by rw [hd] at z; cases z), hd, r⟩
  have KB : K.In (hidT s.heap (lawH K tabs a vs ns)) := fun b o e => hidT_get (KX b o e) (by
    rcases kinds b with ⟨h, _⟩ | ⟨rfl, z, _⟩ | ⟨_, q⟩
    · obtain ⟨p, hp, rfl⟩ := tab h
      rw [nT p hp] at e
      cases e
    · rw [z] at e
      cases e
    · exact q)
  have M : L2.Mod K mg (hidT s.heap (lawH K tabs a vs ns)) := by
    refine ⟨KB, dct hG, ⟨mb, dct hB, hboot⟩, ?_⟩
    obtain ⟨mc, h1, h2⟩ := hlim
    exact ⟨mc, dct h1, h2⟩
  have TB : ∀ p ∈ cs, TabB (hidT s.heap (lawH K tabs a vs ns)) mg p.1 p.2 := fun p hp => by
    have hTp := hT p hp
    constructor
    · obtain ⟨o, us, f1, f2, f3, f4, f5, f6, f7, e1, r1, r2, r3, rr⟩ := C p hp
      exact ⟨o, us, f1, f2, f3, f4, f5, f6, f7, put e1 (fun _ _ z => by rw [r2] at z; cases z) (fun z => by rw [r2] at z; cases z; simp at r3), r1, r2, r3, rr⟩
    · obtain ⟨bm, ob, b1, b2, b3, b4, b5, b6⟩ := hbm
      refine ⟨bm, ob, b1, b2, fun z => ?_, fun z => ?_, put b3 (fun _ _ z => by rw [b6] at z; cases z) (fun z => by rw [b6] at z; cases z), b4, b5, b6⟩
      · obtain ⟨o, es, ep, e, hd, _⟩ := hG
        rw [z, e] at b3
        cases b3
        rw [hd] at b6
        cases b6
      · rw [z, hTp] at b3
        cases b3
        cases b6
    · intro z
      obtain ⟨o, es, ep, e, hd, _⟩ := hG
      rw [z, hTp] at e
      cases e
      cases hd
  have E : Env0 P w K mg (hidT s.heap (lawH K tabs a vs ns)) callerA [] s (lawH K tabs a vs ns) :=
    ⟨rfl, M, fun b o e => of_hidT e, Nat.le_of_eq (hidT_size _ _), trivial, fun b hb => (nomatch hb), ok, PyProof.Rows.AllBare.of_eq hgen⟩
  have S : SqL K (lawH K tabs a vs ns) a (ns.map V.int) := by
    cases hk : K.lookup a with
    | some o =>
      have e := KX a o hk
      rw [ha] at e
      cases e
      exact .inr ⟨_, vs.toArray, _, hk, rfl, rfl, rfl, by rw [List.size_toArray, hi.length]; exact hlen, by simpa using hv⟩
    | none => exact .inl (.inr ⟨scrO vs, (if_neg aT).trans (if_pos ⟨rfl, hk⟩)⟩)
  refine codeAny_mono (R _ _ s a ns KB (dct hG) TB (fun p hp => H1 (inT p hp)) hn hbits S E) fun r s' h => ?_
  cases r with
  | error e =>
    obtain ⟨_, _, _, _, _, _, _, _, _, _, _, _, z⟩ := h
    exact z.elim
  | ok fl =>
    cases fl with
    | next => exact h.elim
    | brk => exact h.elim
    | cont => exact h.elim
    | ret u =>
      obtain ⟨v, H', os, bare, un, ok', rv, ev⟩ := h
      have ev : v = .bl true := ev
      subst ev
      have rv : u = Value.bool true := rv
      subst rv
      have same : ∀ b o, b ∉ tabs → s.heap.get? b = some o → s'.heap.get? b = some o := fun b o nb e => by
        rcases kinds b with ⟨h, _⟩ | ⟨rfl, _, q⟩ | ⟨_, q⟩
        · exact absurd h nb
        · rw [ha] at e
          cases e
          exact (ok' b _ (un.frzs b _ _ q)).1
        · exact un.keep b o e q (fun z => nomatch z) (fun z => nomatch z)
      have more : ∀ p ∈ cs, ∃ m : Array Value, s'.heap.get? p.2 = some (tabO m) := fun p hp => by
        obtain ⟨m, z⟩ := un.tbls p.2 #[] (H1 (inT p hp))
        exact ⟨_, ok' p.2 _ z⟩
      refine ⟨rfl, ⟨fun b o e => ?_, fun b o e => ?_⟩, os, bare⟩
      · by_cases hb : b ∈ tabs
        · obtain ⟨p, hp, rfl⟩ := tab hb
          obtain ⟨m, hm⟩ := more p hp
          rw [hT p hp] at e
          cases e
          refine .inr (.inl ⟨((C p hp).tab (hT p hp)).isCodeTable, rfl, #[], m, rfl, ?_⟩)
          rw [Array.empty_append]
          exact hm
        · exact .inl (same b o hb e)
      · by_cases hb : b ∈ tabs
        · obtain ⟨p, hp, rfl⟩ := tab hb
          exact ⟨_, (more p hp).choose_spec⟩
        · exact ⟨o, same b o hb e⟩
end
/-- the end of the row's walk -/
theorem walk_mp {l : PySem.W.OpenLaw} {n : Nat} {q : Program} {loose : List Str} {XP : (Str → Option Value) → Heap → Prop} {YP : World → Heap → Prop} {d : DefRec} (hn : l.most = some n) (hn2 : n ≤ sizeLine) (hdf : d.params.defaults = [])
    (F : ∀ (w : World) (mg : Str → Option Value) (fa : Addr) (h : Heap), YP w h → h.Ns mainGlobals mg → mg d.name = some (.ref fa) → ∃ (K : PySem.W.Frag) (cs : List (Addr × Addr)), K.In h ∧
      (∀ p ∈ cs, h.get? p.2 = some (tabO #[])) ∧ (∀ p ∈ cs, K.lookup p.2 = none) ∧ (∀ p ∈ cs, PySem.W.CodeHd h p.1 p.2) ∧ LawRun l.prog w K mg fa cs n) :
    PySem.W.WalkO q loose XP YP l.row.toRowW d [] (fun f vs => PySem.call f vs) := by
  refine Att.attach_callB hn hdf ?_
  intro w s0 s1 mg mb fa o pm cd doc a vs ns G Y _ _ _ hmg hobj hints hlen hbits hg
  obtain ⟨K, cs, KX, hT, nT, C, R⟩ := F w mg fa _ Y G.T.g hmg
  exact law_end KX G.T.g G.T.b G.T.builtins G.T.nolimit hg hT nT C G.T.bmain hobj hints hlen hn2 hbits R
section
variable [Tb]
variable {P : Program} {w : World} {K : PySem.W.Frag} {mg : Str → Option Value} {x qual : Str} {params : Arguments} {body : List Stmt} {scope : Scope} {f : Addr} {fd : FuncData} {N : List Str} {k n : Nat} {m : MS} {cs : List (Addr × Addr)}
/-- the script as a tree -/
def scrD (ns : List Int) : D := .con .scr (ns.map .int)
theorem repl_ints {F : Hp} {α : List Addr} : ∀ ns : List Int, RepL K mg F α (ns.map D.int) (ns.map V.int)
  | [] => .nil
  | _ :: ns => .cons rep_int (repl_ints ns)
/-- from the shallow law -/
theorem law_run (F : FunD K x qual params body scope [] [] f fd) (S : FnScope N ["script"] scope) (hbind : ∀ (s : Shared) (v : Value), BindsTo s fd ⟨[v], []⟩ [("script", v)])
    (hr : Room (k + 1) callerA) (hTb : ∀ p ∈ Tb.T, ∃ q ∈ cs, q.2 = p.1)
    (hb : ∀ (base : Heap) (cdv : Value) (s : Shared) (H : Hp) (E : XK), K.In base → base.Ns mainGlobals mg → (∀ p ∈ cs, TabB base mg p.1 p.2) → PySem.W.codeIn K cdv qual = true → K.lookup f ≠ none → (∀ o, K.lookup f = some o → ∃ fd', o.data = .func fd' ∧ fd'.code = cdv) →
      Room k (callerA.deeper (PyProof.Rows.envOfC qual scope s.heap.objs.size f cdv)) → PDSs (cxOf (L2.CX P w) P w K mg base N qual scope f cdv callerA [] s H E) E body m)
    (hm : ∀ ns : List Int, ns.length ≤ n → (∀ z ∈ ns, Builtin.Int.intBits z ≤ 1048576) → ∃ μ, defM N.length m [scrD ns] [] = .ok (.bl true) μ) : LawRun P w K mg f cs n := by
  intro base H s a ns KB G TB hT hn hbits hS e0
  obtain ⟨oc, od, dV, kV, doc, pm, an, cdv, ct, osl, rfl, lk, hcd, _, _⟩ := F.ex
  refine LamX.run_ofS (N := N) (ps := ["script"]) (us := [.ref a]) (vs := [.ref a]) lk hcd S hr e0 (hbind s (.ref a)) (.cons rfl .nil) rfl fun hr' => ?_
  refine ⟨_, hb base cdv s H NoE KB G TB hcd (by rw [lk]; simp) (fun o ho => by rw [lk] at ho; cases ho; exact ⟨_, rfl, rfl⟩) hr', def_body (n := 1) (Q := fun v _ => v = .bl true) (E := NoE) ?_⟩
  let F0 : Hp := fun b => if b = a then (match H a with | some (.tbl _) => none | u => u) else none
  have hF0 : ∀ b u, F0 b = some u → isTb u = false ∧ H b = some u := fun b u e => by
    by_cases hb : b = a
    · subst hb
      have e : (match H b with | some (.tbl _) => none | u => u) = some u := (if_pos rfl).symm.trans e
      split at e
      · cases e
      · rename_i u0 h0
        cases h1 : H b with
        | none =>
          rw [h1] at e
          cases e
        | some u1 =>
          rw [h1] at e
          cases e
          refine ⟨?_, rfl⟩
          cases u <;> first | rfl | exact absurd h1 (h0 _)
    · have e : none = some u := (if_neg hb).symm.trans e
      cases e
  have rep : SqL K F0 a (ns.map V.int) := by
    rcases hS with (h | ⟨o, h⟩) | h
    · refine .inl (.inl ?_)
      show (if a = a then (match H a with | some (.tbl _) => none | u => u) else none) = _
      rw [if_pos rfl, h]
    · refine .inl (.inr ⟨o, ?_⟩)
      show (if a = a then (match H a with | some (.tbl _) => none | u => u) else none) = _
      rw [if_pos rfl, h]
    · exact .inr h
  refine ⟨⟨F0, [], H⟩, [], [scrD ns], rfl, ⟨fun b u e => ⟨(hF0 b u e).1, .inl (hF0 b u e).2⟩, rfl, .nil, fun k a ob e => (nomatch e), fun p hp => ?_⟩, ?_, rfl, ?_⟩
  · obtain ⟨q, hq, e⟩ := hTb p hp
    have z := hT q hq
    rw [e] at z
    exact LamX.TabS.nil z
  · refine .cons ?_ .nil
    show Rep K mg F0 [] (.con .scr (ns.map D.int)) (.ref a)
    simp only [Rep]
    exact ⟨a, ns.map V.int, rfl, rep, repl_ints ns⟩
  · obtain ⟨μ, e⟩ := hm ns hn hbits
    rw [e]
    intro w' _ v hv
    simp only [Rep] at hv
    exact hv
end
end MP

namespace MP
open PySem PySem.Spec L2
variable [Tb]
/-! ### what is known of a def at its address -/
def Known (P : Program) (w : World) (K : PySem.W.Frag) (mg : Str → Option Value) (base : Heap) (k : Nat) (a : Addr) (n : Nat) (f : MF) : Prop :=
  ∃ fd ps, FnOk P w K mg base (L2.CX P w) k a fd ps (spF K mg n f) ∧ Binds K fd ps [] ∧ PySem.W.keepIn K (.ref a) = true
section
variable {P : Program} {w : World} {K : PySem.W.Frag} {mg : Str → Option Value} {base : Heap} {k j n : Nat} {a : Addr} {f : MF}
theorem Known.mono (h : Known P w K mg base k a n f) (hk : k ≤ j) : Known P w K mg base j a n f := by
  obtain ⟨fd, ps, h1, h2, h3⟩ := h
  exact ⟨fd, ps, h1.mono hk, h2, h3⟩
theorem Known.mk {x qual : Str} {params : Arguments} {body : List Stmt} {scope : Scope} {fd : FuncData} {N ps : List Str} {m : MS} (F : FunD K x qual params body scope [] [] a fd) (S : FnScope N ps scope) (hn : ps.length = n)
    (hB : ∀ (kV doc pm : Value) (an : Option Addr) (cdv ct : Value) (us : List Value), us.length = ps.length → bindArgs (PySem.W.fnOf x qual params body scope .none kV doc pm an cdv ct) ⟨us, []⟩ = pure (ps.zip us))
    (hb : ∀ (cdv : Value) (A : Around) (outer : List Env) (s : Shared) (H : Hp) (E : XK), Room k (A.deeper (PyProof.Rows.envOfC qual scope s.heap.objs.size a cdv)) → PDSs (cxOf (L2.CX P w) P w K mg base N qual scope a cdv A outer s H E) E body m) :
    Known P w K mg base (k + 1) a n (defM N.length m) := ⟨fd, ps, pd_def F S hn hb, F.bindsN hB, F.kp⟩
theorem Known.stuck {x qual : Str} {params : Arguments} {body : List Stmt} {scope : Scope} {fd : FuncData} {ps : List Str} (F : FunD K x qual params body scope [] [] a fd) (hn : ps.length = n)
    (hB : ∀ (kV doc pm : Value) (an : Option Addr) (cdv ct : Value) (us : List Value), us.length = ps.length → bindArgs (PySem.W.fnOf x qual params body scope .none kV doc pm an cdv ct) ⟨us, []⟩ = pure (ps.zip us)) :
    Known P w K mg base k a n stuckF := ⟨fd, ps, fn_stuck hn, F.bindsN hB, F.kp⟩
end
section
variable {X : Cx} {E : XK} {k n : Nat} {a : Addr} {f : MF} {ma : MA} {x : Str} {p pos : Pos} {e : Expr} {es : List Expr}
theorem pd_callK (h : Known X.prog X.w X.K X.mg X.base k a n f) (hr : Room k X.A) (hg : Gl X x) (hm : X.mg x = some (.ref a)) (hx : Passes (L2.CX X.prog X.w) X E) (ha : PDA X E (e :: es) ma)
    (hdb : (x == ("__debug__" : Str)) = false := by decide) (he : starEach (e :: es) X.env = (false, eval e X.env) :: starEach es X.env := by rfl) (hpl : (backTo pos (starEach es X.env)).any (·.1) = false := by rfl) :
    PDE X E (.Call (.Name x p) (e :: es) [] pos) (eCall f n ma) := by
  obtain ⟨fd, ps, h1, h2, h3⟩ := h
  exact pd_call h1 hr hg hm h3 h2 hx ha hdb he hpl
theorem pd_makeK {Ca : Addr} (M : L2.Mk X.K Ca a) (h : Known X.prog X.w X.K X.mg X.base k a n f) (hr : Room (k + 1) X.A) (hg : Gl X x) (hm : X.mg x = some (.ref Ca)) (hx : Passes (L2.CX X.prog X.w) X E) (ha : PDA X E (e :: es) ma)
    (hdb : (x == ("__debug__" : Str)) = false := by decide) (he : starEach (e :: es) X.env = (false, eval e X.env) :: starEach es X.env := by rfl) (hpl : (backTo pos (starEach es X.env)).any (·.1) = false := by rfl) :
    PDE X E (.Call (.Name x p) (e :: es) [] pos) (eMake x f n ma) := by
  obtain ⟨fd, ps, h1, h2, h3⟩ := h
  exact pd_make M h1 hr hg hm h2 hx ha hdb he hpl
theorem pd_makeFK {Ca : Addr} (M : L2.Mk X.K Ca a) (h : Known X.prog X.w X.K X.mg X.base k a n f) (hr : Room (k + 1) X.A) (hg : Gl X x) (hm : X.mg x = some (.ref Ca)) (hx : Passes (L2.CX X.prog X.w) X E) (ha : PDA X E (e :: es) ma)
    (hdb : (x == ("__debug__" : Str)) = false := by decide) (he : starEach (e :: es) X.env = (false, eval e X.env) :: starEach es X.env := by rfl) (hpl : (backTo pos (starEach es X.env)).any (·.1) = false := by rfl) :
    PDE X E (.Call (.Name x p) (e :: es) [] pos) (eMakeF x f n ma) := by
  obtain ⟨fd, ps, h1, h2, h3⟩ := h
  exact pd_makeF M h1 hr hg hm h2 hx ha hdb he hpl
theorem pd_methK {C mn : Str} {Ca : Addr} {o : Expr} {mo : ME} {apos : Pos} {pl : Sem Bool} (ho : PDE X E o mo) (hC : X.mg C = some (.ref Ca)) (c : Cls X.K Ca) (hm : Meth X.K Ca mn a) (h : Known X.prog X.w X.K X.mg X.base k a n f) (hr : Room k X.A)
    (hx : Passes (L2.CX X.prog X.w) X E) (ha : PDA X E (e :: es) ma)
    (hc : eval (.Call (.Attribute o mn apos) (e :: es) [] pos) X.env = (eval o X.env >>= fun v => standAt apos.atName >>= fun _ => holding [v] (getMethod v mn pl) >>= fun q =>
      callWith pos q.1 q.2 (backTo pos (starEach (e :: es) X.env)) (backToKw pos (keywordEach [] X.env))) := by rfl)
    (he : starEach (e :: es) X.env = (false, eval e X.env) :: starEach es X.env := by rfl) (hpl : (backTo pos (starEach es X.env)).any (·.1) = false := by rfl) :
    PDE X E (.Call (.Attribute o mn apos) (e :: es) [] pos) (eMeth C mn f n mo ma) := by
  obtain ⟨fd, ps, h1, h2, h3⟩ := h
  exact pd_meth ho hC c hm h1 hr h2 hx ha hc he hpl
theorem pd_methK0 {C mn : Str} {Ca : Addr} {o : Expr} {mo : ME} {apos : Pos} {pl : Sem Bool} (ho : PDE X E o mo) (hC : X.mg C = some (.ref Ca)) (c : Cls X.K Ca) (hm : Meth X.K Ca mn a) (h : Known X.prog X.w X.K X.mg X.base k a n f) (hr : Room k X.A)
    (hx : Passes (L2.CX X.prog X.w) X E)
    (hc : eval (.Call (.Attribute o mn apos) [] [] pos) X.env = (eval o X.env >>= fun v => standAt apos.atName >>= fun _ => holding [v] (getMethod v mn pl) >>= fun q =>
      callWith pos q.1 q.2 (backTo pos (starEach [] X.env)) (backToKw pos (keywordEach [] X.env))) := by rfl) :
    PDE X E (.Call (.Attribute o mn apos) [] [] pos) (eMeth C mn f n mo aNil) := by
  obtain ⟨fd, ps, h1, h2, h3⟩ := h
  exact pd_meth0 ho hC c hm h1 hr h2 hx hc
/-! ### a local name that holds a def -/
abbrev FnTab := List (Str × Nat × MF)
def eCallV (i : Nat) (tb : FnTab) (a : MA) : ME := fun ρ μ => match ρ[i]? with
  | some (some (.fn x)) => (match tb.lookup x with
    | some q => (a ρ μ).bind fun l μ1 => if l.length = q.1 then callF q.2 l μ1 else .stuck
    | none => .stuck)
  | _ => .stuck
theorem pd_callV {i : Nat} {tb : FnTab} {y : Str} (hT : ∀ q ∈ tb, ∃ b, X.mg q.1 = some (.ref b) ∧ Known X.prog X.w X.K X.mg X.base k b q.2.1 q.2.2) (hr : Room k X.A) (hx : Passes (L2.CX X.prog X.w) X E) (ha : PDA X E (e :: es) ma) (hN : X.N[i]? = some y := by rfl)
    (hv : Vis X.env.scope y := by first | exact Or.inl rfl | exact Or.inr (Or.inl rfl) | exact Or.inr (Or.inr rfl)) (hdb : (y == ("__debug__" : Str)) = false := by decide) (hcd : (y == ("__classdict__" : Str)) = false := by decide)
    (he : starEach (e :: es) X.env = (false, eval e X.env) :: starEach es X.env := by rfl) (hpl : (backTo pos (starEach es X.env)).any (·.1) = false := by rfl) :
    PDE X E (.Call (.Name y p) (e :: es) [] pos) (eCallV i tb ma) := by
  refine ⟨fun pins s σ H Q I h => ?_⟩
  obtain ⟨w, μ, ρ, rfl, st, rs, q⟩ := h
  unfold eCallV at q
  split at q
  · rename_i x hx0
    split at q
    · rename_i q0 hq
      have hmem : (x, q0) ∈ tb := by
        clear q hT
        induction tb with
        | nil => cases hq
        | cons c tb ih =>
          rw [List.lookup_cons] at hq
          split at hq
          · rename_i z
            cases hq
            have : x = c.1 := by simpa using z
            rw [this]
            exact .head _
          · exact .tail _ (ih hq)
      obtain ⟨b, hb, fd, ps, h1, h2, h3⟩ := hT _ hmem
      obtain ⟨v, h4, h5⟩ := rs.get hx0
      simp only [Rep] at h5
      obtain ⟨b', rfl, h6⟩ := h5
      rw [hb] at h6
      cases h6
      refine (pe_callL (i := i) (dvs := []) (E := E) h1 hr hN hv h3 h2 .nil hx ha hdb hcd he hpl).run pins s σ w.H Q I ⟨h4, ?_⟩
      have t : tE X.K X.mg E (eCall q0.2 q0.1 ma) σ w.H Q := ⟨w, μ, ρ, rfl, st, rs, q⟩
      obtain ⟨w2, μ2, ρ2, e2, s2, r2, q2⟩ := tG_call t
      refine ⟨w2, μ2, ρ2, e2, s2, r2, q2.mono fun l w3 μ3 n3 q3 vs hv => ?_⟩
      show spF X.K X.mg q0.1 q0.2 (vs ++ []) w3.H Q E
      rw [List.append_nil]
      exact q3 vs hv
    · exact q.elim
  · exact q.elim
end
/-! ### facts of classes, as Bools of the written part -/
def clsB (K : PySem.W.Frag) (C : Str) : Bool := (He.Fa.cls C).ok K && (decide (PySem.W.findIn K (.ref (He.ga K C)) "__class__" = some (some (.builtin "object.__class__"))) &&
  (decide (PySem.W.specialIn K (.builtin "object.__class__") "__get__" = some (some (.builtin "getset_descriptor.__get__"))) && (decide (PySem.W.takesIn K (.builtin "object.__class__") = some true) && (decide (PySem.W.mroIn K (He.ga K C) (.type "object") = some true) &&
  (tysA.all (fun x => decide (PySem.W.kitOne K (.type x) (.ref (He.ga K C)) = some false)) && tysB.all fun x => decide (PySem.W.kitOne K (.ref (He.ga K C)) (.type x) = some false))))))
def clsFB (K : PySem.W.Frag) (cs : List Str) : Bool := cs.all (clsB K) && cs.all fun C => cs.all fun C' => decide (PySem.W.kitOne K (.ref (He.ga K C)) (.ref (He.ga K C')) = some (decide (C = C')))
theorem clsF_of {K : PySem.W.Frag} {mg : Str → Option Value} {cs : List Str} (h : clsFB K cs = true) (hg : ∀ C ∈ cs, mg C = some (.ref (He.ga K C))) : ClsF K mg cs := by
  unfold clsFB at h
  rw [Bool.and_eq_true, List.all_eq_true, List.all_eq_true] at h
  obtain ⟨h1, h2⟩ := h
  have g : ∀ C ∈ cs, _ := fun C hC => h1 C hC
  have adr : ∀ C ∈ cs, ∀ Ca, mg C = some (.ref Ca) → Ca = He.ga K C := fun C hC Ca e => by
    rw [hg C hC] at e
    cases e
    rfl
  refine ⟨fun C hC => ?_, fun C hC x hx Ca e => ?_, fun C hC x hx Ca e => ?_, fun C hC C' hC' Ca Cb e e' => ?_⟩
  · have q := h1 C hC
    unfold clsB at q
    simp only [Bool.and_eq_true, decide_eq_true_eq] at q
    exact ⟨_, hg C hC, He.cls_ok q.1, q.2.1, q.2.2.1, q.2.2.2.1, q.2.2.2.2.1⟩
  · have q := h1 C hC
    unfold clsB at q
    simp only [Bool.and_eq_true, List.all_eq_true, decide_eq_true_eq] at q
    rw [adr C hC Ca e]
    exact q.2.2.2.2.2.1 x hx
  · have q := h1 C hC
    unfold clsB at q
    simp only [Bool.and_eq_true, List.all_eq_true, decide_eq_true_eq] at q
    rw [adr C hC Ca e]
    exact q.2.2.2.2.2.2 x hx
  · have q := h2 C hC
    rw [List.all_eq_true] at q
    rw [adr C hC Ca e, adr C' hC' Cb e']
    exact of_decide_eq_true (q C' hC')
def fldB (K : PySem.W.Frag) (f : Str) (cs : List Str) : Bool := cs.all fun C => (He.Fa.cls C).ok K && (He.Fa.noat C f).ok K
theorem fld_of {K : PySem.W.Frag} {mg : Str → Option Value} {f : Str} {cs : List Str} (h : fldB K f cs = true) (hg : ∀ C ∈ cs, mg C = some (.ref (He.ga K C))) : FldOk K mg f cs := fun C hC Ca e => by
  rw [hg C hC] at e
  cases e
  have q := List.all_eq_true.mp h C hC
  rw [Bool.and_eq_true] at q
  exact ⟨He.cls_ok q.1, He.noat_ok q.2⟩
/-! ### exceptions -/
def oexB (K : PySem.W.Frag) (C : Addr) : Bool := (match K.lookup C with
  | some ⟨.type "type", _, .cls cd, sl⟩ => (match cd.mro, sl.toList with
    | .ref C' :: bm, [_, _, _, _, some (.builtin n), _] => C' == C && n == "ValueError.__new__" && !cd.hasDel && cd.hasDict && PySem.HandSPX.refsVE bm
    | _, _ => false)
  | _ => false) && (decide (PySem.W.findIn K (.ref C) "__setattr__" = some (some (.builtin "object.__setattr__"))) && (decide (PySem.W.subIn K (.ref C) (.type "BaseException") = some true) &&
  (decide (PySem.W.typeIn K (.ref C) = some (.type "type")) && PySem.W.keepIn K (.ref C))))
theorem oex_of {K : PySem.W.Frag} {C : Addr} (h : oexB K C = true) : OexC K C := by
  unfold oexB at h
  simp only [Bool.and_eq_true, decide_eq_true_eq] at h
  obtain ⟨q, h2, h3, h4, h5⟩ := h
  refine ⟨?_, h2, h3, h4, h5⟩
  split at q
  · rename_i dd cd sl ho
    split at q
    · rename_i C' bm k0 k1 k2 k3 n k5 hm hs
      simp only [Bool.and_eq_true, beq_iff_eq, Bool.not_eq_true'] at q
      obtain ⟨⟨⟨⟨rfl, rfl⟩, hdel⟩, hdt⟩, ht⟩ := q
      obtain ⟨nm, bs, mro, nsA, qn, hd, sn, sub, ab, col, del⟩ := cd
      dsimp only at hm hdel hdt
      subst hm hdel hdt
      obtain ⟨sl⟩ := sl
      dsimp only at hs
      subst hs
      exact ⟨nm, qn, nsA, bs, bm, sn, sub, ab, col, dd, k0, k1, k2, k3, k5, ho, ht⟩
    · cases q
  · cases q
/-- an exception class that is raised: its __init__ is the common one -/
def excB (K : PySem.W.Frag) (root C : Str) : Bool := oexB K (He.ga K C) && (decide (PySem.W.findIn K (.ref (He.ga K C)) "value" = some none) && (decide (PySem.W.findIn K (.ref (He.ga K C)) "__init__" = some (some (.ref (He.fAd K (root, some "__init__"))))) &&
  decide (PySem.W.typeIn K (.ref (He.fAd K (root, some "__init__"))) = some (.type "function"))))
structure ExcK (K : PySem.W.Frag) (mg : Str → Option Value) (C : Str) (fI : Addr) : Prop where
  g : mg C = some (.ref (He.ga K C))
  t : OexC K (He.ga K C)
  nv : PySem.W.findIn K (.ref (He.ga K C)) "value" = some none
  ini : PySem.W.findIn K (.ref (He.ga K C)) "__init__" = some (some (.ref fI))
  ty : PySem.W.typeIn K (.ref fI) = some (.type "function")
theorem exc_of {K : PySem.W.Frag} {mg : Str → Option Value} {root C : Str} (h : excB K root C = true) (hg : mg C = some (.ref (He.ga K C))) : ExcK K mg C (He.fAd K (root, some "__init__")) := by
  unfold excB at h
  simp only [Bool.and_eq_true, decide_eq_true_eq] at h
  exact ⟨hg, oex_of h.1, h.2.1, h.2.2.1, h.2.2.2⟩
section
variable {X : Cx} {E : XK}
/-- raise C(e) in a def -/
theorem pd_raiseK {x : Str} {fI : Addr} {fd : FuncData} {ps : List Str} {e : Expr} {m : ME} {k : Nat} {p pos pos' : Pos} (hcalm : X.calm = true) (tk : Takes X (fun c d _ H => E c d H)) (T : ExcK X.K X.mg x fI) (F1 : FnOk X.prog X.w X.K X.mg X.base (L2.CX X.prog X.w) k fI fd ps (spExc X.K)) (hb : Binds X.K fd ps []) (hr : Room (k + 1) X.A) (hg : Gl X x)
    (ha : PDE X E e m) (hs : starEach [e] X.env = (false, eval e X.env) :: starEach [] X.env := by rfl) (hdb : (x == ("__debug__" : Str)) = false := by decide) :
    PDS X E (.Raise (some (.Call (.Name x p) [e] [] pos)) none pos') (sRaise x m) := pd_raise (hx0 := ps_noX) hcalm tk ⟨T.g, T.t, T.nv⟩ T.ini T.ty F1 hr hb hg ha hs hdb
end
def refB (K : PySem.W.Frag) (l : RefL) : Bool := l.all (fun q => xfB K (He.ga K q.1) && decide (PySem.W.findIn K (.ref (He.ga K q.1)) "value" = some none)) &&
  l.all fun q => l.all fun r => decide (PySem.W.exmOne K (.ref (He.ga K q.1)) (.ref (He.ga K r.1)) = some (decide (q.1 = r.1)))
theorem ref_of {K : PySem.W.Frag} {mg : Str → Option Value} {l : RefL} (h : refB K l = true) (hg : ∀ q ∈ l, mg q.1 = some (.ref (He.ga K q.1))) : RefF K mg l (He.ga K) := by
  unfold refB at h
  rw [Bool.and_eq_true, List.all_eq_true, List.all_eq_true] at h
  refine ⟨hg, fun q hq => ?_, fun q hq => ?_, fun q hq r hr => ?_⟩
  · have z := h.1 q hq
    rw [Bool.and_eq_true] at z
    exact xfB_ok z.1
  · have z := h.1 q hq
    rw [Bool.and_eq_true] at z
    exact of_decide_eq_true z.2
  · exact of_decide_eq_true (List.all_eq_true.mp (h.2 q hq) r hr)
theorem Room.u (k : Nat) {A : Around} {j : Nat} (r : Room k A) (h : j ≤ 200 := by decide) : A.units + j < cLine := by
  have := r.un
  omega
end MP

/-! what the printed texts lean on -/
namespace MP
open PySem PySem.Spec L2
open LamX (TabB LamS lamCx lamEnv)
theorem bo_len : bootBuiltins "len" = some (.builtin "len") := by decide +kernel
theorem bo_min : bootBuiltins "min" = some (.builtin "min") := by decide +kernel
theorem bo_all : bootBuiltins "all" = some (.builtin "all") := by decide +kernel
theorem bo_any : bootBuiltins "any" = some (.builtin "any") := by decide +kernel
theorem bo_sum : bootBuiltins "sum" = some (.builtin "sum") := by decide +kernel
theorem bo_sorted : bootBuiltins "sorted" = some (.builtin "sorted") := by decide +kernel
theorem bo_repr : bootBuiltins "repr" = some (.builtin "repr") := by decide +kernel
theorem bo_int : bootBuiltins "int" = some (.type "int") := by decide +kernel
theorem bo_bool : bootBuiltins "bool" = some (.type "bool") := by decide +kernel
theorem bo_str : bootBuiltins "str" = some (.type "str") := by decide +kernel
theorem bo_tuple : bootBuiltins "tuple" = some (.type "tuple") := by decide +kernel
theorem bo_list : bootBuiltins "list" = some (.type "list") := by decide +kernel
theorem bo_dict : bootBuiltins "dict" = some (.type "dict") := by decide +kernel
theorem bo_set : bootBuiltins "set" = some (.type "set") := by decide +kernel
/-- the def of errors takes two, its default stays away -/
theorem excBinds {K : PySem.W.Frag} {qual : Str} {params : Arguments} {body : List Stmt} {scope : Scope} {f : Addr} {fd : FuncData} (F : FunD K "__init__" qual params body scope [.non] [] f fd)
    (h : ∀ (T : Addr) (kV doc pm : Value) (an : Option Addr) (cdv ct : Value) (us its : List Value), us.length = 2 → its.length = 1 →
      ∃ k, bindArgs (PySem.W.fnOf "__init__" qual params body scope (.ref T) kV doc pm an cdv ct) ⟨us, []⟩ = seqItems? (.ref T) >>= k ∧ k (some its.toArray) = pure ([("self" : Str), "value"].zip (us ++ its.drop 1))) : Binds K fd ["self", "value"] [] := by
  obtain ⟨ds, h1, h2⟩ := FunD.binds1 (ps := ["self", "value"]) F 2 1 (by simp) rfl h
  cases h1
  exact h2
section
variable [Tb]
variable {X : Cx} {E : XK}
theorem refH_nil : RefH [] [] := .nil
theorem pd_refK {x : Str} {fa c P : Addr} {fd : FuncData} {k : Nat} {pg : Arguments} {bg : List Stmt} {sg : Scope} {params : Arguments} {body : Expr} {scope : Scope} {m : ME} {p lpos pos : Pos}
    {hd : ExceptHandler} {hs : List ExceptHandler} {l : RefL} {j k1 k2 : Nat} {p1 p2 p3 p4 p5 p6 p7 p8 : Pos} (G : FunD X.K x x pg bg sg [] [] fa fd) (hbg : bg = [.Try [.Expr (.Call (.Name "ask" p1) [] [] p2) p3] (hd :: hs) [] [] p4, .Return (some (.Tuple [.Constant (.str "") j p5, .Constant .none k1 p6] k2 p7)) p8])
    (hh : RefH (hd :: hs) l) (Sg : FnScope ["ask", "e"] ["ask"] sg) (hva : Vis sg "ask") (hls : sg.names.lookup ("e" : Str) = some .local) (hgl : ∀ q ∈ l, sg.names.lookup q.1 = some .globalImplicit) (hdb : ∀ q ∈ l, (q.1 == ("__debug__" : Str)) = false)
    (hat : ∀ (cdv : Value) (L : Addr) (p : Pos), attributeBase (.Name "e" p) "value" (PyProof.Rows.envOfC x sg L fa cdv) (eval (.Name "e" p) (PyProof.Rows.envOfC x sg L fa cdv)) = eval (.Name "e" p) (PyProof.Rows.envOfC x sg L fa cdv))
    (hbb : ∀ (kV doc pm : Value) (an : Option Addr) (cdv ct : Value) (us : List Value), us.length = 1 → bindArgs (PySem.W.fnOf x x pg bg sg .none kV doc pm an cdv ct) ⟨us, []⟩ = pure ([("ask" : Str)].zip us))
    (F : RefF X.K X.mg l (He.ga X.K)) (hg : Gl X x) (hm : X.mg x = some (.ref fa))
    (TB : TabB X.base X.mg c P) (hcode : X.env.code = .ref c) (hmT : (P, X.env.qual ++ "<lambda>") ∈ Tb.T) (hu : ∀ p ∈ Tb.T, p.1 = P → p.2 = X.env.qual ++ "<lambda>") (hr : Room (k + 2) X.A) (L : LamS X.env.scope scope) (hdef : defaultsOf params X.env = ([], []))
    (hbind : ∀ (q : Str) (cl : List (Str × Addr)) (pm cv ctv : Value), bindArgs (PySem.W.kla_fn "<lambda>" q params body scope cl pm cv ctv) ⟨[], []⟩ = pure [])
    (he : ∀ (A : Around) (outer : List Env) (s : Shared) (H : Hp) (E' : XK) (f c' : Addr), Room k (A.deeper (lamEnv X scope s.heap.objs.size f c')) → PDE (lamCx X A outer s H E' scope f c') E' body m) (hdx : (x == ("__debug__" : Str)) = false := by decide) :
    PDE X E (.Call (.Name x p) [.Lambda params body scope lpos] [] pos) (eRef l m) := by
  subst hbg
  have B := G.bindsN (ps := ["ask"]) fun kV doc pm an cdv ct us hl => hbb kV doc pm an cdv ct us hl
  obtain ⟨oc, od, dV, kV, doc, pm, an, cdv, ct, osl, rfl, lk, hcd, _, _⟩ := G.ex
  exact pd_ref hh F hg hm G.kp lk hcd B Sg hva hls hgl hdb (hat cdv) TB hcode hmT hu hr L hdef hbind he hdx
end
section
variable [Tb]
variable {X : Cx} {E : XK}
/-- a, b, c = e, f, g: three local names -/
def sPar3 (i j l : Nat) (a : MA) : MS := fun ρ μ => (a ρ μ).bind fun m μ1 => match m with
  | [x, y, z] => .ok (.nx, ((ρ.set i (some x)).set j (some y)).set l (some z)) μ1
  | _ => .stuck
theorem pd_par3 {i j o : Nat} {x y z : Str} {a b c : Expr} {m : MA} {px py pz pt pos : Pos} {kt k2 pt2} (hc : X.calm = true) (hN : X.N.Nodup) (hi : X.N[i]? = some x) (hj : X.N[j]? = some y) (hl : X.N[o]? = some z) (hij : i ≠ j) (hil : i ≠ o) (hjl : j ≠ o)
    (hx : X.env.scope.names.lookup x = some .local) (hy : X.env.scope.names.lookup y = some .local) (hz : X.env.scope.names.lookup z = some .local) (ha : PDA X E [a, b, c] m)
    (hw : swappedStores [.Tuple [.Name x px, .Name y py, .Name z pz] kt pt] (.Tuple [a, b, c] k2 pt2) X.env = pure (some [x, y, z])) (hs : swapsWithSole [.Tuple [.Name x px, .Name y py, .Name z pz] kt pt] (.Tuple [a, b, c] k2 pt2) pos.line X.env = pure false := by rfl) :
    PDS X E (.Assign [.Tuple [.Name x px, .Name y py, .Name z pz] kt pt] (.Tuple [a, b, c] k2 pt2) pos) (sPar3 i j o m) := (ps_par3 hc hN hi hj hl hij hil hjl hx hy hz ha hw hs).weak fun D σ H q => by
  obtain ⟨w, μ, ρ, rfl, st, rs, p⟩ := q
  refine ⟨w, μ, ρ, rfl, st, rs, (post.bind p).mono fun l w1 μ1 n1 q => ?_⟩
  intro vs hv
  match l, hv, q with
  | [], _, q => exact q.elim
  | [_], _, q => exact q.elim
  | [_, _], _, q => exact q.elim
  | [x, y, z], hv, q =>
    simp only [RepL] at hv
    obtain ⟨v1, r1, rfl, h1, v2, r2, rfl, h2, v3, r3, rfl, h3, rfl⟩ := hv
    exact ⟨v1, v2, v3, rfl, q w1 (.refl n1.st) _ ((((rs.mono n1.ext n1.pre).set i (o := some x) (x := some v1) h1).set j (o := some y) (x := some v2) h2).set o (o := some z) (x := some v3) h3)⟩
  | _ :: _ :: _ :: _ :: _, _, q => exact q.elim
end
end MP

/-! plain: what a shallow program gives -/
namespace MP
open PySem PySem.Spec L2
/-- r is a value, and P holds of it -/
def Wr {β : Type} (r : R β) (P : β → Mu → Prop) : Prop := match r with
  | .ok x μ => P x μ
  | _ => False
section
variable {β γ : Type} {r : R β} {P : β → Mu → Prop}
theorem Wr_ok {x : β} {μ : Mu} : Wr (.ok x μ) P ↔ P x μ := Iff.rfl
theorem Wr_stuck : Wr (.stuck : R β) P ↔ False := Iff.rfl
theorem Wr_exc {c : Str} {x : D} {μ : Mu} : Wr (.exc c x μ : R β) P ↔ False := Iff.rfl
theorem Wr_bind {f : β → Mu → R γ} {P : γ → Mu → Prop} : Wr (r.bind f) P ↔ Wr r fun x μ => Wr (f x μ) P := by cases r <;> exact Iff.rfl
theorem Wr_lift {o : Option β} {μ : Mu} : Wr (lift o μ) P ↔ ∃ x, o = some x ∧ P x μ := by
  cases o with
  | none => exact ⟨fun h => h.elim, fun ⟨_, h, _⟩ => nomatch h⟩
  | some x => exact ⟨fun h => ⟨x, rfl, h⟩, fun ⟨y, h, q⟩ => by cases h; exact q⟩
theorem Wr_some {x : β} {μ : Mu} : Wr (lift (some x) μ) P ↔ P x μ := Iff.rfl
theorem Wr_nox : Wr (noX r) P ↔ Wr r P := by cases r <;> exact Iff.rfl
theorem Wr_ite {c : Prop} [Decidable c] {a b : R β} : Wr (if c then a else b) P ↔ if c then Wr a P else Wr b P := by split <;> exact Iff.rfl
theorem Wr.mono {P' : β → Mu → Prop} (h : Wr r P) (f : ∀ x μ, P x μ → P' x μ) : Wr r P' := by
  cases r with
  | ok x μ => exact f x μ h
  | _ => exact h
theorem Wr.get (h : Wr r P) : ∃ x μ, r = .ok x μ ∧ P x μ := by
  cases r with
  | ok x μ => exact ⟨x, μ, rfl, h⟩
  | _ => exact h.elim
end
/-! ### handles let go -/
def closed (μ : Mu) : Prop := noPtrMu μ.length μ = true
theorem trunc_same {d : D} {μ : Mu} : truncD μ.length (.ok d μ) = .ok d μ := by
  unfold truncD
  simp
theorem trunc_sameE {c : Str} {d : D} {μ : Mu} : truncD μ.length (.exc c d μ) = .exc c d μ := by
  unfold truncD
  simp
theorem trunc_len {n : Nat} {d : D} {μ : Mu} (h : μ.length = n) : truncD n (.ok d μ) = .ok d μ := by
  subst h
  exact trunc_same
theorem trunc_lenE {n : Nat} {c : Str} {d : D} {μ : Mu} (h : μ.length = n) : truncD n (.exc c d μ) = .exc c d μ := by
  subst h
  exact trunc_sameE
theorem trunc_drop {n : Nat} {d : D} {μ t : Mu} (h : μ.length = n) (hd : noPtr n d = true) (hm : noPtrMu n μ = true) : truncD n (.ok d (μ ++ t)) = .ok d μ := by
  have e : noPtrMu n (μ ++ t) = true := by
    unfold noPtrMu at hm ⊢
    rw [List.take_append_of_le_length (Nat.le_of_eq h.symm)]
    exact hm
  simp only [truncD, hd, e, Bool.and_self, if_true]
  simp [← h]
theorem trunc_dropE {n : Nat} {c : Str} {d : D} {μ t : Mu} (h : μ.length = n) (hd : noPtr n d = true) (hm : noPtrMu n μ = true) : truncD n (.exc c d (μ ++ t)) = .exc c d μ := by
  have e : noPtrMu n (μ ++ t) = true := by
    unfold noPtrMu at hm ⊢
    rw [List.take_append_of_le_length (Nat.le_of_eq h.symm)]
    exact hm
  simp only [truncD, hd, e, Bool.and_self, if_true]
  simp [← h]
/-- a def's call gives d and leaves μ' (of the length of μ) -/
theorem call_ok {f : MF} {l : List D} {μ μ' : Mu} {d : D} (h : f l μ = .ok d μ') (e : μ'.length = μ.length) : callF f l μ = .ok d μ' := by
  unfold callF
  rw [h]
  exact trunc_len e
theorem call_drop {f : MF} {l : List D} {μ μ' t : Mu} {d : D} (h : f l μ = .ok d (μ' ++ t)) (e : μ'.length = μ.length) (hd : noPtr μ.length d = true) (hm : closed μ') : callF f l μ = .ok d μ' := by
  unfold callF
  rw [h]
  refine trunc_drop e hd ?_
  rw [← e]
  exact hm
theorem call_exc {f : MF} {l : List D} {μ μ' : Mu} {c : Str} {d : D} (h : f l μ = .exc c d μ') (e : μ'.length = μ.length) : callF f l μ = .exc c d μ' := by
  unfold callF
  rw [h]
  exact trunc_lenE e
theorem call_excDrop {f : MF} {l : List D} {μ μ' t : Mu} {c : Str} {d : D} (h : f l μ = .exc c d (μ' ++ t)) (e : μ'.length = μ.length) (hd : noPtr μ.length d = true) (hm : closed μ') : callF f l μ = .exc c d μ' := by
  unfold callF
  rw [h]
  refine trunc_dropE e hd ?_
  rw [← e]
  exact hm
/-! ### loops -/
theorem Wr_loop {l : List D} {g : MG} {b : MS} {P : Fl × Rho → Mu → Prop} (Inv : Nat → Rho → Mu → Prop)
    (step : ∀ (i : Nat) (x : D) (ρ : Rho) (μ : Mu), l[i]? = some x → Inv i ρ μ → Wr (g x ρ μ) fun ρ1 μ1 => Wr (b ρ1 μ1) fun r μ2 => match r.1 with
      | .nx => Inv (i + 1) r.2 μ2
      | .ct => Inv (i + 1) r.2 μ2
      | .bk => P (.nx, r.2) μ2
      | .rt d => P (.rt d, r.2) μ2)
    (fin : ∀ (ρ : Rho) (μ : Mu), Inv l.length ρ μ → P (.nx, ρ) μ) : ∀ (n i : Nat) (ρ : Rho) (μ : Mu), i + n = l.length → Inv i ρ μ → Wr (loopN (fun _ => some l) g b n i ρ μ) P
  | 0, i, ρ, μ, hi, h => by
    have hi : i = l.length := hi
    unfold loopN
    simp only [hi, if_true]
    exact fin ρ μ (hi ▸ h)
  | n + 1, i, ρ, μ, hi, h => by
    have hlt : i < l.length := by omega
    have hx : l[i]? = some l[i] := List.getElem?_eq_getElem hlt
    unfold loopN
    simp only [Option.bind_some, hx]
    rw [Wr_bind]
    refine (step i _ ρ μ hx h).mono fun ρ1 μ1 h1 => ?_
    rw [Wr_bind]
    refine h1.mono fun r μ2 h2 => ?_
    obtain ⟨f, ρ2⟩ := r
    cases f with
    | nx => exact Wr_loop Inv step fin n (i + 1) ρ2 μ2 (by omega) h2
    | ct => exact Wr_loop Inv step fin n (i + 1) ρ2 μ2 (by omega) h2
    | bk => exact h2
    | rt d => exact h2
/-- a comprehension over a row that stays: each item is kept or not, and gives a value; μ may change -/
theorem Wr_lc {l : List D} {g : MG} {t : MT} {e : ME} {ρ : Rho} {P : List D → Mu → Prop} (Inv : Nat → List D → Mu → Prop)
    (step : ∀ (i : Nat) (x : D) (acc : List D) (μ : Mu), l[i]? = some x → Inv i acc μ → Wr (g x ρ μ) fun ρ1 μ1 => Wr (t ρ1 μ1) fun k μ2 => if k = true then Wr (e ρ1 μ2) fun y μ3 => Inv (i + 1) (acc ++ [y]) μ3 else Inv (i + 1) acc μ2)
    (fin : ∀ (acc : List D) (μ : Mu), Inv l.length acc μ → P acc μ) : ∀ (n i : Nat) (acc : List D) (μ : Mu), i + n = l.length → Inv i acc μ → Wr (lcN (fun _ => some l) g t e ρ n i acc μ) P
  | 0, i, acc, μ, hi, h => by
    have hi : i = l.length := hi
    unfold lcN
    simp only [hi, if_true]
    exact fin acc μ (hi ▸ h)
  | n + 1, i, acc, μ, hi, h => by
    have hlt : i < l.length := by omega
    have hx : l[i]? = some l[i] := List.getElem?_eq_getElem hlt
    unfold lcN
    simp only [Option.bind_some, hx]
    rw [Wr_bind, Wr_nox]
    refine (step i _ acc μ hx h).mono fun ρ1 μ1 h1 => ?_
    rw [Wr_bind, Wr_nox]
    refine h1.mono fun k μ2 h2 => ?_
    cases k with
    | true =>
      rw [if_pos rfl] at h2 ⊢
      rw [Wr_bind, Wr_nox]
      exact h2.mono fun y μ3 h3 => Wr_lc Inv step fin n (i + 1) _ μ3 (by omega) h3
    | false =>
      rw [if_neg (by decide)] at h2 ⊢
      exact Wr_lc Inv step fin n (i + 1) acc μ2 (by omega) h2
/-- .. where nothing changes -/
theorem lc_pure {l : List D} {g : MG} {t : MT} {e : ME} {ρ : Rho} {μ : Mu} (f : D → Bool) (v : D → D)
    (step : ∀ x ∈ l, ∃ ρ1, g x ρ μ = .ok ρ1 μ ∧ t ρ1 μ = .ok (f x) μ ∧ (f x = true → e ρ1 μ = .ok (v x) μ)) : ∀ (n i : Nat) (acc : List D), i + n = l.length → lcN (fun _ => some l) g t e ρ n i acc μ = .ok (acc ++ ((l.drop i).filter f).map v) μ
  | 0, i, acc, hi => by
    have hi : i = l.length := hi
    unfold lcN
    simp [hi]
  | n + 1, i, acc, hi => by
    have hlt : i < l.length := by omega
    have hx : l[i]? = some l[i] := List.getElem?_eq_getElem hlt
    obtain ⟨ρ1, h1, h2, h3⟩ := step l[i] (List.getElem_mem hlt)
    unfold lcN
    simp only [Option.bind_some, hx, h1, noX, R.bind_ok, h2]
    rw [List.drop_eq_getElem_cons hlt]
    cases hf : f l[i] with
    | true =>
      simp only [h3 hf, noX, R.bind_ok, if_true, List.filter_cons, hf, List.map_cons]
      rw [lc_pure f v step n (i + 1) (acc ++ [v l[i]]) (by omega)]
      simp
    | false =>
      simp only [List.filter_cons, hf]
      rw [if_neg (by decide), lc_pure f v step n (i + 1) acc (by omega)]
      simp
theorem lcRun_pure {l : List D} {it : MI} {vs : List Nat} {g : MG} {t : MT} {e : ME} {ρ : Rho} {μ : Mu} (f : D → Bool) (v : D → D) (hi : it ρ μ = .ok (fun _ => some l) μ) (hl : l.length ≤ sizeLine)
    (step : ∀ x ∈ l, ∃ ρ1, g x (wipeR ρ vs) μ = .ok ρ1 μ ∧ t ρ1 μ = .ok (f x) μ ∧ (f x = true → e ρ1 μ = .ok (v x) μ)) : eLc vs it g t e ρ μ = .ok (.lst ((l.filter f).map v)) μ := by
  unfold eLc lcRun
  rw [hi]
  simp only [R.bind_ok, if_pos hl]
  rw [lc_pure f v step l.length 0 [] (by omega)]
  simp [R.bind]
end MP

/-! plain: texts of 0 and 1 -/
namespace MP
open PySem PySem.Spec L2
def bitN (b : Bool) : Nat := if b then 49 else 48
/-- a row of bits as a text -/
def S (b : List Bool) : Str := ⟨(b.map bitN).toArray⟩
theorem S_cps (b : List Bool) : (S b).cps.toList = b.map bitN := by simp [S]
theorem S_len (b : List Bool) : (S b).length = b.length := by simp [S, Str.length]
theorem str_ext {x y : Str} (h : x.cps.toList = y.cps.toList) : x = y := by
  cases x
  cases y
  simp only [Str.mk.injEq]
  exact Array.toList_inj.mp h
theorem app_cps (x y : Str) : (x ++ y).cps.toList = x.cps.toList ++ y.cps.toList := by
  show (Str.append x y).cps.toList = _
  simp [Str.append]
theorem S_app (a b : List Bool) : S a ++ S b = S (a ++ b) := str_ext (by rw [app_cps, S_cps, S_cps, S_cps, List.map_append])
theorem S_nil : ("" : Str) = S [] := by decide
theorem S_zero : ("0" : Str) = S [false] := by decide
theorem S_one : ("1" : Str) = S [true] := by decide
theorem bitN_inj {a b : Bool} (h : bitN a = bitN b) : a = b := by cases a <;> cases b <;> first | rfl | cases h
theorem S_inj {a b : List Bool} (h : S a = S b) : a = b := by
  have e : a.map bitN = b.map bitN := by rw [← S_cps, ← S_cps, h]
  exact (List.map_inj_right fun x y z => bitN_inj z).mp e
theorem S_eq (a b : List Bool) : (S a = S b) = (a = b) := propext ⟨S_inj, fun h => by rw [h]⟩
theorem S_take (b : List Bool) (k : Nat) : cutS (S b) none (some (k : Int)) = S (b.take k) := by
  apply str_ext
  unfold cutS
  rw [HT.sIx_none, HT.sIx_nat, S_len]
  simp only [List.drop_zero, Nat.sub_zero]
  rw [S_cps, S_cps, List.map_take, ← List.length_map (f := bitN), List.take_eq_take_iff]
  omega
theorem S_rep (n : Int) : repS (S [false]) n = S (List.replicate n.toNat false) := by
  apply str_ext
  unfold repS
  rw [S_cps, S_cps]
  simp only [List.map_cons, List.map_nil, List.map_replicate]
  generalize n.toNat = k
  induction k with
  | zero => rfl
  | succ k ih => simp [List.replicate_succ, ih]
/-- the texts' order -/
def bLt : List Bool → List Bool → Bool
  | [], [] => false
  | [], _ :: _ => true
  | _ :: _, [] => false
  | a :: l, b :: m => (!a && b) || (a == b && bLt l m)
theorem S_lt : ∀ a b : List Bool, strLt (S a) (S b) = bLt a b := by
  intro a b
  unfold strLt
  rw [S_cps, S_cps]
  induction a generalizing b with
  | nil => cases b <;> simp [bLt]
  | cons x a ih =>
    cases b with
    | nil => simp [bLt]
    | cons y b =>
      have ih := ih b
      simp only [List.map_cons, bLt, List.cons_lt_cons_iff]
      rw [← ih]
      cases x <;> cases y <;> simp [bitN]
/-! keys -/
abbrev kS (b : List Bool) : Key := .inr (S b)
theorem kS_inj {a b : List Bool} : (kS a = kS b) = (a = b) := by
  simp only [kS, Sum.inr.injEq, S_eq]
theorem dKey_S (b : List Bool) : dKey (kS b) = .str (S b) := rfl
end MP

/-! plain: blocks and what is free among them -/
namespace MP
abbrev Bits := List Bool
def begun (B : List Bits) (p : Bits) : Bool := B.any fun b => p.isPrefixOf b && decide (p ≠ b)
theorem begun_iff {B : List Bits} {p : Bits} : begun B p = true ↔ ∃ b ∈ B, p <+: b ∧ p ≠ b := by
  unfold begun
  simp [List.any_eq_true, List.isPrefixOf_iff_prefix]
def freeL (B : List Bits) : Nat → Bits → List Bits
  | 0, _ => []
  | n + 1, p => if p ∈ B then [] else if begun B p = true then freeL B n (p ++ [false]) ++ freeL B n (p ++ [true]) else [p]
structure IsFree (B : List Bits) (p x : Bits) : Prop where
  pre : p <+: x
  no : ∀ q, p <+: q → q <+: x → q ∉ B
  nb : begun B x = false
  up : ∀ q, p <+: q → q <+: x → q ≠ x → begun B q = true
theorem pre_snoc {p x : Bits} (h : p <+: x) (hne : p ≠ x) : p ++ [false] <+: x ∨ p ++ [true] <+: x := by
  obtain ⟨t, rfl⟩ := h
  cases t with
  | nil => simp at hne
  | cons c t =>
    cases c
    · exact .inl ⟨t, by simp⟩
    · exact .inr ⟨t, by simp⟩
theorem snoc_pre {p x : Bits} {c : Bool} (h : p ++ [c] <+: x) : p <+: x ∧ p ≠ x := by
  obtain ⟨t, rfl⟩ := h
  refine ⟨⟨c :: t, by simp⟩, fun e => ?_⟩
  have := congrArg List.length e
  simp at this
theorem snoc_ne {p x : Bits} (h0 : p ++ [false] <+: x) (h1 : p ++ [true] <+: x) : False := by
  obtain ⟨t, rfl⟩ := h0
  obtain ⟨u, e⟩ := h1
  simp only [List.append_assoc, List.append_cancel_left_eq, List.cons_append, List.nil_append, List.cons.injEq] at e
  exact absurd e.1 (by decide)
theorem pre_between {p q x : Bits} {c : Bool} (h : p <+: q) (hne : q ≠ p) (hq : q <+: x) (hx : p ++ [c] <+: x) : p ++ [c] <+: q := by
  rcases pre_snoc h (fun e => hne e.symm) with h1 | h1
  · cases c with
    | false => exact h1
    | true => exact (snoc_ne (h1.trans hq) hx).elim
  · cases c with
    | true => exact h1
    | false => exact (snoc_ne hx (h1.trans hq)).elim
theorem free_mem {B : List Bits} {W : Nat} (hW : ∀ b ∈ B, b.length ≤ W) : ∀ (n : Nat) (p : Bits), 1 ≤ n → W < n + p.length → ∀ x, x ∈ freeL B n p ↔ IsFree B p x
  | 0, p, h, _, x => by omega
  | n + 1, p, _, h2, x => by
    unfold freeL
    by_cases hp : p ∈ B
    · rw [if_pos hp]
      refine ⟨fun h => (List.not_mem_nil h).elim, fun h => (h.no p List.prefix_rfl h.pre hp).elim⟩
    · rw [if_neg hp]
      by_cases hb : begun B p = true
      · rw [if_pos hb]
        have hlt : p.length < W := by
          obtain ⟨b, h3, h4, h5⟩ := begun_iff.mp hb
          have := hW b h3
          have h6 := h4.length_le
          have : p.length ≠ b.length := fun e => h5 (h4.eq_of_length e)
          omega
        have ih : ∀ c, x ∈ freeL B n (p ++ [c]) ↔ IsFree B (p ++ [c]) x := fun c => free_mem hW n (p ++ [c]) (by omega) (by simp; omega) x
        rw [List.mem_append, ih, ih]
        have one : ∀ c, IsFree B (p ++ [c]) x → IsFree B p x := fun c h => by
          obtain ⟨h3, h4⟩ := snoc_pre h.pre
          refine ⟨h3, fun q q1 q2 => ?_, h.nb, fun q q1 q2 q3 => ?_⟩
          · by_cases e : q = p
            · rw [e]
              exact hp
            · exact h.no q (pre_between q1 e q2 h.pre) q2
          · by_cases e : q = p
            · rw [e]
              exact hb
            · exact h.up q (pre_between q1 e q2 h.pre) q2 q3
        constructor
        · rintro (h | h)
          · exact one _ h
          · exact one _ h
        · intro h
          have hne : p ≠ x := fun e => by
            have := h.nb
            rw [← e, hb] at this
            cases this
          have back : ∀ c, p ++ [c] <+: x → IsFree B (p ++ [c]) x := fun c hc =>
            ⟨hc, fun q q1 q2 => h.no q ((snoc_pre q1).1) q2, h.nb, fun q q1 q2 q3 => h.up q ((snoc_pre q1).1) q2 q3⟩
          rcases pre_snoc h.pre hne with h3 | h3
          · exact .inl (back _ h3)
          · exact .inr (back _ h3)
      · rw [if_neg hb]
        have hb' : begun B p = false := by
          cases e : begun B p with
          | false => rfl
          | true => exact absurd e hb
        rw [List.mem_singleton]
        refine ⟨fun e => ?_, fun h => ?_⟩
        · subst e
          refine ⟨List.prefix_rfl, fun q q1 q2 => ?_, hb', fun q q1 q2 q3 => ?_⟩
          · rw [q2.eq_of_length (Nat.le_antisymm q2.length_le q1.length_le)]
            exact hp
          · exact (q3 (q2.eq_of_length (Nat.le_antisymm q2.length_le q1.length_le))).elim
        · refine Classical.byContradiction fun hne => ?_
          have := h.up p List.prefix_rfl h.pre (fun e => hne e.symm)
          rw [hb'] at this
          cases this
theorem free_nodup {B : List Bits} {W : Nat} (hW : ∀ b ∈ B, b.length ≤ W) : ∀ (n : Nat) (p : Bits), 1 ≤ n → W < n + p.length → (freeL B n p).Nodup
  | 0, p, h, _ => by omega
  | n + 1, p, _, h2 => by
    unfold freeL
    by_cases hp : p ∈ B
    · rw [if_pos hp]
      exact List.nodup_nil
    · rw [if_neg hp]
      by_cases hb : begun B p = true
      · rw [if_pos hb]
        have hlt : p.length < W := by
          obtain ⟨b, h3, h4, h5⟩ := begun_iff.mp hb
          have := hW b h3
          have h6 := h4.length_le
          have : p.length ≠ b.length := fun e => h5 (h4.eq_of_length e)
          omega
        have ih : ∀ c, (freeL B n (p ++ [c])).Nodup := fun c => free_nodup hW n (p ++ [c]) (by omega) (by simp; omega)
        have im : ∀ c x, x ∈ freeL B n (p ++ [c]) → IsFree B (p ++ [c]) x := fun c x => (free_mem hW n (p ++ [c]) (by omega) (by simp; omega) x).mp
        rw [List.nodup_append]
        refine ⟨ih _, ih _, fun a ha b hb e => ?_⟩
        subst e
        exact snoc_ne (im _ _ ha).pre (im _ _ hb).pre
      · rw [if_neg hb]
        exact List.nodup_cons.mpr ⟨List.not_mem_nil, List.nodup_nil⟩
/-! ### sums -/
def wt (W : Nat) (x : Bits) : Nat := 2 ^ (W - x.length)
def wts (W : Nat) (l : List Bits) : Nat := (l.map (wt W)).sum
def anti (B : List Bits) : Prop := ∀ a ∈ B, ∀ b ∈ B, a <+: b → a = b
theorem wts_app (W : Nat) (l m : List Bits) : wts W (l ++ m) = wts W l + wts W m := by
  unfold wts
  rw [List.map_append, List.sum_append]
theorem wts_perm {W : Nat} {l m : List Bits} (h : l.Perm m) : wts W l = wts W m := by
  unfold wts
  induction h with
  | nil => rfl
  | cons x _ ih => simp only [List.map_cons, List.sum_cons, ih]
  | swap x y l => simp only [List.map_cons, List.sum_cons]; omega
  | trans _ _ i1 i2 => exact i1.trans i2
theorem wts_split (W : Nat) (f g : Bits → Bool) : ∀ l : List Bits, (∀ x ∈ l, ¬ (f x = true ∧ g x = true)) → wts W (l.filter fun x => f x || g x) = wts W (l.filter f) + wts W (l.filter g)
  | [], _ => rfl
  | x :: l, h => by
    have ih := wts_split W f g l fun y hy => h y (List.mem_cons_of_mem _ hy)
    have hx := h x (List.mem_cons_self ..)
    simp only [List.filter_cons]
    cases hf : f x with
    | true =>
      cases hg : g x with
      | true => exact absurd ⟨hf, hg⟩ hx
      | false =>
        simp only [Bool.or_false, if_true, if_neg (show ¬ (false = true) by decide)]
        unfold wts at ih ⊢
        simp only [List.map_cons, List.sum_cons]
        omega
    | false =>
      cases hg : g x with
      | true =>
        simp only [Bool.false_or, if_true, if_neg (show ¬ (false = true) by decide)]
        unfold wts at ih ⊢
        simp only [List.map_cons, List.sum_cons]
        omega
      | false =>
        simp only [Bool.or_false, if_neg (show ¬ (false = true) by decide)]
        exact ih
theorem free_sum {B : List Bits} {W : Nat} (hW : ∀ b ∈ B, b.length ≤ W) (ha : anti B) (hn : B.Nodup) : ∀ (n : Nat) (p : Bits), 1 ≤ n → W < n + p.length → p.length ≤ W →
    wts W (freeL B n p) + wts W (B.filter fun b => p.isPrefixOf b) = 2 ^ (W - p.length)
  | 0, p, h, _, _ => by omega
  | n + 1, p, _, h2, h3 => by
    unfold freeL
    by_cases hp : p ∈ B
    · rw [if_pos hp]
      have e : B.filter (fun b => p.isPrefixOf b) = [p] := by
        have h4 : ∀ b ∈ B, p.isPrefixOf b = decide (b = p) := fun b hb => by
          rw [Bool.eq_iff_iff, List.isPrefixOf_iff_prefix, decide_eq_true_eq]
          exact ⟨fun h => (ha p hp b hb h).symm, fun h => h ▸ List.prefix_rfl⟩
        rw [List.filter_congr h4]
        have h5 : ∀ l : List Bits, l.Nodup → p ∈ l → l.filter (fun b => decide (b = p)) = [p] := by
          intro l
          induction l with
          | nil => intro _ h; cases h
          | cons a l ih =>
            intro hd hm
            rw [List.nodup_cons] at hd
            rw [List.filter_cons]
            by_cases e : a = p
            · subst e
              simp only [decide_true, if_true]
              have : l.filter (fun b => decide (b = a)) = [] := by
                rw [List.filter_eq_nil_iff]
                intro b hb hh
                rw [decide_eq_true_eq] at hh
                exact hd.1 (hh ▸ hb)
              rw [this]
            · simp only [e, decide_false, if_neg (show ¬ (false = true) by decide)]
              exact ih hd.2 ((List.mem_cons.mp hm).resolve_left fun z => e z.symm)
        exact h5 B hn hp
      rw [e]
      simp [wts, wt]
    · rw [if_neg hp]
      by_cases hb : begun B p = true
      · rw [if_pos hb]
        have hlt : p.length < W := by
          obtain ⟨b, h3, h4, h5⟩ := begun_iff.mp hb
          have := hW b h3
          have h6 := h4.length_le
          have : p.length ≠ b.length := fun e => h5 (h4.eq_of_length e)
          omega
        have ih : ∀ c, _ := fun c => free_sum hW ha hn n (p ++ [c]) (by omega) (by simp; omega) (by simp; omega)
        have i0 := ih false
        have i1 := ih true
        have e : B.filter (fun b => p.isPrefixOf b) = B.filter (fun b => (p ++ [false]).isPrefixOf b || (p ++ [true]).isPrefixOf b) := List.filter_congr fun b hb => by
          rw [Bool.eq_iff_iff, Bool.or_eq_true, List.isPrefixOf_iff_prefix, List.isPrefixOf_iff_prefix, List.isPrefixOf_iff_prefix]
          exact ⟨fun h => pre_snoc h fun z => hp (z ▸ hb), fun h => h.elim (fun h => (snoc_pre h).1) fun h => (snoc_pre h).1⟩
        rw [e, wts_split W _ _ B (fun x _ h => snoc_ne (List.isPrefixOf_iff_prefix.mp h.1) (List.isPrefixOf_iff_prefix.mp h.2)), wts_app]
        simp only [List.length_append, List.length_singleton] at i0 i1
        have : W - p.length = (W - (p.length + 1)) + 1 := by omega
        rw [this, Nat.pow_succ]
        omega
      · rw [if_neg hb]
        have e : B.filter (fun b => p.isPrefixOf b) = [] := by
          rw [List.filter_eq_nil_iff]
          intro b hb' hh
          refine hb (begun_iff.mpr ⟨b, hb', List.isPrefixOf_iff_prefix.mp hh, fun z => hp (z ▸ hb')⟩)
        rw [e]
        simp [wts, wt]
end MP

/-! plain: giving, splitting, merging blocks -/
namespace MP
abbrev Fr0 (B : List Bits) (x : Bits) : Prop := IsFree B [] x
theorem nil_pre (x : Bits) : [] <+: x := ⟨x, rfl⟩
theorem pre_cmp {a b c : Bits} (h1 : a <+: c) (h2 : b <+: c) : a <+: b ∨ b <+: a := by
  rcases Nat.le_total a.length b.length with h | h
  · exact .inl (List.prefix_of_prefix_length_le h1 h2 h)
  · exact .inr (List.prefix_of_prefix_length_le h2 h1 h)
theorem begun_app {B C : List Bits} {q : Bits} : begun (B ++ C) q = true ↔ begun B q = true ∨ begun C q = true := by
  unfold begun
  rw [List.any_append, Bool.or_eq_true]
theorem begun_one {b q : Bits} : begun [b] q = true ↔ q <+: b ∧ q ≠ b := by
  rw [begun_iff]
  simp
theorem begun_false {B : List Bits} {q : Bits} : begun B q = false ↔ ¬ begun B q = true := by
  cases begun B q <;> simp
theorem begun_down {B : List Bits} {p q : Bits} (h : p <+: q) (hb : begun B q = true) : begun B p = true := by
  obtain ⟨b, h1, h2, h3⟩ := begun_iff.mp hb
  refine begun_iff.mpr ⟨b, h1, h.trans h2, fun e => h3 ?_⟩
  subst e
  exact h2.eq_of_length (Nat.le_antisymm h2.length_le h.length_le)
theorem drop_pre {x : Bits} (h : x ≠ []) : ∃ d c, x = d ++ [c] := ⟨x.dropLast, x.getLast h, (List.dropLast_concat_getLast h).symm⟩
theorem pre_drop {q d : Bits} {c : Bool} (h : q <+: d ++ [c]) (hne : q ≠ d ++ [c]) : q <+: d := by
  have hl : q.length ≤ d.length := by
    have h1 := h.length_le
    have h2 : q.length ≠ (d ++ [c]).length := fun e => hne (h.eq_of_length e)
    simp at h1 h2
    omega
  exact List.prefix_of_prefix_length_le h ⟨[c], rfl⟩ hl
/-- what lies between f and f0..0 -/
theorem pre_zeros {f d : Bits} {k : Nat} (h1 : f <+: d) (h2 : d <+: f ++ List.replicate k false) : ∃ i, i ≤ k ∧ d = f ++ List.replicate i false := by
  obtain ⟨t, rfl⟩ := h1
  rw [List.prefix_append_right_inj] at h2
  obtain ⟨u, e⟩ := h2
  refine ⟨t.length, ?_, ?_⟩
  · have := congrArg List.length e
    simp at this
    omega
  · have : t = List.replicate t.length false := by
      rw [List.eq_replicate_iff]
      refine ⟨rfl, fun b hb => ?_⟩
      have : b ∈ List.replicate k false := by
        rw [← e]
        exact List.mem_append_left _ hb
      exact (List.mem_replicate.mp this).2
    rw [← this]
/-- what is free behind the giving of f0..0 out of f -/
theorem give_free {B : List Bits} {f x : Bits} {k : Nat} (hf : Fr0 B f) (hx : Fr0 (B ++ [f ++ List.replicate k false]) x) :
    (Fr0 B x ∧ x ≠ f) ∨ ∃ i, i < k ∧ x = f ++ List.replicate i false ++ [true] := by
  generalize hb : f ++ List.replicate k false = b at hx
  have hfb : f <+: b := ⟨_, hb⟩
  have xb : x ≠ b := fun e => hx.no x (nil_pre x) List.prefix_rfl (by rw [e]; simp)
  have nb := hx.nb
  rw [begun_false, begun_app, begun_one, not_or] at nb
  obtain ⟨nb1, nb2⟩ := nb
  have nxb : ¬ x <+: b := fun h => nb2 ⟨h, xb⟩
  by_cases hall : ∀ q, q <+: x → q ≠ x → begun B q = true
  · refine .inl ⟨⟨nil_pre x, fun q _ q2 hq => hx.no q (nil_pre q) q2 (by simp [hq]), begun_false.mpr nb1, fun q _ q2 q3 => hall q q2 q3⟩, fun e => ?_⟩
    exact nxb (e ▸ hfb)
  · right
    obtain ⟨q, hq⟩ := Classical.not_forall.mp hall
    obtain ⟨q1, hq⟩ := Classical.not_imp.mp hq
    obtain ⟨q2, q3⟩ := Classical.not_imp.mp hq
    have hq4 : q <+: b ∧ q ≠ b := by
      rcases begun_app.mp (hx.up q (nil_pre q) q1 q2) with h | h
      · exact absurd h q3
      · exact begun_one.mp h
    have hfq : f <+: q := by
      rcases pre_cmp hfb hq4.1 with h | h
      · exact h
      · by_cases e : q = f
        · rw [e]
          exact List.prefix_rfl
        · exact absurd (hf.up q (nil_pre q) h e) q3
    have hxe : x ≠ [] := fun e => by
      rw [e] at q1
      exact q2 ((List.prefix_nil.mp q1).trans e.symm)
    obtain ⟨d, c, rfl⟩ := drop_pre hxe
    have hqd := pre_drop q1 q2
    have hfd := hfq.trans hqd
    have dne : d ≠ d ++ [c] := fun e => by
      have := congrArg List.length e
      simp at this
    have nbd : ¬ begun B d = true := fun h => by
      have := begun_down hfd h
      rw [hf.nb] at this
      cases this
    have hd : d <+: b ∧ d ≠ b := by
      rcases begun_app.mp (hx.up d (nil_pre d) ⟨[c], rfl⟩ dne) with h | h
      · exact absurd h nbd
      · exact begun_one.mp h
    have hd1 := hd.1
    rw [← hb] at hd1
    obtain ⟨i, hi, rfl⟩ := pre_zeros hfd hd1
    have hik : i < k := by
      rcases Nat.lt_or_ge i k with h | h
      · exact h
      · have : i = k := by omega
        subst this
        exact absurd hb hd.2
    refine ⟨i, hik, ?_⟩
    cases c with
    | true => rfl
    | false =>
      exfalso
      refine nxb ?_
      rw [← hb, List.append_assoc, List.prefix_append_right_inj]
      refine ⟨List.replicate (k - i - 1) false, ?_⟩
      rw [List.append_assoc, show [false] ++ List.replicate (k - i - 1) false = List.replicate (k - i) false by
        rw [show k - i = (k - i - 1) + 1 by omega, List.replicate_succ]
        rfl, List.replicate_append_replicate]
      congr 1
      omega
theorem give_anti {B : List Bits} {f : Bits} {k : Nat} (ha : anti B) (hf : Fr0 B f) : anti (B ++ [f ++ List.replicate k false]) := by
  have up : ∀ a ∈ B, ¬ a <+: f ++ List.replicate k false := fun a hB h => by
    rcases pre_cmp h (⟨_, rfl⟩ : f <+: f ++ List.replicate k false) with q | q
    · exact hf.no a (nil_pre a) q hB
    · by_cases e : f = a
      · exact hf.no a (nil_pre a) (e ▸ List.prefix_rfl) hB
      · have : begun B f = true := begun_iff.mpr ⟨a, hB, q, e⟩
        rw [hf.nb] at this
        cases this
  have dn : ∀ a ∈ B, ¬ f ++ List.replicate k false <+: a := fun a hB h => by
    have h2 : f <+: a := List.IsPrefix.trans ⟨_, rfl⟩ h
    by_cases e : f = a
    · exact hf.no a (nil_pre a) (e ▸ List.prefix_rfl) hB
    · have : begun B f = true := begun_iff.mpr ⟨a, hB, h2, e⟩
      rw [hf.nb] at this
      cases this
  intro a h1 b h2 h3
  simp only [List.mem_append, List.mem_singleton] at h1 h2
  rcases h1 with h1 | rfl
  · rcases h2 with h2 | rfl
    · exact ha a h1 b h2 h3
    · exact absurd h3 (up a h1)
  · rcases h2 with h2 | rfl
    · exact absurd h3 (dn b h2)
    · rfl
theorem give_new {B : List Bits} {f : Bits} {k : Nat} (hf : Fr0 B f) : f ++ List.replicate k false ∉ B := fun h => by
  by_cases e : f = f ++ List.replicate k false
  · exact hf.no f (nil_pre f) List.prefix_rfl (e ▸ h)
  · have : begun B f = true := begun_iff.mpr ⟨_, h, ⟨_, rfl⟩, e⟩
    rw [hf.nb] at this
    cases this
/-- no two free blocks of one length -/
def apart (B : List Bits) : Prop := ∀ x y, Fr0 B x → Fr0 B y → x.length = y.length → x = y
theorem give_apart {B : List Bits} {f : Bits} {k : Nat} (hd : apart B) (hf : Fr0 B f) (hm : ∀ x, Fr0 B x → x.length ≤ f.length + k → x.length ≤ f.length) : apart (B ++ [f ++ List.replicate k false]) := by
  intro x y hx hy hl
  rcases give_free hf hx with ⟨h1, n1⟩ | ⟨i, hi, rfl⟩
  · rcases give_free hf hy with ⟨h2, n2⟩ | ⟨j, hj, rfl⟩
    · exact hd x y h1 h2 hl
    · exfalso
      simp at hl
      have := hm x h1 (by omega)
      omega
  · rcases give_free hf hy with ⟨h2, n2⟩ | ⟨j, hj, rfl⟩
    · exfalso
      simp at hl
      have := hm y h2 (by omega)
      omega
    · simp at hl
      rw [hl]
/-- the same blocks -/
theorem free_same {B C : List Bits} (h : ∀ b, b ∈ B ↔ b ∈ C) {x : Bits} (hx : Fr0 B x) : Fr0 C x := by
  have hb : ∀ q, begun B q = begun C q := fun q => by
    rw [Bool.eq_iff_iff, begun_iff, begun_iff]
    exact ⟨fun ⟨b, h1, h2⟩ => ⟨b, (h b).mp h1, h2⟩, fun ⟨b, h1, h2⟩ => ⟨b, (h b).mpr h1, h2⟩⟩
  exact ⟨hx.pre, fun q q1 q2 q3 => hx.no q q1 q2 ((h q).mpr q3), by rw [← hb]; exact hx.nb, fun q q1 q2 q3 => by rw [← hb]; exact hx.up q q1 q2 q3⟩
theorem apart_same {B C : List Bits} (h : ∀ b, b ∈ B ↔ b ∈ C) (hd : apart B) : apart C := fun x y hx hy hl => hd x y (free_same (fun b => (h b).symm) hx) (free_same (fun b => (h b).symm) hy) hl
/-- a block in two -/
def split (B : List Bits) (b : Bits) : List Bits := B.filter (fun a => decide (a ≠ b)) ++ [b ++ [false]] ++ [b ++ [true]]
theorem split_free {B : List Bits} {b x : Bits} (hb : b ∈ B) (hx : Fr0 (split B b) x) : Fr0 B x := by
  have mem : ∀ a, a ∈ split B b ↔ (a ∈ B ∧ a ≠ b) ∨ a = b ++ [false] ∨ a = b ++ [true] := fun a => by
    unfold split
    simp [List.mem_filter, or_assoc]
  have bg : ∀ q, begun (split B b) q = true ↔ begun B q = true ∨ q = b := fun q => by
    rw [begun_iff, begun_iff]
    constructor
    · rintro ⟨a, h1, h2, h3⟩
      rcases (mem a).mp h1 with h | rfl | rfl
      · exact .inl ⟨a, h.1, h2, h3⟩
      · have := pre_drop h2 h3
        by_cases e : q = b
        · exact .inr e
        · exact .inl ⟨b, hb, this, e⟩
      · have := pre_drop h2 h3
        by_cases e : q = b
        · exact .inr e
        · exact .inl ⟨b, hb, this, e⟩
    · rintro (⟨a, h1, h2, h3⟩ | rfl)
      · by_cases e : a = b
        · subst e
          refine ⟨a ++ [false], (mem _).mpr (.inr (.inl rfl)), h2.trans ⟨[false], rfl⟩, fun e => ?_⟩
          have l1 := h2.length_le
          rw [e] at l1
          simp at l1
          omega
        · exact ⟨a, (mem _).mpr (.inl ⟨h1, e⟩), h2, h3⟩
      · refine ⟨q ++ [false], (mem _).mpr (.inr (.inl rfl)), ⟨[false], rfl⟩, fun e => ?_⟩
        have := congrArg List.length e
        simp at this
  have nb := hx.nb
  rw [begun_false, bg, not_or] at nb
  have nbx : ¬ b <+: x := fun h => by
    rcases pre_snoc h (fun e => nb.2 e.symm) with q | q
    · exact hx.no _ (nil_pre _) q ((mem _).mpr (.inr (.inl rfl)))
    · exact hx.no _ (nil_pre _) q ((mem _).mpr (.inr (.inr rfl)))
  refine ⟨nil_pre x, fun q _ q2 hq => ?_, begun_false.mpr nb.1, fun q _ q2 q3 => ?_⟩
  · by_cases e : q = b
    · exact nbx (e ▸ q2)
    · exact hx.no q (nil_pre q) q2 ((mem _).mpr (.inl ⟨hq, e⟩))
  · rcases (bg q).mp (hx.up q (nil_pre q) q2 q3) with h | h
    · exact h
    · exact absurd (h ▸ q2) nbx
theorem split_apart {B : List Bits} {b : Bits} (hb : b ∈ B) (hd : apart B) : apart (split B b) := fun x y hx hy hl => hd x y (split_free hb hx) (split_free hb hy) hl
theorem split_anti {B : List Bits} {b : Bits} (hb : b ∈ B) (ha : anti B) : anti (split B b) := by
  have mem : ∀ a, a ∈ split B b ↔ (a ∈ B ∧ a ≠ b) ∨ a = b ++ [false] ∨ a = b ++ [true] := fun a => by
    unfold split
    simp [List.mem_filter, or_assoc]
  have dn : ∀ a c, a ∈ B → a ≠ b → b ++ [c] <+: a → False := fun a c h1 h2 h3 => h2 (ha b hb a h1 (List.IsPrefix.trans ⟨[c], rfl⟩ h3)).symm
  have up : ∀ a c, a ∈ B → a ≠ b → a <+: b ++ [c] → False := fun a c h1 h2 h3 => by
    by_cases e : a = b ++ [c]
    · exact h2 (ha b hb a h1 (e ▸ ⟨[c], rfl⟩)).symm
    · exact h2 (ha a h1 b hb (pre_drop h3 e))
  have lr : ∀ c c' : Bool, b ++ [c] <+: b ++ [c'] → b ++ [c] = b ++ [c'] := fun c c' h => h.eq_of_length (by simp)
  intro x h1 y h2 h3
  rcases (mem x).mp h1 with h1 | rfl | rfl <;> rcases (mem y).mp h2 with h2 | rfl | rfl
  · exact ha x h1.1 y h2.1 h3
  · exact (up x _ h1.1 h1.2 h3).elim
  · exact (up x _ h1.1 h1.2 h3).elim
  · exact (dn y _ h2.1 h2.2 h3).elim
  · rfl
  · exact lr _ _ h3
  · exact (dn y _ h2.1 h2.2 h3).elim
  · exact lr _ _ h3
  · rfl
theorem filter_wts {B : List Bits} {W : Nat} {b : Bits} (hb : b ∈ B) (hn : B.Nodup) : wts W (B.filter fun a => decide (a ≠ b)) + wt W b = wts W B := by
  induction B with
  | nil => cases hb
  | cons a l ih =>
    rw [List.nodup_cons] at hn
    rw [List.filter_cons]
    by_cases e : a = b
    · subst e
      simp only [ne_eq, not_true_eq_false, decide_false, if_neg (show ¬ (false = true) by decide)]
      have : l.filter (fun x => decide (x ≠ a)) = l := List.filter_eq_self.mpr fun x hx => by
        rw [decide_eq_true_eq]
        exact fun z => hn.1 (z ▸ hx)
      simp only [ne_eq] at this
      rw [this]
      unfold wts
      simp only [List.map_cons, List.sum_cons]
      omega
    · have ih := ih ((List.mem_cons.mp hb).resolve_left fun z => e z.symm) hn.2
      simp only [ne_eq, e, not_false_eq_true, decide_true, if_true]
      unfold wts at ih ⊢
      simp only [List.map_cons, List.sum_cons]
      simp only [ne_eq] at ih
      omega
theorem split_wts {B : List Bits} {W : Nat} {b : Bits} (hb : b ∈ B) (hn : B.Nodup) (hl : b.length < W) : wts W (split B b) = wts W B := by
  have h := filter_wts (W := W) hb hn
  unfold split
  rw [wts_app, wts_app]
  have e : W - b.length = (W - (b.length + 1)) + 1 := by omega
  have h1 : wts W [b ++ [false]] = 2 ^ (W - (b.length + 1)) := by simp [wts, wt]
  have h2 : wts W [b ++ [true]] = 2 ^ (W - (b.length + 1)) := by simp [wts, wt]
  have h3 : wt W b = 2 * 2 ^ (W - (b.length + 1)) := by
    unfold wt
    rw [e, Nat.pow_succ]
    omega
  omega
theorem split_nodup {B : List Bits} {b : Bits} (hb : b ∈ B) (hn : B.Nodup) (ha : anti B) : (split B b).Nodup := by
  have ne : ∀ c, b ++ [c] ∉ B := fun c h => by
    have := ha b hb _ h ⟨[c], rfl⟩
    have := congrArg List.length this
    simp at this
  unfold split
  rw [List.nodup_append, List.nodup_append]
  refine ⟨⟨hn.filter _, by simp, fun x hx y hy e => ?_⟩, by simp, fun x hx y hy e => ?_⟩
  · simp only [List.mem_singleton] at hy
    subst hy e
    exact ne _ (List.mem_filter.mp hx).1
  · simp only [List.mem_singleton] at hy
    subst hy e
    simp only [List.mem_append, List.mem_singleton] at hx
    rcases hx with hx | hx
    · exact ne _ (List.mem_filter.mp hx).1
    · simp at hx
end MP
namespace MP
/-! ### how much is free -/
theorem distinct_sum : ∀ (d L : Nat) (ls : List Nat), ls.Nodup → (∀ l ∈ ls, L < l ∧ l ≤ L + d) → (ls.map fun l => 2 ^ (L + d - l)).sum < 2 ^ d
  | 0, L, ls, _, h => by
    have : ls = [] := by
      cases ls with
      | nil => rfl
      | cons a l =>
        have := h a (List.mem_cons_self ..)
        omega
    subst this
    simp
  | d + 1, L, ls, hn, h => by
    have key : ∀ m : List Nat, m.Nodup → (∀ l ∈ m, L + 1 < l ∧ l ≤ L + 1 + d) → (m.map fun l => 2 ^ (L + (d + 1) - l)).sum < 2 ^ d := fun m h1 h2 => by
      have := distinct_sum d (L + 1) m h1 h2
      rwa [show L + 1 + d = L + (d + 1) by omega] at this
    by_cases hm : L + 1 ∈ ls
    · have hp := List.perm_cons_erase hm
      have e : (ls.map fun l => 2 ^ (L + (d + 1) - l)).sum = 2 ^ d + ((ls.erase (L + 1)).map fun l => 2 ^ (L + (d + 1) - l)).sum := by
        have : ∀ {a b : List Nat}, a.Perm b → (a.map fun l => 2 ^ (L + (d + 1) - l)).sum = (b.map fun l => 2 ^ (L + (d + 1) - l)).sum := by
          intro a b h
          induction h with
          | nil => rfl
          | cons x _ ih => simp only [List.map_cons, List.sum_cons, ih]
          | swap x y l => simp only [List.map_cons, List.sum_cons]; omega
          | trans _ _ i1 i2 => exact i1.trans i2
        rw [this hp, List.map_cons, List.sum_cons, show L + (d + 1) - (L + 1) = d by omega]
      have := key (ls.erase (L + 1)) (hn.erase _) fun l hl => by
        have h1 := h l (List.mem_of_mem_erase hl)
        have h2 : l ≠ L + 1 := fun z => by
          subst z
          exact (List.Nodup.not_mem_erase hn) hl
        omega
      rw [e, Nat.pow_succ]
      omega
    · have := key ls hn fun l hl => by
        have h1 := h l hl
        have h2 : l ≠ L + 1 := fun z => hm (z ▸ hl)
        omega
      rw [Nat.pow_succ]
      omega
theorem apart_small {B : List Bits} {W L : Nat} (hW : ∀ b ∈ B, b.length ≤ W) (hd : apart B) (hL : L ≤ W) (F : List Bits) (hF : F.Nodup) (hm : ∀ x ∈ F, Fr0 B x ∧ L < x.length ∧ x.length ≤ W) : wts W F < 2 ^ (W - L) := by
  have h1 : (F.map List.length).Nodup := by
    refine List.nodup_iff_pairwise_ne.mpr (List.pairwise_map.mpr ?_)
    have : List.Pairwise (fun a b => a ≠ b) F := List.nodup_iff_pairwise_ne.mp hF
    refine this.imp_of_mem fun {a b} ha hb hne e => hne (hd a b (hm a ha).1 (hm b hb).1 e)
  have h2 := distinct_sum (W - L) L (F.map List.length) h1 fun l hl => by
    obtain ⟨x, hx, rfl⟩ := List.mem_map.mp hl
    have := hm x hx
    omega
  rw [List.map_map, show L + (W - L) = W by omega] at h2
  exact h2
theorem wts_mem {W : Nat} {x : Bits} : ∀ {F : List Bits}, x ∈ F → wt W x ≤ wts W F
  | a :: F, h => by
    unfold wts
    rw [List.map_cons, List.sum_cons]
    rcases List.mem_cons.mp h with rfl | h
    · omega
    · have := wts_mem (W := W) h
      unfold wts at this
      omega
theorem free_le {B : List Bits} {W : Nat} {x : Bits} (hW : ∀ b ∈ B, b.length ≤ W) (hx : Fr0 B x) : x.length ≤ W := by
  by_cases h : x = []
  · subst h
    exact Nat.zero_le _
  · obtain ⟨d, c, rfl⟩ := drop_pre h
    obtain ⟨b, h1, h2, h3⟩ := begun_iff.mp (hx.up d (nil_pre d) ⟨[c], rfl⟩ fun e => by
      have := congrArg List.length e
      simp at this)
    have := hW b h1
    have h4 := h2.length_le
    have h5 : d.length ≠ b.length := fun e => h3 (h2.eq_of_length e)
    simp
    omega
theorem free_many {B : List Bits} : ∀ (n : Nat) (p : Bits), (freeL B n p).length ≤ 1 + n * (B.filter fun b => p.isPrefixOf b).length
  | 0, p => by simp [freeL]
  | n + 1, p => by
    unfold freeL
    by_cases hp : p ∈ B
    · rw [if_pos hp]
      simp
    · rw [if_neg hp]
      by_cases hb : begun B p = true
      · rw [if_pos hb, List.length_append]
        have i0 := free_many (B := B) n (p ++ [false])
        have i1 := free_many (B := B) n (p ++ [true])
        obtain ⟨b, h3, h4, h5⟩ := begun_iff.mp hb
        have h6 : 1 ≤ (B.filter fun b => p.isPrefixOf b).length := List.length_pos_of_mem (List.mem_filter.mpr ⟨h3, List.isPrefixOf_iff_prefix.mpr h4⟩)
        have h7 : ∀ l : List Bits, (l.filter fun b => (p ++ [false]).isPrefixOf b).length + (l.filter fun b => (p ++ [true]).isPrefixOf b).length ≤ (l.filter fun b => p.isPrefixOf b).length := by
          intro l
          induction l with
          | nil => simp
          | cons a l ih =>
            simp only [List.filter_cons]
            cases e0 : (p ++ [false]).isPrefixOf a with
            | true =>
              have q := List.isPrefixOf_iff_prefix.mp e0
              cases e1 : (p ++ [true]).isPrefixOf a with
              | true => exact (snoc_ne q (List.isPrefixOf_iff_prefix.mp e1)).elim
              | false =>
                have e2 : p.isPrefixOf a = true := List.isPrefixOf_iff_prefix.mpr (snoc_pre q).1
                simp only [e2, if_true, if_neg (show ¬ (false = true) by decide), List.length_cons]
                omega
            | false =>
              cases e1 : (p ++ [true]).isPrefixOf a with
              | true =>
                have e2 : p.isPrefixOf a = true := List.isPrefixOf_iff_prefix.mpr (snoc_pre (List.isPrefixOf_iff_prefix.mp e1)).1
                simp only [e2, if_true, if_neg (show ¬ (false = true) by decide), List.length_cons]
                omega
              | false =>
                simp only [if_neg (show ¬ (false = true) by decide)]
                split
                · rw [List.length_cons]
                  omega
                · exact ih
        have h8 := h7 B
        have h9 := Nat.mul_le_mul_left n h8
        rw [Nat.mul_add] at h9
        rw [Nat.succ_mul]
        omega
      · rw [if_neg hb]
        simp
end MP

/-! plain: shallow programs computed step by step (what comes behind a step is kept closed till the step is done) -/
namespace MP
open PySem PySem.Spec L2
noncomputable section
abbrev Kn (α β : Type) := α → Mu → R β
section
variable {ρ : Rho} {μ : Mu} {d x y z : D} {l : List D}
theorem lift_some {β : Type} (x : β) (μ : Mu) : lift (some x) μ = .ok x μ := rfl
theorem lift_none {β : Type} (μ : Mu) : lift (none : Option β) μ = .stuck := rfl
/-! statements -/
def kSeq (b : MS) : Kn (Fl × Rho) (Fl × Rho) := fun x μ1 => match x.1 with
  | .nx => b x.2 μ1
  | f => .ok (f, x.2) μ1
theorem sSeq_k (a b : MS) : sSeq a b ρ μ = (a ρ μ).bind (kSeq b) := rfl
theorem kSeq_nx (b : MS) : kSeq b (.nx, ρ) μ = b ρ μ := rfl
theorem kSeq_rt (b : MS) : kSeq b (.rt d, ρ) μ = .ok (.rt d, ρ) μ := rfl
theorem kSeq_bk (b : MS) : kSeq b (.bk, ρ) μ = .ok (.bk, ρ) μ := rfl
theorem kSeq_ct (b : MS) : kSeq b (.ct, ρ) μ = .ok (.ct, ρ) μ := rfl
def kRet (ρ : Rho) : Kn D (Fl × Rho) := fun d μ => .ok (.rt d, ρ) μ
theorem sRet_k (a : ME) : sRet a ρ μ = (a ρ μ).bind (kRet ρ) := rfl
theorem kRet_k : kRet ρ d μ = .ok (.rt d, ρ) μ := rfl
def kDrop (ρ : Rho) : Kn D (Fl × Rho) := fun _ μ => .ok (.nx, ρ) μ
theorem sDrop_k (a : ME) : sDrop a ρ μ = (a ρ μ).bind (kDrop ρ) := rfl
theorem kDrop_k : kDrop ρ d μ = .ok (.nx, ρ) μ := rfl
def kIf (a b : MS) (ρ : Rho) : Kn Bool (Fl × Rho) := fun k μ => if k = true then a ρ μ else b ρ μ
theorem sIf_k (c : MT) (a b : MS) : sIf c a b ρ μ = (c ρ μ).bind (kIf a b ρ) := rfl
theorem kIf_t (a b : MS) : kIf a b ρ true μ = a ρ μ := rfl
theorem kIf_f (a b : MS) : kIf a b ρ false μ = b ρ μ := rfl
def kSet (i : Nat) (ρ : Rho) : Kn D (Fl × Rho) := fun d μ => .ok (.nx, ρ.set i (some d)) μ
theorem sSet_k (i : Nat) (a : ME) : sSet i a ρ μ = (a ρ μ).bind (kSet i ρ) := rfl
theorem kSet_k (i : Nat) : kSet i ρ d μ = .ok (.nx, ρ.set i (some d)) μ := rfl
theorem sNext_k : sNext ρ μ = .ok (.nx, ρ) μ := rfl
theorem sBreak_k : sBreak ρ μ = .ok (.bk, ρ) μ := rfl
theorem sCont_k : sCont ρ μ = .ok (.ct, ρ) μ := rfl
def kAsg2 : Kn Rho (Fl × Rho) := fun ρ μ => .ok (.nx, ρ) μ
def kAsg (g : MG) (ρ : Rho) : Kn D (Fl × Rho) := fun d μ => (g d ρ μ).bind kAsg2
theorem sAsg_k (g : MG) (a : ME) : sAsg g a ρ μ = (a ρ μ).bind (kAsg g ρ) := rfl
theorem kAsg_k (g : MG) : kAsg g ρ d μ = (g d ρ μ).bind kAsg2 := rfl
theorem kAsg2_k : kAsg2 ρ μ = .ok (.nx, ρ) μ := rfl
theorem gSet_k (i : Nat) : gSet i d ρ μ = .ok (ρ.set i (some d)) μ := rfl
def kGi3 (ρ : Rho) : Kn Mu Rho := fun μ _ => .ok ρ μ
def kGi2 (o v : D) (ρ : Rho) : Kn D Rho := fun i μ => (lift (setItemD μ o i v) μ).bind (kGi3 ρ)
def kGi1 (i : ME) (v : D) (ρ : Rho) : Kn D Rho := fun o μ => (i ρ μ).bind (kGi2 o v ρ)
theorem gItem_k (o i : ME) : gItem o i d ρ μ = (o ρ μ).bind (kGi1 i d ρ) := rfl
theorem kGi1_k (i : ME) : kGi1 i d ρ x μ = (i ρ μ).bind (kGi2 x d ρ) := rfl
theorem kGi2_k : kGi2 x d ρ y μ = (lift (setItemD μ x y d) μ).bind (kGi3 ρ) := rfl
theorem kGi3_k {μ' : Mu} : kGi3 ρ μ' μ = .ok ρ μ' := rfl
def kGs (r : List D → Rho → Mu → R Rho) (l : List D) : Kn Rho Rho := fun ρ μ => r l ρ μ
theorem gsCons_k (g : MG) (r : List D → Rho → Mu → R Rho) : gsCons g r (d :: l) ρ μ = (g d ρ μ).bind (kGs r l) := rfl
theorem kGs_k (r : List D → Rho → Mu → R Rho) : kGs r l ρ μ = r l ρ μ := rfl
theorem gsNil_k : gsNil [] ρ μ = .ok ρ μ := rfl
theorem gTup2 (r : List D → Rho → Mu → R Rho) : gTupD 2 r (.con .tup [x, y]) ρ μ = r [x, y] ρ μ := rfl
theorem gTup3 (r : List D → Rho → Mu → R Rho) : gTupD 3 r (.con .tup [x, y, z]) ρ μ = r [x, y, z] ρ μ := rfl
def kPar (i j : Nat) (ρ : Rho) : Kn (List D) (Fl × Rho) := fun l μ1 => match l with
  | [x, y] => .ok (.nx, (ρ.set i (some x)).set j (some y)) μ1
  | _ => .stuck
theorem sPar_k (i j : Nat) (a : MA) : sPar i j a ρ μ = (a ρ μ).bind (kPar i j ρ) := rfl
theorem kPar_k (i j : Nat) : kPar i j ρ [x, y] μ = .ok (.nx, (ρ.set i (some x)).set j (some y)) μ := rfl
def kPar3 (i j k : Nat) (ρ : Rho) : Kn (List D) (Fl × Rho) := fun l μ1 => match l with
  | [x, y, z] => .ok (.nx, ((ρ.set i (some x)).set j (some y)).set k (some z)) μ1
  | _ => .stuck
theorem sPar3_k (i j k : Nat) (a : MA) : sPar3 i j k a ρ μ = (a ρ μ).bind (kPar3 i j k ρ) := rfl
theorem kPar3_k (i j k : Nat) : kPar3 i j k ρ [x, y, z] μ = .ok (.nx, ((ρ.set i (some x)).set j (some y)).set k (some z)) μ := rfl
def kFs3 (ρ : Rho) : Kn Mu (Fl × Rho) := fun μ _ => .ok (.nx, ρ) μ
def kFs2 (f : Str) (cs : List Str) (v : D) (ρ : Rho) : Kn D (Fl × Rho) := fun o μ => (lift (setFldD f cs μ o v) μ).bind (kFs3 ρ)
def kFs1 (f : Str) (cs : List Str) (o : ME) (ρ : Rho) : Kn D (Fl × Rho) := fun v μ => (o ρ μ).bind (kFs2 f cs v ρ)
theorem sFldSet_k (f : Str) (cs : List Str) (o e : ME) : sFldSet f cs o e ρ μ = (e ρ μ).bind (kFs1 f cs o ρ) := rfl
theorem kFs1_k (f : Str) (cs : List Str) (o : ME) : kFs1 f cs o ρ d μ = (o ρ μ).bind (kFs2 f cs d ρ) := rfl
theorem kFs2_k (f : Str) (cs : List Str) : kFs2 f cs d ρ x μ = (lift (setFldD f cs μ x d) μ).bind (kFs3 ρ) := rfl
theorem kFs3_k {μ' : Mu} : kFs3 ρ μ' μ = .ok (.nx, ρ) μ' := rfl
def kRaise (C : Str) : Kn D (Fl × Rho) := fun d μ => .exc C d μ
theorem sRaise_k (C : Str) (a : ME) : sRaise C a ρ μ = (a ρ μ).bind (kRaise C) := rfl
theorem kRaise_k (C : Str) : kRaise C d μ = .exc C d μ := rfl
def kDef : Kn (Fl × Rho) D := fun r μ => match r.1 with
  | .nx => .ok .non μ
  | .rt d => .ok d μ
  | _ => .stuck
theorem defM_k (n : Nat) (m : MS) : defM n m l μ = (m (startR n l) μ).bind kDef := rfl
theorem kDef_nx : kDef (.nx, ρ) μ = .ok .non μ := rfl
theorem kDef_rt : kDef (.rt d, ρ) μ = .ok d μ := rfl
theorem bind_exc {β γ : Type} (c : Str) (f : Kn β γ) : (R.exc c d μ : R β).bind f = .exc c d μ := rfl
/-! tests -/
def kTst : Kn D Bool := fun x μ => lift (truD μ x) μ
theorem tst_k (a : ME) : tst a ρ μ = (a ρ μ).bind kTst := rfl
theorem kTst_k : kTst x μ = lift (truD μ x) μ := rfl
def kTBl : Kn D Bool := fun x μ => match x with
  | .bl b => .ok b μ
  | _ => .stuck
theorem tBl_k (a : ME) : tBl a ρ μ = (a ρ μ).bind kTBl := rfl
theorem kTBl_k (b : Bool) : kTBl (.bl b) μ = .ok b μ := rfl
def kTAnd (b : MT) (ρ : Rho) : Kn Bool Bool := fun c μ => if c = true then b ρ μ else .ok false μ
theorem tAnd_k (a b : MT) : tAnd a b ρ μ = (a ρ μ).bind (kTAnd b ρ) := rfl
theorem kTAnd_t (b : MT) : kTAnd b ρ true μ = b ρ μ := rfl
theorem kTAnd_f (b : MT) : kTAnd b ρ false μ = .ok false μ := rfl
def kTOr (b : MT) (ρ : Rho) : Kn Bool Bool := fun c μ => if c = true then .ok true μ else b ρ μ
theorem tOr_k (a b : MT) : tOr a b ρ μ = (a ρ μ).bind (kTOr b ρ) := rfl
theorem kTOr_t (b : MT) : kTOr b ρ true μ = .ok true μ := rfl
theorem kTOr_f (b : MT) : kTOr b ρ false μ = b ρ μ := rfl
def kTNot : Kn Bool Bool := fun c μ => .ok (!c) μ
theorem tNot_k (a : MT) : tNot a ρ μ = (a ρ μ).bind kTNot := rfl
theorem kTNot_k (c : Bool) : kTNot c μ = .ok (!c) μ := rfl
theorem tYes_k : tYesD ρ μ = .ok true μ := rfl
/-! expressions -/
theorem eC_k : eC d ρ μ = .ok d μ := rfl
def kVar (o : Option (Option D)) (μ : Mu) : R D := match o with
  | some (some d) => .ok d μ
  | _ => .stuck
theorem eVar_k (i : Nat) : eVar i ρ μ = kVar ρ[i]? μ := by
  unfold eVar kVar
  rfl
theorem kVar_k : kVar (some (some d)) μ = .ok d μ := rfl
def kU1 (f : Mu → D → Option D) : Kn D D := fun x μ => lift (f μ x) μ
theorem eU1_k (f : Mu → D → Option D) (a : ME) : eU1 f a ρ μ = (a ρ μ).bind (kU1 f) := rfl
theorem kU1_k (f : Mu → D → Option D) : kU1 f x μ = lift (f μ x) μ := rfl
def kB2' (f : Mu → D → D → Option D) (x : D) : Kn D D := fun y μ => lift (f μ x y) μ
def kB2 (f : Mu → D → D → Option D) (b : ME) (ρ : Rho) : Kn D D := fun x μ => (b ρ μ).bind (kB2' f x)
theorem eB2_k (f : Mu → D → D → Option D) (a b : ME) : eB2 f a b ρ μ = (a ρ μ).bind (kB2 f b ρ) := rfl
theorem kB2_k (f : Mu → D → D → Option D) (b : ME) : kB2 f b ρ x μ = (b ρ μ).bind (kB2' f x) := rfl
theorem kB2'_k (f : Mu → D → D → Option D) : kB2' f x y μ = lift (f μ x y) μ := rfl
def kCN (f : Mu → List D → Option D) : Kn (List D) D := fun l μ => lift (f μ l) μ
theorem eCN_k (f : Mu → List D → Option D) (a : MA) : eCN f a ρ μ = (a ρ μ).bind (kCN f) := rfl
theorem kCN_k (f : Mu → List D → Option D) : kCN f l μ = lift (f μ l) μ := rfl
theorem aNil_k : aNil ρ μ = .ok [] μ := rfl
def kAc2 (x : D) : Kn (List D) (List D) := fun l μ => .ok (x :: l) μ
def kAc (r : MA) (ρ : Rho) : Kn D (List D) := fun x μ => (r ρ μ).bind (kAc2 x)
theorem aCons_k (m : ME) (r : MA) : aCons m r ρ μ = (m ρ μ).bind (kAc r ρ) := rfl
theorem kAc_k (r : MA) : kAc r ρ x μ = (r ρ μ).bind (kAc2 x) := rfl
theorem kAc2_k : kAc2 x l μ = .ok (x :: l) μ := rfl
def kNew (c : Con) : Kn (List D) D := fun l μ1 => if l.length ≤ sizeLine then .ok (.ptr μ1.length) (μ1 ++ [.lv false c l]) else .stuck
theorem hNew_k (c : Con) (m : MA) : hNew c m ρ μ = (m ρ μ).bind (kNew c) := rfl
theorem kNew_0 (c : Con) : kNew c [] μ = .ok (.ptr μ.length) (μ ++ [.lv false c []]) := rfl
theorem kNew_1 (c : Con) : kNew c [x] μ = .ok (.ptr μ.length) (μ ++ [.lv false c [x]]) := by
  unfold kNew
  rw [if_pos (by simp only [List.length_cons, List.length_nil, sizeLine_eq]; omega)]
theorem kNew_4 (c : Con) {u : D} : kNew c [x, y, z, u] μ = .ok (.ptr μ.length) (μ ++ [.lv false c [x, y, z, u]]) := by
  unfold kNew
  rw [if_pos (by simp only [List.length_cons, List.length_nil, sizeLine_eq]; omega)]
def kAnd (b : ME) (ρ : Rho) : Kn D D := fun x μ => match x with
  | .bl true => b ρ μ
  | .bl false => .ok (.bl false) μ
  | _ => .stuck
theorem eAnd_k (a b : ME) : eAnd a b ρ μ = (a ρ μ).bind (kAnd b ρ) := rfl
theorem kAnd_t (b : ME) : kAnd b ρ (.bl true) μ = b ρ μ := rfl
theorem kAnd_f (b : ME) : kAnd b ρ (.bl false) μ = .ok (.bl false) μ := rfl
def kOr (b : ME) (ρ : Rho) : Kn D D := fun x μ => match x with
  | .bl true => .ok (.bl true) μ
  | .bl false => b ρ μ
  | _ => .stuck
theorem eOr_k (a b : ME) : eOr a b ρ μ = (a ρ μ).bind (kOr b ρ) := rfl
theorem kOr_t (b : ME) : kOr b ρ (.bl true) μ = .ok (.bl true) μ := rfl
theorem kOr_f (b : ME) : kOr b ρ (.bl false) μ = b ρ μ := rfl
def kNot : Kn D D := fun x μ => match x with
  | .bl c => .ok (.bl (!c)) μ
  | _ => .stuck
theorem eNot_k (a : ME) : eNot a ρ μ = (a ρ μ).bind kNot := rfl
theorem kNot_k (b : Bool) : kNot (.bl b) μ = .ok (.bl (!b)) μ := rfl
def kIfE (a b : ME) (ρ : Rho) : Kn Bool D := fun k μ => if k = true then a ρ μ else b ρ μ
theorem eIf_k (c : MT) (a b : ME) : eIf c a b ρ μ = (c ρ μ).bind (kIfE a b ρ) := rfl
theorem kIfE_t (a b : ME) : kIfE a b ρ true μ = a ρ μ := rfl
theorem kIfE_f (a b : ME) : kIfE a b ρ false μ = b ρ μ := rfl
def kCh3 (g : Mu → D → D → Option D) (c : ME) (ρ : Rho) (y : D) : Kn D D := fun z μ3 => match z with
  | .bl true => (c ρ μ3).bind (kB2' g y)
  | .bl false => .ok (.bl false) μ3
  | _ => .stuck
def kCh2 (f g : Mu → D → D → Option D) (c : ME) (ρ : Rho) (x : D) : Kn D D := fun y μ2 => (lift (f μ2 x y) μ2).bind (kCh3 g c ρ y)
def kCh1 (f g : Mu → D → D → Option D) (b c : ME) (ρ : Rho) : Kn D D := fun x μ1 => (b ρ μ1).bind (kCh2 f g c ρ x)
theorem eChain_k (f g : Mu → D → D → Option D) (a b c : ME) : eChain f g a b c ρ μ = (a ρ μ).bind (kCh1 f g b c ρ) := by
  cases ea : a ρ μ with
  | ok x μ1 =>
    have l1 : eChain f g a b c ρ μ = (b ρ μ1).bind fun y μ2 => (lift (f μ2 x y) μ2).bind fun z μ3 => match z with
      | .bl true => (c ρ μ3).bind fun u μ4 => lift (g μ4 y u) μ4
      | .bl false => .ok (.bl false) μ3
      | _ => .stuck := by
      unfold eChain
      rw [ea, R.bind_ok]
      first | done | rfl
    rw [l1, R.bind_ok]
    show _ = (b ρ μ1).bind (kCh2 f g c ρ x)
    cases b ρ μ1 with
    | ok y μ2 =>
      rw [R.bind_ok, R.bind_ok]
      show _ = (lift (f μ2 x y) μ2).bind (kCh3 g c ρ y)
      cases f μ2 x y with
      | none => rfl
      | some z =>
        cases z with
        | bl k => cases k <;> rfl
        | _ => rfl
    | _ => rfl
  | _ =>
    unfold eChain
    rw [ea]
    first | done | rfl
theorem kCh1_k (f g : Mu → D → D → Option D) (b c : ME) : kCh1 f g b c ρ x μ = (b ρ μ).bind (kCh2 f g c ρ x) := rfl
theorem kCh2_k (f g : Mu → D → D → Option D) (c : ME) : kCh2 f g c ρ x y μ = (lift (f μ x y) μ).bind (kCh3 g c ρ y) := rfl
theorem kCh3_t (g : Mu → D → D → Option D) (c : ME) : kCh3 g c ρ y (.bl true) μ = (c ρ μ).bind (kB2' g y) := rfl
theorem kCh3_f (g : Mu → D → D → Option D) (c : ME) : kCh3 g c ρ y (.bl false) μ = .ok (.bl false) μ := rfl
theorem oNone_k : oNone ρ μ = .ok none μ := rfl
def kOs : Kn D (Option Int) := fun x μ => match x with
  | .int i => .ok (some i) μ
  | _ => .stuck
theorem oSome_k (a : ME) : oSome a ρ μ = (a ρ μ).bind kOs := rfl
theorem kOs_k (i : Int) : kOs (.int i) μ = .ok (some i) μ := rfl
def kSl3 (x : D) (l : Option Int) : Kn (Option Int) D := fun u μ => lift (sliceD μ x l u) μ
def kSl2 (hi : MO) (ρ : Rho) (x : D) : Kn (Option Int) D := fun l μ => (hi ρ μ).bind (kSl3 x l)
def kSl1 (lo hi : MO) (ρ : Rho) : Kn D D := fun x μ => (lo ρ μ).bind (kSl2 hi ρ x)
theorem eSl_k (a : ME) (lo hi : MO) : eSl a lo hi ρ μ = (a ρ μ).bind (kSl1 lo hi ρ) := rfl
theorem kSl1_k (lo hi : MO) : kSl1 lo hi ρ x μ = (lo ρ μ).bind (kSl2 hi ρ x) := rfl
theorem kSl2_k (hi : MO) {o : Option Int} : kSl2 hi ρ x o μ = (hi ρ μ).bind (kSl3 x o) := rfl
theorem kSl3_k {o p : Option Int} : kSl3 x o p μ = lift (sliceD μ x o p) μ := rfl
def kCall (f : MF) (n : Nat) : Kn (List D) D := fun l μ => if l.length = n then callF f l μ else .stuck
theorem eCall_k (f : MF) (n : Nat) (a : MA) : eCall f n a ρ μ = (a ρ μ).bind (kCall f n) := rfl
theorem kCall_1 (f : MF) : kCall f 1 [x] μ = callF f [x] μ := rfl
theorem kCall_2 (f : MF) : kCall f 2 [x, y] μ = callF f [x, y] μ := rfl
theorem kCall_3 (f : MF) : kCall f 3 [x, y, z] μ = callF f [x, y, z] μ := rfl
theorem kCall_4 (f : MF) {u : D} : kCall f 4 [x, y, z, u] μ = callF f [x, y, z, u] μ := rfl
def kMt (C mn : Str) (f : MF) (n : Nat) (a : MA) (ρ : Rho) : Kn D D := fun x μ1 => match view μ1 x with
  | .con (.ins C' fs) _ => if C' = C ∧ mn ∉ fs then (a ρ μ1).bind fun l μ2 => if (x :: l).length = n then callF f (x :: l) μ2 else .stuck else .stuck
  | _ => .stuck
theorem eMeth_k (C mn : Str) (f : MF) (n : Nat) (o : ME) (a : MA) : eMeth C mn f n o a ρ μ = (o ρ μ).bind (kMt C mn f n a ρ) := rfl
def kMt2 (f : MF) (n : Nat) (x : D) : Kn (List D) D := fun l μ2 => if (x :: l).length = n then callF f (x :: l) μ2 else .stuck
theorem kMt_k {C mn : Str} {f : MF} {n : Nat} {a : MA} {fs : List Str} (h : view μ x = .con (.ins C fs) l) (hm : mn ∉ fs) : kMt C mn f n a ρ x μ = (a ρ μ).bind (kMt2 f n x) := by
  unfold kMt
  rw [h]
  show (if C = C ∧ mn ∉ fs then _ else _) = _
  rw [if_pos ⟨rfl, hm⟩]
  rfl
theorem kMt2_1 (f : MF) : kMt2 f 1 x [] μ = callF f [x] μ := rfl
theorem kMt2_2 (f : MF) : kMt2 f 2 x [y] μ = callF f [x, y] μ := rfl
theorem kMt2_3 (f : MF) : kMt2 f 3 x [y, z] μ = callF f [x, y, z] μ := rfl
def kLs : Kn (List D) D := fun acc μ => .ok (.lst acc) μ
def kFrz : Kn D D := fun d μ1 => match frz FRZ μ1 d with
  | some (d', μ') => .ok d' μ'
  | none => .stuck
theorem eFrz_k (m : ME) : eFrz m ρ μ = (m ρ μ).bind kFrz := rfl
def kGet (y z : ME) (ρ : Rho) : Kn D D := fun x μ1 => match view μ1 x with
  | .con (.dK _) _ => (y ρ μ1).bind fun k μ2 => (z ρ μ2).bind fun u μ3 => (match view μ3 x with
    | .con (.dK ks) l => (match keyD k with
      | some key => .ok ((findD ks l key).getD u) μ3
      | none => .stuck)
    | _ => .stuck)
  | .con (.dT _) _ => (y ρ μ1).bind fun k μ2 => (z ρ μ2).bind fun u μ3 => (match view μ3 x with
    | .con (.dT ks) l => (match k with
      | .con .tup m => (match keysD m with
        | some key => .ok ((findD ks l key).getD u) μ3
        | none => .stuck)
      | _ => .stuck)
    | _ => .stuck)
  | _ => .stuck
theorem eGet_k (o y z : ME) : eGet o y z ρ μ = (o ρ μ).bind (kGet y z ρ) := rfl
/-! what is looked at -/
theorem view_int' (i : Int) : view μ (.int i) = .int i := rfl
theorem view_str' (i : Str) : view μ (.str i) = .str i := rfl
theorem view_bl' (b : Bool) : view μ (.bl b) = .bl b := rfl
theorem view_non' : view μ .non = .non := rfl
theorem view_con' (c : Con) (l : List D) : view μ (.con c l) = .con c l := rfl
theorem view_ptr {k : Nat} {lk : Bool} {c : Con} (h : μ[k]? = some (.lv lk c l)) : view μ (.ptr k) = .con c l := by
  unfold view
  simp only [h]
/-! operations -/
theorem addD_int (i j : Int) : addD μ (.int i) (.int j) = some (.int (i + j)) := rfl
theorem subD_int (i j : Int) : subD μ (.int i) (.int j) = some (.int (i - j)) := rfl
theorem mulD_int {i j : Int} (h : mulOk i j = true) : mulD μ (.int i) (.int j) = some (.int (i * j)) := by
  unfold mulD
  simp only [view_int', h, if_true]
theorem fdivD_int {i j : Int} (h0 : 0 < j) (h1 : j < 1073741824) : fdivD μ (.int i) (.int j) = some (.int (i / j)) := by
  unfold fdivD intD
  simp only [h0, h1, and_self, if_true]
theorem modD_int {i j : Int} (h0 : 0 < j) : modD μ (.int i) (.int j) = some (.int (i % j)) := by
  unfold modD intD
  simp only [h0, if_true]
theorem negD_int (i : Int) : negD μ (.int i) = some (.int (-i)) := rfl
theorem gtD_int (i j : Int) : gtD μ (.int i) (.int j) = some (.bl (decide (j < i))) := rfl
theorem ltD_int (i j : Int) : ltD μ (.int i) (.int j) = some (.bl (decide (i < j))) := rfl
theorem geD_int (i j : Int) : geD μ (.int i) (.int j) = some (.bl (decide (j ≤ i))) := rfl
theorem leD_int (i j : Int) : leD μ (.int i) (.int j) = some (.bl (decide (i ≤ j))) := rfl
theorem eqD_int (i j : Int) : eqD μ (.int i) (.int j) = some (.bl (decide (i = j))) := rfl
theorem neD_int (i j : Int) : neD μ (.int i) (.int j) = some (.bl (!decide (i = j))) := rfl
theorem eqD_str (i j : Str) : eqD μ (.str i) (.str j) = some (.bl (decide (i = j))) := rfl
theorem neD_str (i j : Str) : neD μ (.str i) (.str j) = some (.bl (!decide (i = j))) := rfl
theorem eqD_bl (i j : Bool) : eqD μ (.bl i) (.bl j) = some (.bl (decide (i = j))) := rfl
theorem isD_non : isD μ x .non = some (.bl (isNonD x)) := rfl
theorem isntD_non : isntD μ x .non = some (.bl (!isNonD x)) := rfl
theorem intC_int (i : Int) : intC μ [.int i] = some (.int i) := rfl
theorem min2_int (i j : Int) : min2 μ [.int i, .int j] = some (.int (if j < i then j else i)) := rfl
theorem conD_0 (c : Con) : conD c μ [] = some (.con c []) := rfl
theorem conD_1 (c : Con) : conD c μ [x] = some (.con c [x]) := by
  unfold conD
  rw [if_pos (by simp only [List.length_cons, List.length_nil, sizeLine_eq]; omega)]
theorem conD_2 (c : Con) : conD c μ [x, y] = some (.con c [x, y]) := by
  unfold conD
  rw [if_pos (by simp only [List.length_cons, List.length_nil, sizeLine_eq]; omega)]
theorem conD_3 (c : Con) : conD c μ [x, y, z] = some (.con c [x, y, z]) := by
  unfold conD
  rw [if_pos (by simp only [List.length_cons, List.length_nil, sizeLine_eq]; omega)]
theorem truD_bl (b : Bool) : truD μ (.bl b) = some b := rfl
theorem truD_lst (l : List D) : truD μ (.con .lst l) = some (!l.isEmpty) := rfl
theorem truD_tup (l : List D) : truD μ (.con .tup l) = some (!l.isEmpty) := rfl
theorem tupD_lst (l : List D) : tupD μ [.con .lst l] = some (.con .tup l) := rfl
theorem lenD_lst (l : List D) : lenD μ [.con .lst l] = some (.int l.length) := rfl
theorem lenD_tup (l : List D) : lenD μ [.con .tup l] = some (.int l.length) := rfl
theorem lenD_scr (l : List D) : lenD μ [.con .scr l] = some (.int l.length) := rfl
theorem lenD_S {b : List Bool} (h : b.length ≤ 1000000) : lenD μ [.str (S b)] = some (.int b.length) := by
  have e : fitL (S b).length = true := by
    rw [S_len]
    unfold fitL
    rw [decide_eq_true_eq, sizeLine_eq]
    omega
  unfold lenD lenN
  simp only [view_str', e, if_true]
  rw [S_len]
  rfl
theorem addD_S {a b : List Bool} (h : a.length + b.length ≤ 1000000) : addD μ (.str (S a)) (.str (S b)) = some (.str (S (a ++ b))) := by
  have e : fitL ((S a).length + (S b).length) = true := by
    rw [S_len, S_len]
    unfold fitL
    rw [decide_eq_true_eq, sizeLine_eq]
    omega
  unfold addD
  simp only [view_str', e, if_true, S_app]
theorem sliceD_S {b : List Bool} {k : Nat} (h : b.length ≤ 1000000) : sliceD μ (.str (S b)) none (some (k : Int)) = some (.str (S (b.take k))) := by
  have e : fitL (S b).length = true := by
    rw [S_len]
    unfold fitL
    rw [decide_eq_true_eq, sizeLine_eq]
    omega
  unfold sliceD
  simp only [view_str', e, if_true, S_take]
theorem repD_S {n : Int} (h : n ≤ 1000000) (h0 : 0 ≤ n) : mulD μ (.str (S [false])) (.int n) = some (.str (S (List.replicate n.toNat false))) := by
  have e : fitL ((S [false]).length * n.toNat) = true := by
    rw [S_len]
    unfold fitL
    rw [sizeLine_eq, decide_eq_true_eq, List.length_singleton]
    omega
  have e1 : decide (-(2 ^ 63) ≤ n) = true := by
    rw [decide_eq_true_eq]
    omega
  have e2 : decide (n < 2 ^ 63) = true := by
    rw [decide_eq_true_eq]
    omega
  unfold mulD
  simp only [view_int', view_str', e1, e2, Bool.and_self, Bool.true_and, decide_eq_true_eq, e, if_true, S_rep]
theorem addD_lst {l m : List D} (h : l.length + m.length ≤ 1000000) : addD μ (.con .lst l) (.con .lst m) = some (.con .lst (l ++ m)) := by
  have e : fitL (l.length + m.length) = true := by
    unfold fitL
    rw [decide_eq_true_eq, sizeLine_eq]
    omega
  unfold addD
  simp only [view_con', e, if_true]
theorem atI_nat {β : Type} (l : List β) (k : Nat) : atI l (k : Int) = l[k]? := by
  unfold atI ixN
  rw [if_pos (by omega)]
  by_cases h : (k : Int) < l.length
  · rw [if_pos h]
    simp
  · rw [if_neg h]
    have : l.length ≤ k := by omega
    simp [this]
theorem ixD_lst (i : Int) : ixD μ (.con .lst l) (.int i) = atI l i := rfl
theorem ixD_tup (i : Int) : ixD μ (.con .tup l) (.int i) = atI l i := rfl
theorem ixD_scr (i : Int) : ixD μ (.con .scr l) (.int i) = atI l i := rfl
theorem ixD_ptr {k : Nat} {i : Int} (h : view μ (.ptr k) = .con .lst l) : ixD μ (.ptr k) (.int i) = atI l i := by
  unfold ixD
  rw [h]
theorem ixD_dct {k : Nat} {ks : List Key} {key : Key} (h : view μ (.ptr k) = .con (.dK ks) l) (hk : keyD y = some key) : ixD μ (.ptr k) y = findD ks l key := by
  unfold ixD
  rw [h]
  simp only [hk]
theorem inD_dct {k : Nat} {ks : List Key} {key : Key} (h : view μ (.ptr k) = .con (.dK ks) l) (hk : keyD y = some key) : inD μ y (.ptr k) = some (.bl (findD ks l key).isSome) := by
  unfold inD inB
  rw [h]
  simp only [hk, Option.map_some]
theorem ninD_dct {k : Nat} {ks : List Key} {key : Key} (h : view μ (.ptr k) = .con (.dK ks) l) (hk : keyD y = some key) : ninD μ y (.ptr k) = some (.bl (!(findD ks l key).isSome)) := by
  unfold ninD inB
  rw [h]
  simp only [hk, Option.map_some]
theorem setItem_lst {k n : Nat} {i : Int} (h : μ[k]? = some (.lv false .lst l)) (hn : ixN l.length i = some n) : setItemD μ (.ptr k) (.int i) d = some (μ.set k (.lv false .lst (l.set n d))) := by
  unfold setItemD
  simp only [h, hn, Option.map_some]
theorem setItem_dct {k : Nat} {ks : List Key} {key : Key} (h : μ[k]? = some (.lv false (.dK ks) l)) (hk : keyD y = some key) (hl : l.length ≤ 1000000) : setItemD μ (.ptr k) y d = some (μ.set k (.lv false (.dK (putKs ks key)) (putDs ks l key d))) := by
  have e : fitL (l.length + 1) = true := by
    unfold fitL
    rw [decide_eq_true_eq, sizeLine_eq]
    omega
  unfold setItemD
  simp only [h, hk, e, if_true]
theorem keyD_S (b : List Bool) : keyD (.str (S b)) = some (kS b) := rfl
theorem fldD_ptr {k : Nat} {f C : Str} {cs fs : List Str} (h : view μ (.ptr k) = .con (.ins C fs) l) (hc : C ∈ cs) : fldD f cs μ (.ptr k) = findD fs l f := by
  unfold fldD
  rw [h]
  simp only [hc, if_true]
end
theorem set_get {μ : Mu} {r : Nat} {ob ob' : Ob} (h : μ[r]? = some ob) : (μ.set r ob')[r]? = some ob' := by
  rw [List.getElem?_set_self (List.getElem?_eq_some_iff.mp h).1]
end
end MP
namespace MP
open PySem PySem.Spec L2
section
variable {ρ : Rho} {μ μ1 : Mu} {l : List D}
theorem sFor_const {it : MI} {g : MG} {b : MS} (h : it ρ μ = .ok (fun _ => some l) μ1) : sFor it g b ρ μ = loopN (fun _ => some l) g b l.length 0 ρ μ1 := by
  unfold sFor
  rw [h]
  rfl
theorem smallI_nat {n : Nat} (h : n ≤ 1000000) : smallI (n : Int) = true := by
  unfold smallI
  have h1 : (n : Int) ≤ 1000000 := by omega
  have h0 : (0 : Int) ≤ n := Int.natCast_nonneg n
  have p1 : (-(2 ^ 62) : Int) ≤ 0 := by decide
  have p2 : (1000000 : Int) < 2 ^ 62 := by decide
  rw [Bool.and_eq_true, decide_eq_true_eq, decide_eq_true_eq]
  exact ⟨Int.le_trans p1 h0, Int.lt_of_le_of_lt h1 p2⟩
theorem rng1_nat {n : Nat} (h : n ≤ 1000000) : rng1 [.int (n : Int)] = some fun _ => some (upD 0 n) := by
  unfold rng1
  simp only [smallI_nat h, if_true, Int.toNat_natCast]
theorem upD_len (lo : Int) (n : Nat) : (upD lo n).length = n := by simp [upD]
theorem upD_get {n i : Nat} {d : D} (h : (upD 0 n)[i]? = some d) : i < n ∧ d = .int (i : Int) := by
  unfold upD at h
  rw [List.getElem?_map, Option.map_eq_some_iff] at h
  obtain ⟨j, h1, rfl⟩ := h
  have hl : i < n := by
    have := (List.getElem?_eq_some_iff.mp h1).1
    simpa using this
  rw [List.getElem?_range hl] at h1
  cases h1
  exact ⟨hl, by rw [Int.zero_add]⟩
theorem iRng1_k {a : MA} {n : Nat} (ha : a ρ μ = .ok [.int (n : Int)] μ1) (h : n ≤ 1000000) : iRng rng1 a ρ μ = .ok (fun _ => some (upD 0 n)) μ1 := by
  have e := congrArg (fun o => lift o μ1) (rng1_nat h)
  unfold iRng
  rw [ha, R.bind_ok]
  exact e
theorem iSeq_lst {a : ME} (ha : a ρ μ = .ok (.con .lst l) μ1) : ∀ (μ2 : Mu), True → iSeq a ρ μ = .ok (rdL (.con .lst l)) μ1 := fun _ _ => by
  unfold iSeq
  rw [ha]
  rfl
theorem rdL_lst : rdL (.con .lst l) = fun _ => some l := rfl
theorem iSeq_l {a : ME} (ha : a ρ μ = .ok (.con .lst l) μ1) : iSeq a ρ μ = .ok (fun _ => some l) μ1 := iSeq_lst ha μ trivial
theorem iSeq_t {a : ME} (ha : a ρ μ = .ok (.con .tup l) μ1) : iSeq a ρ μ = .ok (fun _ => some l) μ1 := by
  unfold iSeq
  rw [ha]
  rfl
theorem iKeys_k {a : ME} {k : Nat} {ks : List Key} (ha : a ρ μ = .ok (.ptr k) μ1) (h : μ1[k]? = some (.lv true (.dK ks) l)) : iKeysL a ρ μ = .ok (fun _ => some (ks.map dKey)) μ1 := by
  unfold iKeysL
  rw [ha]
  simp only [R.bind_ok, h]
theorem lock_k {β : Type} {sel : Sel} {m : Rho → Mu → R β} {k : Nat} {ks : List Key} (h : sel ρ μ = some (.ptr k)) (hk : μ[k]? = some (.lv false (.dK ks) l)) :
    lockM sel m ρ μ = (noX (m ρ (μ.set k (.lv true (.dK ks) l)))).bind (unlk k) := by
  unfold lockM
  simp only [h, hk]
theorem unlk_k {β : Type} {x : β} {k : Nat} {c : Con} (h : μ[k]? = some (.lv true c l)) : unlk k x μ = .ok x (μ.set k (.lv false c l)) := by
  unfold unlk
  simp only [h]
end
end MP

/-! plain: dicts whose keys are texts of bits -/
namespace MP
open PySem PySem.Spec L2
theorem find_in : ∀ (B : List Bits) (vs : List D) (p : Bits), vs.length = B.length → (findD (B.map kS) vs (kS p)).isSome = decide (p ∈ B)
  | [], vs, p, h => by
    simp [findD]
  | b :: B, [], p, h => by cases h
  | b :: B, v :: vs, p, h => by
    have ih := find_in B vs p (by simpa using h)
    rw [List.map_cons]
    unfold findD
    by_cases e : b = p
    · subst e
      simp
    · rw [if_neg (by rw [kS_inj]; exact e), ih]
      have : ¬ p = b := fun z => e z.symm
      simp [this]
def addG (G : List Bits) (q : Bits) : List Bits := if q ∈ G then G else G ++ [q]
theorem mem_addG {G : List Bits} {p q : Bits} : p ∈ addG G q ↔ p ∈ G ∨ p = q := by
  unfold addG
  split
  · rename_i h
    exact ⟨.inl, fun x => x.elim id fun e => e ▸ h⟩
  · simp
theorem addG_len (G : List Bits) (q : Bits) : (addG G q).length ≤ G.length + 1 := by
  unfold addG
  split
  · omega
  · simp
theorem any_keys (G : List Bits) (q : Bits) : (G.map kS).any (fun k => decide (k = kS q)) = decide (q ∈ G) := by
  induction G with
  | nil => simp
  | cons a G ih =>
    rw [List.map_cons, List.any_cons, ih, Bool.eq_iff_iff]
    simp only [Bool.or_eq_true, decide_eq_true_eq, List.mem_cons, kS_inj]
    exact ⟨fun h => h.elim (fun h => .inl h.symm) .inr, fun h => h.elim (fun h => .inl h.symm) .inr⟩
theorem putKs_S (G : List Bits) (q : Bits) : putKs (G.map kS) (kS q) = (addG G q).map kS := by
  unfold putKs addG
  rw [any_keys]
  by_cases h : q ∈ G
  · simp only [h, decide_true, if_true]
  · simp only [h, decide_false, if_neg (show ¬ (false = true) by decide), if_false]
    simp
theorem setD_all (d : D) : ∀ (ks : List Key) (k : Key), setD ks (List.replicate ks.length d) k d = List.replicate ks.length d
  | [], _ => rfl
  | a :: ks, k => by
    rw [List.length_cons, List.replicate_succ]
    unfold setD
    rw [setD_all d ks k]
    split <;> rfl
theorem putDs_S (G : List Bits) (q : Bits) (d : D) : putDs (G.map kS) (List.replicate G.length d) (kS q) d = List.replicate (addG G q).length d := by
  unfold putDs addG
  rw [any_keys]
  by_cases h : q ∈ G
  · simp only [h, decide_true, if_true]
    have := setD_all d (G.map kS) (kS q)
    rwa [List.length_map] at this
  · simp only [h, decide_false, if_neg (show ¬ (false = true) by decide), if_false]
    rw [List.length_append, List.length_singleton, List.replicate_succ']
theorem putDs_new {B : List Bits} {q : Bits} {vs : List D} {d : D} (h : q ∉ B) : putDs (B.map kS) vs (kS q) d = vs ++ [d] := by
  unfold putDs
  rw [any_keys]
  simp only [h, decide_false, if_neg (show ¬ (false = true) by decide)]
theorem putKs_new {B : List Bits} {q : Bits} (h : q ∉ B) : putKs (B.map kS) (kS q) = (B ++ [q]).map kS := by
  rw [putKs_S]
  unfold addG
  rw [if_neg h]
theorem dropKs_S (B : List Bits) (q : Bits) : dropKs (B.map kS) (kS q) = (B.filter fun a => decide (a ≠ q)).map kS := by
  unfold dropKs
  induction B with
  | nil => rfl
  | cons a B ih =>
    rw [List.map_cons, List.filter_cons, List.filter_cons]
    by_cases e : a = q
    · subst e
      simp only [ne_eq, not_true_eq_false, decide_false, if_neg (show ¬ (false = true) by decide)]
      exact ih
    · have e' : ¬ kS a = kS q := by
        rw [kS_inj]
        exact e
      simp only [ne_eq, e, e', not_false_eq_true, decide_true, if_true, List.map_cons]
      rw [← ih]
theorem dropDs_len : ∀ (B : List Bits) (vs : List D) (q : Bits), vs.length = B.length → (dropDs (B.map kS) vs (kS q)).length = (B.filter fun a => decide (a ≠ q)).length
  | [], [], _, _ => rfl
  | a :: B, v :: vs, q, h => by
    have ih := dropDs_len B vs q (by simpa using h)
    rw [List.map_cons, List.filter_cons]
    unfold dropDs
    by_cases e : a = q
    · subst e
      rw [if_pos rfl, ih]
      simp only [ne_eq, not_true_eq_false, decide_false, if_neg (show ¬ (false = true) by decide)]
    · rw [if_neg (by rw [kS_inj]; exact e), List.length_cons, ih]
      simp only [ne_eq, e, not_false_eq_true, decide_true, if_true, List.length_cons]
  | [], _ :: _, _, h => by cases h
  | _ :: _, [], _, h => by cases h
theorem dropDs_sub : ∀ (ks : List Key) (vs : List D) (k : Key), ∀ v ∈ dropDs ks vs k, v ∈ vs
  | [], _, _, v, h => by
    unfold dropDs at h
    cases h
  | _ :: _, [], _, v, h => by
    unfold dropDs at h
    cases h
  | a :: ks, d :: vs, k, v, h => by
    unfold dropDs at h
    split at h
    · exact List.mem_cons_of_mem _ (dropDs_sub ks vs k v h)
    · rcases List.mem_cons.mp h with rfl | h
      · exact List.mem_cons_self ..
      · exact List.mem_cons_of_mem _ (dropDs_sub ks vs k v h)
theorem find_some : ∀ {B : List Bits} {vs : List D} {p : Bits}, vs.length = B.length → p ∈ B → ∃ d ∈ vs, findD (B.map kS) vs (kS p) = some d
  | b :: B, v :: vs, p, h, hp => by
    rw [List.map_cons]
    unfold findD
    by_cases e : b = p
    · subst e
      exact ⟨v, List.mem_cons_self .., by rw [if_pos rfl]⟩
    · obtain ⟨d, h1, h2⟩ := find_some (B := B) (vs := vs) (p := p) (by simpa using h) ((List.mem_cons.mp hp).resolve_left fun z => e z.symm)
      exact ⟨d, List.mem_cons_of_mem _ h1, by rw [if_neg (by rw [kS_inj]; exact e)]; exact h2⟩
  | [], _, _, _, hp => by cases hp
  | _ :: _, [], _, h, _ => by cases h
theorem find_none {B : List Bits} {vs : List D} {p : Bits} (h : vs.length = B.length) (hp : p ∉ B) : findD (B.map kS) vs (kS p) = none := by
  have := find_in B vs p h
  rw [decide_eq_false hp] at this
  cases e : findD (B.map kS) vs (kS p) with
  | none => rfl
  | some d =>
    rw [e] at this
    cases this
end MP
namespace MP
open PySem PySem.Spec L2
theorem findS {b p : Bits} {ks : List Key} {d : D} {l : List D} : findD (kS b :: ks) (d :: l) (kS p) = if b = p then some d else findD ks l (kS p) := by
  show (if kS b = kS p then some d else findD ks l (kS p)) = _
  by_cases e : b = p
  · rw [if_pos e, if_pos (by rw [e])]
  · rw [if_neg e, if_neg (by rw [kS_inj]; exact e)]
theorem dropS {b q : Bits} {ks : List Key} {d : D} {l : List D} : dropDs (kS b :: ks) (d :: l) (kS q) = if b = q then dropDs ks l (kS q) else d :: dropDs ks l (kS q) := by
  show (if kS b = kS q then dropDs ks l (kS q) else d :: dropDs ks l (kS q)) = _
  by_cases e : b = q
  · rw [if_pos e, if_pos (by rw [e])]
  · rw [if_neg e, if_neg (by rw [kS_inj]; exact e)]
theorem find_app : ∀ {B : List Bits} {vs : List D} {q : Bits} {d : D} {p : Bits}, vs.length = B.length → q ∉ B → findD ((B ++ [q]).map kS) (vs ++ [d]) (kS p) = if p = q then some d else findD (B.map kS) vs (kS p)
  | [], [], q, d, p, _, _ => by
    show findD (kS q :: []) (d :: []) (kS p) = _
    rw [findS]
    by_cases e : p = q
    · rw [if_pos e, if_pos e.symm]
    · rw [if_neg e, if_neg fun z => e z.symm]
      rfl
  | b :: B, v :: vs, q, d, p, h, hq => by
    have ih := find_app (B := B) (vs := vs) (q := q) (d := d) (p := p) (by simpa using h) fun z => hq (List.mem_cons_of_mem _ z)
    rw [List.cons_append, List.cons_append, List.map_cons, List.map_cons, findS, findS, ih]
    by_cases e : b = p
    · subst e
      have hne : b ≠ q := fun z => hq (z ▸ List.mem_cons_self ..)
      rw [if_pos rfl, if_neg hne, if_pos rfl]
    · rw [if_neg e, if_neg e]
  | [], _ :: _, _, _, _, h, _ => by cases h
  | _ :: _, [], _, _, _, h, _ => by cases h
theorem find_drop : ∀ {B : List Bits} {vs : List D} {q p : Bits}, vs.length = B.length → p ≠ q → findD ((B.filter fun a => decide (a ≠ q)).map kS) (dropDs (B.map kS) vs (kS q)) (kS p) = findD (B.map kS) vs (kS p)
  | [], [], q, p, _, _ => rfl
  | b :: B, v :: vs, q, p, h, hne => by
    have ih := find_drop (B := B) (vs := vs) (q := q) (p := p) (by simpa using h) hne
    rw [List.map_cons, List.filter_cons, dropS, findS]
    by_cases e : b = q
    · subst e
      have e' : ¬ decide (b ≠ b) = true := by simp
      rw [if_neg e', if_pos rfl, if_neg (show ¬ b = p from fun z => hne z.symm), ih]
    · have e' : decide (b ≠ q) = true := decide_eq_true e
      rw [if_neg e, if_pos e', List.map_cons, findS, ih]
  | [], _ :: _, _, _, h, _ => by cases h
  | _ :: _, [], _, _, h, _ => by cases h
theorem noPtrs_iff {n : Nat} : ∀ {l : List D}, noPtrs n l = true ↔ ∀ d ∈ l, noPtr n d = true
  | [] => by simp [noPtrs]
  | d :: l => by
    have ih := noPtrs_iff (n := n) (l := l)
    unfold noPtrs
    rw [Bool.and_eq_true, ih]
    simp
theorem closed_at {μ : Mu} {k : Nat} {ob : Ob} (h : closed μ) (hk : μ[k]? = some ob) : noPtrOb μ.length ob = true := by
  unfold closed noPtrMu at h
  rw [List.take_length, List.all_eq_true] at h
  exact h ob (List.mem_of_getElem? hk)
theorem closed_set {μ : Mu} {k : Nat} {ob : Ob} (h : closed μ) (ho : noPtrOb μ.length ob = true) : closed (μ.set k ob) := by
  unfold closed noPtrMu at h ⊢
  rw [List.length_set]
  rw [List.take_length, List.all_eq_true] at h
  rw [show (μ.set k ob).take μ.length = μ.set k ob by rw [← List.length_set (i := k) (a := ob), List.take_length], List.all_eq_true]
  intro x hx
  rcases List.mem_or_eq_of_mem_set hx with h1 | h1
  · exact h x h1
  · exact h1 ▸ ho
section
variable {ρ : Rho} {μ : Mu} {k : Nat} {ks : List Key} {l : List D} {o y z : ME} {kd d u : D} {key : Key}
theorem dpop_k (ho : o ρ μ = .ok (.ptr k) μ) (hk : μ[k]? = some (.lv false (.dK ks) l)) (hy : y ρ μ = .ok kd μ) (hd : keyD kd = some key) (hf : findD ks l key = some d) : eDPop o y ρ μ = .ok d (μ.set k (.lv false (.dK (dropKs ks key)) (dropDs ks l key))) := by
  unfold eDPop
  rw [ho]
  simp only [R.bind_ok, view_ptr hk, hy, hk, hd, hf]
theorem get_k (ho : o ρ μ = .ok (.ptr k) μ) (hk : μ[k]? = some (.lv false (.dK ks) l)) (hy : y ρ μ = .ok kd μ) (hd : keyD kd = some key) (hz : z ρ μ = .ok u μ) : eGet o y z ρ μ = .ok ((findD ks l key).getD u) μ := by
  unfold eGet
  rw [ho]
  simp only [R.bind_ok, view_ptr hk, hy, hz, hd]
end
end MP

/-! plain: the row of numbers -/
namespace MP
open PySem PySem.Spec L2
noncomputable section
def takenM : MF := defM 4 (sSeq (sIf (tBl (eB2 gtD (eB2 ixD (eVar 0) (eC (.int 3))) (eC (.int 0)))) (sSeq (sSet 2 (eB2 modD (eCN intC (aCons (eB2 ixD (eVar 0) (eC (.int 3))) aNil)) (eVar 1)))
  (sSeq (sAsg (gItem (eVar 0) (eC (.int 3))) (eB2 fdivD (eB2 ixD (eVar 0) (eC (.int 3))) (eVar 1)))
  (sRet (eVar 2)))) sNext)
  (sSeq (sAsg (gItem (eVar 0) (eC (.int 1))) (eB2 addD (eB2 ixD (eVar 0) (eC (.int 1))) (eC (.int 1))))
  (sSeq (sIf (tBl (eB2 gtD (eB2 ixD (eVar 0) (eC (.int 1))) (eCN lenD (aCons (eB2 ixD (eVar 0) (eC (.int 0))) aNil)))) (sSeq (sAsg (gItem (eVar 0) (eC (.int 2))) (eB2 modD (eCN intC (aCons (eB2 addD (eB2 mulD (eB2 ixD (eVar 0) (eC (.int 2))) (eC (.int 48271))) (eC (.int 11))) aNil)) (eC (.int 2147483647))))
  (sRet (eB2 modD (eCN intC (aCons (eB2 fdivD (eB2 ixD (eVar 0) (eC (.int 2))) (eC (.int 7))) aNil)) (eVar 1)))) sNext)
  (sSeq (sSet 3 (eB2 ixD (eB2 ixD (eVar 0) (eC (.int 0))) (eB2 subD (eB2 ixD (eVar 0) (eC (.int 1))) (eC (.int 1)))))
  (sSeq (sAsg (gItem (eVar 0) (eC (.int 2))) (eB2 modD (eCN intC (aCons (eB2 addD (eB2 addD (eB2 mulD (eB2 ixD (eVar 0) (eC (.int 2))) (eC (.int 48271))) (eVar 3)) (eC (.int 11))) aNil)) (eC (.int 2147483647))))
  (sSeq (sIf (tBl (eB2 geD (eVar 3) (eB2 powD (eC (.int 10)) (eC (.int 18))))) (sAsg (gItem (eVar 0) (eC (.int 3))) (eB2 fdivD (eVar 3) (eVar 1))) sNext)
  (sRet (eB2 modD (eCN intC (aCons (eVar 3) aNil)) (eVar 1)))))))))
/-- the row: script, place, seed, rest -/
def rowL (ns : List Int) (k : Nat) (sd rest : Int) : List D := [scrD ns, .int k, .int sd, .int rest]
def rowD (ns : List Int) (k : Nat) (sd rest : Int) : Ob := .lv false .lst (rowL ns k sd rest)
def IsRow (ob : Ob) : Prop := ∃ ns k sd rest, ob = rowD ns k sd rest ∧ 0 ≤ sd ∧ 0 ≤ rest
section
variable {μ : Mu} {r : Nat} {ns : List Int} {k : Nat} {sd rest x : Int}
theorem row_0 (h : μ[r]? = some (rowD ns k sd rest)) : ixD μ (.ptr r) (.int 0) = some (scrD ns) := (ixD_ptr (view_ptr h)).trans (atI_nat _ 0)
theorem row_1 (h : μ[r]? = some (rowD ns k sd rest)) : ixD μ (.ptr r) (.int 1) = some (.int k) := (ixD_ptr (view_ptr h)).trans (atI_nat _ 1)
theorem row_2 (h : μ[r]? = some (rowD ns k sd rest)) : ixD μ (.ptr r) (.int 2) = some (.int sd) := (ixD_ptr (view_ptr h)).trans (atI_nat _ 2)
theorem row_3 (h : μ[r]? = some (rowD ns k sd rest)) : ixD μ (.ptr r) (.int 3) = some (.int rest) := (ixD_ptr (view_ptr h)).trans (atI_nat _ 3)
theorem put_1 {j : Nat} (h : μ[r]? = some (rowD ns k sd rest)) : setItemD μ (.ptr r) (.int 1) (.int j) = some (μ.set r (rowD ns j sd rest)) := setItem_lst (n := 1) h rfl
theorem put_2 (h : μ[r]? = some (rowD ns k sd rest)) : setItemD μ (.ptr r) (.int 2) (.int x) = some (μ.set r (rowD ns k x rest)) := setItem_lst (n := 2) h rfl
theorem put_3 (h : μ[r]? = some (rowD ns k sd rest)) : setItemD μ (.ptr r) (.int 3) (.int x) = some (μ.set r (rowD ns k sd x)) := setItem_lst (n := 3) h rfl
theorem put_1' {j : Nat} (h : μ[r]? = some (rowD ns k sd rest)) : setItemD μ (.ptr r) (.int 1) (.int ((j : Int) + 1)) = some (μ.set r (rowD ns (j + 1) sd rest)) := put_1 (j := j + 1) h
theorem mulOk_c (i : Int) {j : Int} (h : -(2 ^ 64) < j ∧ j < 2 ^ 64) : mulOk i j = true := by
  unfold mulOk
  rw [decide_eq_true_eq]
  exact .inr h
end
theorem pow18 {μ : Mu} : powD μ (.int 10) (.int 18) = some (.int 1000000000000000000) := by
  unfold powD intD powOk
  simp
theorem taken_ok {μ : Mu} {r : Nat} {ob : Ob} {n : Int} (hr : μ[r]? = some ob) (ho : IsRow ob) (h0 : 0 < n) (h1 : n < 1073741824) :
    ∃ v ob', callF takenM [.ptr r, .int n] μ = .ok (.int v) (μ.set r ob') ∧ 0 ≤ v ∧ v < n ∧ IsRow ob' := by
  obtain ⟨ns, k, sd, rest, rfl, hs, hz⟩ := ho
  by_cases h : 0 < rest
  · refine ⟨rest % n, rowD ns k sd (rest / n), call_ok ?_ (by simp), Int.emod_nonneg _ (by omega), Int.emod_lt_of_pos _ h0, ⟨_, _, _, _, rfl, hs, Int.ediv_nonneg hz (by omega)⟩⟩
    unfold takenM
    simp only [R.bind_ok, bind_exc, lift_some, defM_k, kDef_nx, kDef_rt, sSeq_k, kSeq_nx, kSeq_rt, kSeq_bk, kSeq_ct, sRet_k, kRet_k, sDrop_k, kDrop_k, sIf_k, kIf_t, kIf_f, sSet_k, kSet_k, sNext_k, sBreak_k, sCont_k, sAsg_k, kAsg_k, kAsg2_k, gSet_k, gItem_k, kGi1_k, kGi2_k, kGi3_k, gsCons_k, kGs_k, gsNil_k, gTup2, gTup3, sPar_k, kPar_k, sPar3_k, kPar3_k, sFldSet_k, kFs1_k, kFs2_k, kFs3_k, sRaise_k, kRaise_k, tst_k, kTst_k, tBl_k, kTBl_k, tAnd_k, kTAnd_t, kTAnd_f, tOr_k, kTOr_t, kTOr_f, tNot_k, kTNot_k, tYes_k, eC_k, eVar_k, kVar_k, eU1_k, kU1_k, eB2_k, kB2_k, kB2'_k, eCN_k, kCN_k, aNil_k, aCons_k, kAc_k, kAc2_k, hNew_k, kNew_0, kNew_1, kNew_4, eAnd_k, kAnd_t, kAnd_f, eOr_k, kOr_t, kOr_f, eNot_k, kNot_k, eIf_k, kIfE_t, kIfE_f, eChain_k, kCh1_k, kCh2_k, kCh3_t, kCh3_f, oNone_k, oSome_k, kOs_k, eSl_k, kSl1_k, kSl2_k, kSl3_k, eCall_k, kCall_1, kCall_2, kCall_3, kCall_4, eMeth_k, kMt2_1, kMt2_2, kMt2_3, eFrz_k, eGet_k, view_int', view_str', view_bl', view_non', view_con', addD_int, subD_int, negD_int, gtD_int, ltD_int, geD_int, leD_int, eqD_int, neD_int, eqD_str, neD_str, eqD_bl, isD_non, isntD_non, intC_int, min2_int, conD_0, conD_1, conD_2, conD_3, truD_bl, truD_lst, truD_tup, tupD_lst, lenD_lst, lenD_tup, lenD_scr, ixD_lst, ixD_tup, ixD_scr, startR, List.map_cons, List.map_nil, List.length_cons, List.length_nil, List.cons_append, List.nil_append, List.replicate, List.getElem?_cons_zero, List.getElem?_cons_succ, List.set_cons_zero, List.set_cons_succ, Nat.reduceAdd, Nat.reduceSub, Nat.zero_add, Bool.not_true, Bool.not_false, row_3 hr, h, decide_true, modD_int h0, fdivD_int h0 h1, put_3 hr]
  · have hr1 := set_get (ob' := rowD ns (k + 1) sd rest) hr
    have m1 : ∀ i : Int, mulOk i 48271 = true := fun i => mulOk_c i (by decide)
    by_cases h2 : ((ns.map D.int).length : Int) < ((k : Int) + 1)
    · refine ⟨(((sd * 48271 + 11) % 2147483647) / 7) % n, rowD ns (k + 1) ((sd * 48271 + 11) % 2147483647) rest, call_ok ?_ (by simp), Int.emod_nonneg _ (by omega), Int.emod_lt_of_pos _ h0, ⟨_, _, _, _, rfl, Int.emod_nonneg _ (by decide), hz⟩⟩
      have hr2 := set_get (ob' := rowD ns (k + 1) ((sd * 48271 + 11) % 2147483647) rest) hr1
      rw [List.set_set] at hr2
      have e1 : ((k + 1 : Nat) : Int) = (k : Int) + 1 := by omega
      unfold takenM
      simp only [R.bind_ok, bind_exc, lift_some, defM_k, kDef_nx, kDef_rt, sSeq_k, kSeq_nx, kSeq_rt, kSeq_bk, kSeq_ct, sRet_k, kRet_k, sDrop_k, kDrop_k, sIf_k, kIf_t, kIf_f, sSet_k, kSet_k, sNext_k, sBreak_k, sCont_k, sAsg_k, kAsg_k, kAsg2_k, gSet_k, gItem_k, kGi1_k, kGi2_k, kGi3_k, gsCons_k, kGs_k, gsNil_k, gTup2, gTup3, sPar_k, kPar_k, sPar3_k, kPar3_k, sFldSet_k, kFs1_k, kFs2_k, kFs3_k, sRaise_k, kRaise_k, tst_k, kTst_k, tBl_k, kTBl_k, tAnd_k, kTAnd_t, kTAnd_f, tOr_k, kTOr_t, kTOr_f, tNot_k, kTNot_k, tYes_k, eC_k, eVar_k, kVar_k, eU1_k, kU1_k, eB2_k, kB2_k, kB2'_k, eCN_k, kCN_k, aNil_k, aCons_k, kAc_k, kAc2_k, hNew_k, kNew_0, kNew_1, kNew_4, eAnd_k, kAnd_t, kAnd_f, eOr_k, kOr_t, kOr_f, eNot_k, kNot_k, eIf_k, kIfE_t, kIfE_f, eChain_k, kCh1_k, kCh2_k, kCh3_t, kCh3_f, oNone_k, oSome_k, kOs_k, eSl_k, kSl1_k, kSl2_k, kSl3_k, eCall_k, kCall_1, kCall_2, kCall_3, kCall_4, eMeth_k, kMt2_1, kMt2_2, kMt2_3, eFrz_k, eGet_k, view_int', view_str', view_bl', view_non', view_con', addD_int, subD_int, negD_int, gtD_int, ltD_int, geD_int, leD_int, eqD_int, neD_int, eqD_str, neD_str, eqD_bl, isD_non, isntD_non, intC_int, min2_int, conD_0, conD_1, conD_2, conD_3, truD_bl, truD_lst, truD_tup, tupD_lst, lenD_lst, lenD_tup, lenD_scr, ixD_lst, ixD_tup, ixD_scr, startR, List.map_cons, List.map_nil, List.length_cons, List.length_nil, List.cons_append, List.nil_append, List.replicate, List.getElem?_cons_zero, List.getElem?_cons_succ, List.set_cons_zero, List.set_cons_succ, Nat.reduceAdd, Nat.reduceSub, Nat.zero_add, Bool.not_true, Bool.not_false, row_3 hr, h, decide_false, row_1 hr, put_1' hr, row_1 hr1, row_0 hr1, scrD, h2, decide_true, row_2 hr1, mulD_int (m1 _), modD_int (show (0 : Int) < 2147483647 by decide), put_2 hr1, row_2 hr2, fdivD_int (show (0 : Int) < 7 by decide) (show (7 : Int) < 1073741824 by decide), modD_int h0, e1, List.set_set]
    · have hk : k < ns.length := by
        rw [List.length_map] at h2
        omega
      have hx : ns[k]? = some ns[k] := List.getElem?_eq_getElem hk
      have e1 : ((k + 1 : Nat) : Int) = (k : Int) + 1 := by omega
      have e2 : (k : Int) + 1 - 1 = (k : Int) := by omega
      have e3 : atI (ns.map D.int) (k : Int) = some (.int ns[k]) := by
        rw [atI_nat, List.getElem?_map, hx]
        rfl
      have hr2 := set_get (ob' := rowD ns (k + 1) ((sd * 48271 + ns[k] + 11) % 2147483647) rest) hr1
      rw [List.set_set] at hr2
      by_cases h3 : (1000000000000000000 : Int) ≤ ns[k]
      · refine ⟨ns[k] % n, rowD ns (k + 1) ((sd * 48271 + ns[k] + 11) % 2147483647) (ns[k] / n), call_ok ?_ (by simp), Int.emod_nonneg _ (by omega), Int.emod_lt_of_pos _ h0, ⟨_, _, _, _, rfl, Int.emod_nonneg _ (by decide), Int.ediv_nonneg (by omega) (by omega)⟩⟩
        unfold takenM
        simp only [R.bind_ok, bind_exc, lift_some, defM_k, kDef_nx, kDef_rt, sSeq_k, kSeq_nx, kSeq_rt, kSeq_bk, kSeq_ct, sRet_k, kRet_k, sDrop_k, kDrop_k, sIf_k, kIf_t, kIf_f, sSet_k, kSet_k, sNext_k, sBreak_k, sCont_k, sAsg_k, kAsg_k, kAsg2_k, gSet_k, gItem_k, kGi1_k, kGi2_k, kGi3_k, gsCons_k, kGs_k, gsNil_k, gTup2, gTup3, sPar_k, kPar_k, sPar3_k, kPar3_k, sFldSet_k, kFs1_k, kFs2_k, kFs3_k, sRaise_k, kRaise_k, tst_k, kTst_k, tBl_k, kTBl_k, tAnd_k, kTAnd_t, kTAnd_f, tOr_k, kTOr_t, kTOr_f, tNot_k, kTNot_k, tYes_k, eC_k, eVar_k, kVar_k, eU1_k, kU1_k, eB2_k, kB2_k, kB2'_k, eCN_k, kCN_k, aNil_k, aCons_k, kAc_k, kAc2_k, hNew_k, kNew_0, kNew_1, kNew_4, eAnd_k, kAnd_t, kAnd_f, eOr_k, kOr_t, kOr_f, eNot_k, kNot_k, eIf_k, kIfE_t, kIfE_f, eChain_k, kCh1_k, kCh2_k, kCh3_t, kCh3_f, oNone_k, oSome_k, kOs_k, eSl_k, kSl1_k, kSl2_k, kSl3_k, eCall_k, kCall_1, kCall_2, kCall_3, kCall_4, eMeth_k, kMt2_1, kMt2_2, kMt2_3, eFrz_k, eGet_k, view_int', view_str', view_bl', view_non', view_con', addD_int, subD_int, negD_int, gtD_int, ltD_int, geD_int, leD_int, eqD_int, neD_int, eqD_str, neD_str, eqD_bl, isD_non, isntD_non, intC_int, min2_int, conD_0, conD_1, conD_2, conD_3, truD_bl, truD_lst, truD_tup, tupD_lst, lenD_lst, lenD_tup, lenD_scr, ixD_lst, ixD_tup, ixD_scr, startR, List.map_cons, List.map_nil, List.length_cons, List.length_nil, List.cons_append, List.nil_append, List.replicate, List.getElem?_cons_zero, List.getElem?_cons_succ, List.set_cons_zero, List.set_cons_succ, Nat.reduceAdd, Nat.reduceSub, Nat.zero_add, Bool.not_true, Bool.not_false, row_3 hr, h, decide_false, row_1 hr, put_1' hr, row_1 hr1, row_0 hr1, scrD, h2, row_2 hr1, mulD_int (m1 _), modD_int (show (0 : Int) < 2147483647 by decide), put_2 hr1, e1, e2, e3, pow18, h3, decide_true, fdivD_int h0 h1, put_3 hr2, modD_int h0, List.set_set]
      · refine ⟨ns[k] % n, rowD ns (k + 1) ((sd * 48271 + ns[k] + 11) % 2147483647) rest, call_ok ?_ (by simp), Int.emod_nonneg _ (by omega), Int.emod_lt_of_pos _ h0, ⟨_, _, _, _, rfl, Int.emod_nonneg _ (by decide), hz⟩⟩
        unfold takenM
        simp only [R.bind_ok, bind_exc, lift_some, defM_k, kDef_nx, kDef_rt, sSeq_k, kSeq_nx, kSeq_rt, kSeq_bk, kSeq_ct, sRet_k, kRet_k, sDrop_k, kDrop_k, sIf_k, kIf_t, kIf_f, sSet_k, kSet_k, sNext_k, sBreak_k, sCont_k, sAsg_k, kAsg_k, kAsg2_k, gSet_k, gItem_k, kGi1_k, kGi2_k, kGi3_k, gsCons_k, kGs_k, gsNil_k, gTup2, gTup3, sPar_k, kPar_k, sPar3_k, kPar3_k, sFldSet_k, kFs1_k, kFs2_k, kFs3_k, sRaise_k, kRaise_k, tst_k, kTst_k, tBl_k, kTBl_k, tAnd_k, kTAnd_t, kTAnd_f, tOr_k, kTOr_t, kTOr_f, tNot_k, kTNot_k, tYes_k, eC_k, eVar_k, kVar_k, eU1_k, kU1_k, eB2_k, kB2_k, kB2'_k, eCN_k, kCN_k, aNil_k, aCons_k, kAc_k, kAc2_k, hNew_k, kNew_0, kNew_1, kNew_4, eAnd_k, kAnd_t, kAnd_f, eOr_k, kOr_t, kOr_f, eNot_k, kNot_k, eIf_k, kIfE_t, kIfE_f, eChain_k, kCh1_k, kCh2_k, kCh3_t, kCh3_f, oNone_k, oSome_k, kOs_k, eSl_k, kSl1_k, kSl2_k, kSl3_k, eCall_k, kCall_1, kCall_2, kCall_3, kCall_4, eMeth_k, kMt2_1, kMt2_2, kMt2_3, eFrz_k, eGet_k, view_int', view_str', view_bl', view_non', view_con', addD_int, subD_int, negD_int, gtD_int, ltD_int, geD_int, leD_int, eqD_int, neD_int, eqD_str, neD_str, eqD_bl, isD_non, isntD_non, intC_int, min2_int, conD_0, conD_1, conD_2, conD_3, truD_bl, truD_lst, truD_tup, tupD_lst, lenD_lst, lenD_tup, lenD_scr, ixD_lst, ixD_tup, ixD_scr, startR, List.map_cons, List.map_nil, List.length_cons, List.length_nil, List.cons_append, List.nil_append, List.replicate, List.getElem?_cons_zero, List.getElem?_cons_succ, List.set_cons_zero, List.set_cons_succ, Nat.reduceAdd, Nat.reduceSub, Nat.zero_add, Bool.not_true, Bool.not_false, row_3 hr, h, decide_false, row_1 hr, put_1' hr, row_1 hr1, row_0 hr1, scrD, h2, row_2 hr1, mulD_int (m1 _), modD_int (show (0 : Int) < 2147483647 by decide), put_2 hr1, e1, e2, e3, pow18, h3, modD_int h0, List.set_set]
end
end MP

/-! plain: the least of rows of a number and a text -/
namespace MP
open PySem PySem.Spec L2
open PySem.W (dataLt keyToks keyToksAll alike alikeAll AlikeAll)
open PyProof.Rows (itemOrd)
def pairP (i : Int) (b : Bits) : PyData := .tuple [.int i, .str (S b)]
def pairD (i : Int) (b : Bits) : D := .tup [.int i, .str (S b)]
theorem pair_py (i : Int) (b : Bits) : toPy (pairD i b) = some (pairP i b) := rfl
theorem dlt_ne {i j : Int} {a b : Bits} (h : i ≠ j) : dataLt (pairP i a) (pairP j b) = decide (i < j) := by
  unfold dataLt pairP
  simp only [keyToks, keyToksAll, List.cons_append, List.nil_append]
  rw [PyProof.Rows.lex_self (O := itemOrd), PyProof.Rows.lex_diff (O := itemOrd) (fun z => h (Sum.inl.inj z))]
  rfl
theorem pairs_py (k : Bits → Int) : ∀ l : List Bits, toPyL (l.map fun b => pairD (k b) b) = some (l.map fun b => pairP (k b) b)
  | [] => rfl
  | a :: l => by
    rw [List.map_cons, List.map_cons]
    unfold toPyL
    rw [pair_py, pairs_py k l]
theorem pairs_min (k : Bits → Int) (l : List Bits) : minCond (l.map fun b => pairP (k b) b) := by
  refine ⟨⟨fun x hx y hy => ?_, fun x hx => ?_⟩, ?_⟩
  · obtain ⟨a, _, rfl⟩ := List.mem_map.mp hx
    obtain ⟨b, _, rfl⟩ := List.mem_map.mp hy
    simp [pairP, alike, alikeAll]
  · obtain ⟨a, _, rfl⟩ := List.mem_map.mp hx
    simp [pairP]
  · induction l with
    | nil => simp [PyData.depthAll]
    | cons a l ih =>
      rw [List.map_cons]
      unfold PyData.depthAll
      have : (pairP (k a) a).depth = 1 := by simp [pairP, PyData.depth, PyData.depthAll]
      omega
/-- the fold's end: one of them, none before it -/
theorem fold_min (k : Bits → Int) : ∀ (l : List Bits) (a : Bits), ∃ m ∈ a :: l, ((l.map fun b => pairD (k b) b).zip (l.map fun b => pairP (k b) b)).foldl minStep (pairD (k a) a, pairP (k a) a) = (pairD (k m) m, pairP (k m) m) ∧ ∀ x ∈ a :: l, k m ≤ k x
  | [], a => ⟨a, by simp, rfl, by simp⟩
  | b :: l, a => by
    rw [List.map_cons, List.map_cons, List.zip_cons_cons, List.foldl_cons]
    by_cases h : k b < k a
    · have e : minStep (pairD (k a) a, pairP (k a) a) (pairD (k b) b, pairP (k b) b) = (pairD (k b) b, pairP (k b) b) := by
        unfold minStep
        simp only [dlt_ne (show k b ≠ k a by omega), h, decide_true, if_true]
      obtain ⟨m, h1, h2, h3⟩ := fold_min k l b
      refine ⟨m, List.mem_cons_of_mem _ h1, by rw [e]; exact h2, fun x hx => ?_⟩
      rcases List.mem_cons.mp hx with rfl | hx
      · have := h3 b (List.mem_cons_self ..)
        omega
      · exact h3 x hx
    · obtain ⟨m1, h1, h2, h3⟩ : ∃ c, (c = a ∨ c = b) ∧ k c = k a ∧ minStep (pairD (k a) a, pairP (k a) a) (pairD (k b) b, pairP (k b) b) = (pairD (k c) c, pairP (k c) c) := by
        by_cases h' : k b = k a
        · unfold minStep
          by_cases hd : dataLt (pairP (k b) b) (pairP (k a) a) = true
          · exact ⟨b, .inr rfl, h', by simp only [hd, if_true]⟩
          · exact ⟨a, .inl rfl, rfl, by simp only [hd, if_false, Bool.false_eq_true]⟩
        · refine ⟨a, .inl rfl, rfl, ?_⟩
          unfold minStep
          simp only [dlt_ne h', h, decide_false, Bool.false_eq_true, if_false]
      rw [h3]
      obtain ⟨m, g1, g2, g3⟩ := fold_min k l m1
      refine ⟨m, ?_, g2, fun x hx => ?_⟩
      · rcases List.mem_cons.mp g1 with rfl | g1
        · rcases h1 with rfl | rfl <;> simp
        · simp [g1]
      · have g0 := g3 m1 (List.mem_cons_self ..)
        rcases List.mem_cons.mp hx with rfl | hx
        · omega
        · rcases List.mem_cons.mp hx with rfl | hx
          · omega
          · exact g3 x (List.mem_cons_of_mem _ hx)
theorem minL_pairs (k : Bits → Int) {l : List Bits} (h : l ≠ []) : ∃ m ∈ l, minL (l.map fun b => pairD (k b) b) = some (pairD (k m) m) ∧ ∀ x ∈ l, k m ≤ k x := by
  cases l with
  | nil => exact absurd rfl h
  | cons a l =>
    obtain ⟨m, h1, h2, h3⟩ := fold_min k l a
    refine ⟨m, h1, ?_, h3⟩
    have e := pairs_py k (a :: l)
    have c := pairs_min k (a :: l)
    unfold minL
    rw [e]
    simp only [List.map_cons] at c ⊢
    rw [if_pos c, h2]
end MP

namespace K18
open PySem PySem.Spec L2 MP
noncomputable section
def WF : Nat := 1000000
def refL : RefL := [("BadWidth", "width"), ("BadLength", "length"), ("BadOwner", "owner"), ("BadBlock", "block"), ("NoRoom", "room"), ("BadPool", "pool"), ("BadAddress", "address")]
def s__law_taken : MF := defM 4 (sSeq (sIf (tBl (eB2 gtD (eB2 ixD (eVar 0) (eC (.int 3))) (eC (.int 0)))) (sSeq (sSet 2 (eB2 modD (eCN intC (aCons (eB2 ixD (eVar 0) (eC (.int 3))) aNil)) (eVar 1)))
  (sSeq (sAsg (gItem (eVar 0) (eC (.int 3))) (eB2 fdivD (eB2 ixD (eVar 0) (eC (.int 3))) (eVar 1)))
  (sRet (eVar 2)))) sNext)
  (sSeq (sAsg (gItem (eVar 0) (eC (.int 1))) (eB2 addD (eB2 ixD (eVar 0) (eC (.int 1))) (eC (.int 1))))
  (sSeq (sIf (tBl (eB2 gtD (eB2 ixD (eVar 0) (eC (.int 1))) (eCN lenD (aCons (eB2 ixD (eVar 0) (eC (.int 0))) aNil)))) (sSeq (sAsg (gItem (eVar 0) (eC (.int 2))) (eB2 modD (eCN intC (aCons (eB2 addD (eB2 mulD (eB2 ixD (eVar 0) (eC (.int 2))) (eC (.int 48271))) (eC (.int 11))) aNil)) (eC (.int 2147483647))))
  (sRet (eB2 modD (eCN intC (aCons (eB2 fdivD (eB2 ixD (eVar 0) (eC (.int 2))) (eC (.int 7))) aNil)) (eVar 1)))) sNext)
  (sSeq (sSet 3 (eB2 ixD (eB2 ixD (eVar 0) (eC (.int 0))) (eB2 subD (eB2 ixD (eVar 0) (eC (.int 1))) (eC (.int 1)))))
  (sSeq (sAsg (gItem (eVar 0) (eC (.int 2))) (eB2 modD (eCN intC (aCons (eB2 addD (eB2 addD (eB2 mulD (eB2 ixD (eVar 0) (eC (.int 2))) (eC (.int 48271))) (eVar 3)) (eC (.int 11))) aNil)) (eC (.int 2147483647))))
  (sSeq (sIf (tBl (eB2 geD (eVar 3) (eB2 powD (eC (.int 10)) (eC (.int 18))))) (sAsg (gItem (eVar 0) (eC (.int 3))) (eB2 fdivD (eVar 3) (eVar 1))) sNext)
  (sRet (eB2 modD (eCN intC (aCons (eVar 3) aNil)) (eVar 1)))))))))
def s__law_pick : MF := defM 2 (sRet (eB2 ixD (eVar 1) (eCall s__law_taken 2 (aCons (eVar 0) (aCons (eCN lenD (aCons (eVar 1) aNil)) aNil)))))
def s_is_integer : MF := defM 1 (sRet (eAnd (eU1 (isiD ["Pool"] (.b "int")) (eVar 0)) (eNot (eU1 (isiD ["Pool"] (.b "bool")) (eVar 0)))))
def s_is_within : MF := defM 3 (sRet (eAnd (eCall s_is_integer 1 (aCons (eVar 0) aNil)) (eChain leD leD (eVar 1) (eVar 0) (eVar 2))))
def s_need_width : MF := defM 1 (sIf (tNot (tst (eCall s_is_within 3 (aCons (eVar 0) (aCons (eC (.int 1)) (aCons (eC (.int 64)) aNil)))))) (sRaise "BadWidth" (eVar 0)) sNext)
def s_Pool___init__ : MF := defM 2 (sSeq (sDrop (eCall s_need_width 1 (aCons (eVar 1) aNil)))
  (sSeq (sFldSet "width" ["Pool"] (eVar 0) (eVar 1))
  (sFldSet "owners" ["Pool"] (eVar 0) (hNew (.dK []) aNil))))
def s__law_block : MF := defM 2 (sRet (eB2 subD (eVar 1) (eCN min2 (aCons (eVar 1) (aCons (eIf (tBl (eB2 eqD (eCall s__law_taken 2 (aCons (eVar 0) (aCons (eC (.int 2)) aNil))) (eC (.int 0)))) (eCall s__law_taken 2 (aCons (eVar 0) (aCons (eB2 addD (eC (.int 3)) (eB2 fdivD (eVar 1) (eC (.int 2)))) aNil))) (eCall s__law_taken 2 (aCons (eVar 0) (aCons (eC (.int 4)) aNil)))) aNil)))))
def s_Pool_need_length : MF := defM 2 (sIf (tNot (tst (eCall s_is_within 3 (aCons (eVar 1) (aCons (eC (.int 0)) (aCons (eU1 (fldD "width" ["Pool"]) (eVar 0)) aNil)))))) (sRaise "BadLength" (eVar 1)) sNext)
def s_need_owner : MF := defM 1 (sIf (tNot (tst (eCall s_is_within 3 (aCons (eVar 0) (aCons (eC (.int 0)) (aCons (eC (.int 999)) aNil)))))) (sRaise "BadOwner" (eVar 0)) sNext)
def s_free_below : Nat → MF
  | 0 => stuckF
  | n + 1 => defM 3 (sSeq (sIf (tBl (eB2 inD (eVar 2) (eVar 0))) (sRet (eCN (conD .lst) aNil)) sNext)
  (sSeq (sIf (tBl (eB2 ninD (eVar 2) (eVar 1))) (sRet (eCN (conD .lst) (aCons (eVar 2) aNil))) sNext)
  (sRet (eB2 addD (eCall (s_free_below n) 3 (aCons (eVar 0) (aCons (eVar 1) (aCons (eB2 addD (eVar 2) (eC (.str "0"))) aNil)))) (eCall (s_free_below n) 3 (aCons (eVar 0) (aCons (eVar 1) (aCons (eB2 addD (eVar 2) (eC (.str "1"))) aNil))))))))
def s_free_of : MF := defM 4 (sSeq (sSet 1 (hNew (.dK []) aNil))
  (sSeq (lockM (vSel 0) (sFor (iKeysL (eVar 0)) (gSet 2) (sFor (iRng rng1 (aCons (eCN lenD (aCons (eVar 2) aNil)) aNil)) (gSet 3) (sAsg (gItem (eVar 1) (eSl (eVar 2) oNone (oSome (eVar 3)))) (eC (.bl true))))))
  (sRet (eCall (s_free_below 70) 3 (aCons (eVar 0) (aCons (eVar 1) (aCons (eC (.str "")) aNil)))))))
def s_Pool_give_block : MF := defM 6 (sSeq (sDrop (eMeth "Pool" "need_length" s_Pool_need_length 2 (eVar 0) (aCons (eVar 1) aNil)))
  (sSeq (sDrop (eCall s_need_owner 1 (aCons (eVar 2) aNil)))
  (sSeq (sSet 3 (eLc [4] (iSeq (eCall s_free_of 1 (aCons (eU1 (fldD "owners" ["Pool"]) (eVar 0)) aNil))) (gSet 4) (tBl (eB2 leD (eCN lenD (aCons (eVar 4) aNil)) (eVar 1))) (eCN (conD .tup) (aCons (eU1 negD (eCN lenD (aCons (eVar 4) aNil))) (aCons (eVar 4) aNil)))))
  (sSeq (sIf (tNot (tst (eVar 3))) (sRaise "NoRoom" (eVar 1)) sNext)
  (sSeq (sSet 4 (eB2 ixD (eCN min1 (aCons (eVar 3) aNil)) (eC (.int 1))))
  (sSeq (sSet 5 (eB2 addD (eVar 4) (eB2 mulD (eC (.str "0")) (eB2 subD (eVar 1) (eCN lenD (aCons (eVar 4) aNil))))))
  (sSeq (sAsg (gItem (eU1 (fldD "owners" ["Pool"]) (eVar 0)) (eVar 5)) (eVar 2))
  (sRet (eVar 5)))))))))
def s_Pool_need_block : MF := defM 2 (sIf (tOr (tNot (tst (eU1 (isiD ["Pool"] (.b "str")) (eVar 1)))) (tBl (eB2 ninD (eVar 1) (eU1 (fldD "owners" ["Pool"]) (eVar 0))))) (sRaise "BadBlock" (eVar 1)) sNext)
def s_Pool_split_block : MF := defM 3 (sSeq (sDrop (eMeth "Pool" "need_block" s_Pool_need_block 2 (eVar 0) (aCons (eVar 1) aNil)))
  (sSeq (sIf (tBl (eB2 eqD (eCN lenD (aCons (eVar 1) aNil)) (eU1 (fldD "width" ["Pool"]) (eVar 0)))) (sRaise "BadBlock" (eVar 1)) sNext)
  (sSeq (sSet 2 (eDPop (eU1 (fldD "owners" ["Pool"]) (eVar 0)) (eVar 1)))
  (sSeq (sAsg (gItem (eU1 (fldD "owners" ["Pool"]) (eVar 0)) (eB2 addD (eVar 1) (eC (.str "0")))) (eVar 2))
  (sAsg (gItem (eU1 (fldD "owners" ["Pool"]) (eVar 0)) (eB2 addD (eVar 1) (eC (.str "1")))) (eVar 2))))))
def s_need_pool : MF := defM 1 (sIf (tNot (tst (eU1 (isiD ["Pool"] (.own "Pool")) (eVar 0)))) (sRaise "BadPool" (eVar 0)) sNext)
def s_free_blocks : MF := defM 1 (sSeq (sDrop (eCall s_need_pool 1 (aCons (eVar 0) aNil)))
  (sRet (eCN tupD (aCons (eCall s_free_of 1 (aCons (eU1 (fldD "owners" ["Pool"]) (eVar 0)) aNil)) aNil))))
def s_count_free : MF := defM 2 (sSeq (sDrop (eCall s_need_pool 1 (aCons (eVar 0) aNil)))
  (sRet (eCN sumD (aCons (eLc [1] (iSeq (eCall s_free_of 1 (aCons (eU1 (fldD "owners" ["Pool"]) (eVar 0)) aNil))) (gSet 1) tYesD (eB2 shlD (eC (.int 1)) (eB2 subD (eU1 (fldD "width" ["Pool"]) (eVar 0)) (eCN lenD (aCons (eVar 1) aNil))))) aNil))))
def s_is_bits : MF := defM 3 (sRet (eAnd (eU1 (isiD ["Pool"] (.b "str")) (eVar 0)) (eAnd (eB2 leD (eCN lenD (aCons (eVar 0) aNil)) (eVar 1)) (eCN allD (aCons (eLc [2] (iSeq (eVar 0)) (gSet 2) tYesD (eB2 inD (eVar 2) (eC (.str "01")))) aNil)))))
def s_is_prefix : MF := defM 1 (sRet (eCall s_is_bits 2 (aCons (eVar 0) (aCons (eC (.int 64)) aNil))))
def s_Pool_merge_block : MF := defM 4 (sSeq (sIf (tNot (tst (eCall s_is_prefix 1 (aCons (eVar 1) aNil)))) (sRaise "BadBlock" (eVar 1)) sNext)
  (sSeq (sPar 2 3 (aCons (eGet (eU1 (fldD "owners" ["Pool"]) (eVar 0)) (eB2 addD (eVar 1) (eC (.str "0"))) (eC .non)) (aCons (eGet (eU1 (fldD "owners" ["Pool"]) (eVar 0)) (eB2 addD (eVar 1) (eC (.str "1"))) (eC .non)) aNil)))
  (sSeq (sIf (tOr (tBl (eB2 isD (eVar 2) (eC .non))) (tBl (eB2 neD (eVar 2) (eVar 3)))) (sRaise "BadBlock" (eVar 1)) sNext)
  (sSeq (sDrop (eDPop (eU1 (fldD "owners" ["Pool"]) (eVar 0)) (eB2 addD (eVar 1) (eC (.str "0")))))
  (sSeq (sDrop (eDPop (eU1 (fldD "owners" ["Pool"]) (eVar 0)) (eB2 addD (eVar 1) (eC (.str "1")))))
  (sAsg (gItem (eU1 (fldD "owners" ["Pool"]) (eVar 0)) (eVar 1)) (eVar 2)))))))
def s_Pool_blocks : MF := defM 2 (sRet (eCN tupD (aCons (eLc [1] (iSeq (eCN sortedD (aCons (eU1 (fldD "owners" ["Pool"]) (eVar 0)) aNil))) (gSet 1) tYesD (eCN (conD .tup) (aCons (eVar 1) (aCons (eB2 ixD (eU1 (fldD "owners" ["Pool"]) (eVar 0)) (eVar 1)) aNil)))) aNil)))
/-! ### the text -/
abbrev top (i : Nat) : Stmt := PySem.Challenge.pw_leastroutes_k18_whole_no_refusal.main.body.getD i (.Pass ⟨0, 0, 0, 0⟩)
abbrev cst (s : Stmt) (j : Nat) : Stmt := match s with
  | .ClassDef _ _ _ b _ _ _ _ _ _ _ => b.getD j (.Pass ⟨0, 0, 0, 0⟩)
  | _ => .Pass ⟨0, 0, 0, 0⟩
structure Fc (K : PySem.W.Frag) (mg : Str → Option Value) : Prop where
  fd__law_taken : ∃ fd, FunD K "_law_taken" "_law_taken" (defArgs (top 28)) (defBody (top 28)) (defScope (top 28)) [] [] (He.fAd K ("_law_taken", none)) fd
  fd__law_pick : ∃ fd, FunD K "_law_pick" "_law_pick" (defArgs (top 29)) (defBody (top 29)) (defScope (top 29)) [] [] (He.fAd K ("_law_pick", none)) fd
  fd_is_integer : ∃ fd, FunD K "is_integer" "is_integer" (defArgs (top 3)) (defBody (top 3)) (defScope (top 3)) [] [] (He.fAd K ("is_integer", none)) fd
  fd_is_within : ∃ fd, FunD K "is_within" "is_within" (defArgs (top 4)) (defBody (top 4)) (defScope (top 4)) [] [] (He.fAd K ("is_within", none)) fd
  fd_need_width : ∃ fd, FunD K "need_width" "need_width" (defArgs (top 17)) (defBody (top 17)) (defScope (top 17)) [] [] (He.fAd K ("need_width", none)) fd
  fd_Pool___init__ : ∃ fd, FunD K "__init__" "Pool.__init__" (defArgs (cst (top 20) 0)) (defBody (cst (top 20) 0)) (defScope (cst (top 20) 0)) [] [] (He.fAd K ("Pool", some "__init__")) fd
  fd__law_block : ∃ fd, FunD K "_law_block" "_law_block" (defArgs (top 30)) (defBody (top 30)) (defScope (top 30)) [] [] (He.fAd K ("_law_block", none)) fd
  fd_Pool_need_length : ∃ fd, FunD K "need_length" "Pool.need_length" (defArgs (cst (top 20) 6)) (defBody (cst (top 20) 6)) (defScope (cst (top 20) 6)) [] [] (He.fAd K ("Pool", some "need_length")) fd
  fd_need_owner : ∃ fd, FunD K "need_owner" "need_owner" (defArgs (top 21)) (defBody (top 21)) (defScope (top 21)) [] [] (He.fAd K ("need_owner", none)) fd
  fd_free_below : ∃ fd, FunD K "free_below" "free_below" (defArgs (top 23)) (defBody (top 23)) (defScope (top 23)) [] [] (He.fAd K ("free_below", none)) fd
  fd_free_of : ∃ fd, FunD K "free_of" "free_of" (defArgs (top 24)) (defBody (top 24)) (defScope (top 24)) [] [] (He.fAd K ("free_of", none)) fd
  fd_Pool_give_block : ∃ fd, FunD K "give_block" "Pool.give_block" (defArgs (cst (top 20) 2)) (defBody (cst (top 20) 2)) (defScope (cst (top 20) 2)) [] [] (He.fAd K ("Pool", some "give_block")) fd
  fd_Pool_need_block : ∃ fd, FunD K "need_block" "Pool.need_block" (defArgs (cst (top 20) 7)) (defBody (cst (top 20) 7)) (defScope (cst (top 20) 7)) [] [] (He.fAd K ("Pool", some "need_block")) fd
  fd_Pool_split_block : ∃ fd, FunD K "split_block" "Pool.split_block" (defArgs (cst (top 20) 4)) (defBody (cst (top 20) 4)) (defScope (cst (top 20) 4)) [] [] (He.fAd K ("Pool", some "split_block")) fd
  fd_need_pool : ∃ fd, FunD K "need_pool" "need_pool" (defArgs (top 22)) (defBody (top 22)) (defScope (top 22)) [] [] (He.fAd K ("need_pool", none)) fd
  fd_free_blocks : ∃ fd, FunD K "free_blocks" "free_blocks" (defArgs (top 25)) (defBody (top 25)) (defScope (top 25)) [] [] (He.fAd K ("free_blocks", none)) fd
  fd_count_free : ∃ fd, FunD K "count_free" "count_free" (defArgs (top 26)) (defBody (top 26)) (defScope (top 26)) [] [] (He.fAd K ("count_free", none)) fd
  fd_is_bits : ∃ fd, FunD K "is_bits" "is_bits" (defArgs (top 5)) (defBody (top 5)) (defScope (top 5)) [] [] (He.fAd K ("is_bits", none)) fd
  fd_is_prefix : ∃ fd, FunD K "is_prefix" "is_prefix" (defArgs (top 6)) (defBody (top 6)) (defScope (top 6)) [] [] (He.fAd K ("is_prefix", none)) fd
  fd_Pool_merge_block : ∃ fd, FunD K "merge_block" "Pool.merge_block" (defArgs (cst (top 20) 5)) (defBody (cst (top 20) 5)) (defScope (cst (top 20) 5)) [] [] (He.fAd K ("Pool", some "merge_block")) fd
  fd_Pool_blocks : ∃ fd, FunD K "blocks" "Pool.blocks" (defArgs (cst (top 20) 1)) (defBody (cst (top 20) 1)) (defScope (cst (top 20) 1)) [] [] (He.fAd K ("Pool", some "blocks")) fd
  fd__law_refused : ∃ fd, FunD K "_law_refused" "_law_refused" (defArgs (top 31)) (defBody (top 31)) (defScope (top 31)) [] [] (He.fAd K ("_law_refused", none)) fd
  fd_exc : ∃ fd, FunD K "__init__" "RouteError.__init__" (defArgs (cst (top 8) 0)) (defBody (cst (top 8) 0)) (defScope (cst (top 8) 0)) [.non] [] (He.fAd K ("RouteError", some "__init__")) fd
  g__law_taken : mg "_law_taken" = some (.ref (He.ga K "_law_taken"))
  g_is_integer : mg "is_integer" = some (.ref (He.ga K "is_integer"))
  g_is_within : mg "is_within" = some (.ref (He.ga K "is_within"))
  g_BadWidth : mg "BadWidth" = some (.ref (He.ga K "BadWidth"))
  g_need_width : mg "need_width" = some (.ref (He.ga K "need_width"))
  g_BadLength : mg "BadLength" = some (.ref (He.ga K "BadLength"))
  g_BadOwner : mg "BadOwner" = some (.ref (He.ga K "BadOwner"))
  g_free_below : mg "free_below" = some (.ref (He.ga K "free_below"))
  g_Pool : mg "Pool" = some (.ref (He.ga K "Pool"))
  g_need_owner : mg "need_owner" = some (.ref (He.ga K "need_owner"))
  g_free_of : mg "free_of" = some (.ref (He.ga K "free_of"))
  g_NoRoom : mg "NoRoom" = some (.ref (He.ga K "NoRoom"))
  g_BadBlock : mg "BadBlock" = some (.ref (He.ga K "BadBlock"))
  g_BadPool : mg "BadPool" = some (.ref (He.ga K "BadPool"))
  g_need_pool : mg "need_pool" = some (.ref (He.ga K "need_pool"))
  g_is_bits : mg "is_bits" = some (.ref (He.ga K "is_bits"))
  g_is_prefix : mg "is_prefix" = some (.ref (He.ga K "is_prefix"))
  g__law_pick : mg "_law_pick" = some (.ref (He.ga K "_law_pick"))
  g__law_block : mg "_law_block" = some (.ref (He.ga K "_law_block"))
  g__law_refused : mg "_law_refused" = some (.ref (He.ga K "_law_refused"))
  g_BadAddress : mg "BadAddress" = some (.ref (He.ga K "BadAddress"))
  g_free_blocks : mg "free_blocks" = some (.ref (He.ga K "free_blocks"))
  g_count_free : mg "count_free" = some (.ref (He.ga K "count_free"))
  f_int : mg "int" = none
  f_len : mg "len" = none
  f_bool : mg "bool" = none
  f_isinstance : mg "isinstance" = none
  f_min : mg "min" = none
  f_range : mg "range" = none
  f_str : mg "str" = none
  f_tuple : mg "tuple" = none
  f_sum : mg "sum" = none
  f_all : mg "all" = none
  f_sorted : mg "sorted" = none
  f_repr : mg "repr" = none
  f_set : mg "set" = none
  i_MOST_BITS : ∃ t, mg "MOST_BITS" = some (.int 64 t)
  i_MOST_OWNER : ∃ t, mg "MOST_OWNER" = some (.int 999 t)
  fld_width : FldOk K mg "width" ["Pool"]
  fld_owners : FldOk K mg "owners" ["Pool"]
  cls_Pool : Cls K (He.ga K "Pool")
  meth_Pool_need_length : Meth K (He.ga K "Pool") "need_length" (He.fAd K ("Pool", some "need_length"))
  meth_Pool_need_block : Meth K (He.ga K "Pool") "need_block" (He.fAd K ("Pool", some "need_block"))
  meth_Pool_give_block : Meth K (He.ga K "Pool") "give_block" (He.fAd K ("Pool", some "give_block"))
  meth_Pool_split_block : Meth K (He.ga K "Pool") "split_block" (He.fAd K ("Pool", some "split_block"))
  meth_Pool_merge_block : Meth K (He.ga K "Pool") "merge_block" (He.fAd K ("Pool", some "merge_block"))
  meth_Pool_blocks : Meth K (He.ga K "Pool") "blocks" (He.fAd K ("Pool", some "blocks"))
  mk_Pool : L2.Mk K (He.ga K "Pool") (He.fAd K ("Pool", some "__init__"))
  clsF : ClsF K mg ["Pool"]
  exc_BadWidth : ExcK K mg "BadWidth" (He.fAd K ("RouteError", some "__init__"))
  exc_BadLength : ExcK K mg "BadLength" (He.fAd K ("RouteError", some "__init__"))
  exc_BadOwner : ExcK K mg "BadOwner" (He.fAd K ("RouteError", some "__init__"))
  exc_NoRoom : ExcK K mg "NoRoom" (He.fAd K ("RouteError", some "__init__"))
  exc_BadBlock : ExcK K mg "BadBlock" (He.fAd K ("RouteError", some "__init__"))
  exc_BadPool : ExcK K mg "BadPool" (He.fAd K ("RouteError", some "__init__"))
  ref : RefF K mg refL (He.ga K)
section
variable [Tb] {P : Program} {w : World} {K : PySem.W.Frag} {mg : Str → Option Value} {base : Heap}
theorem sc_exc : FnScope ["self", "value"] ["self", "value"] (defScope (cst (top 8) 0)) := ⟨rfl, rfl, rfl, by decide +kernel, rfl, by decide +kernel, by decide +kernel⟩
def fdE (B : Fc K mg) : FuncData := B.fd_exc.choose
theorem fdE_ok (B : Fc K mg) : FunD K "__init__" "RouteError.__init__" (defArgs (cst (top 8) 0)) (defBody (cst (top 8) 0)) (defScope (cst (top 8) 0)) [.non] [] (He.fAd K ("RouteError", some "__init__")) (fdE B) := B.fd_exc.choose_spec
theorem d_exc (B : Fc K mg) : FnOk P w K mg base (L2.CX P w) 1 (He.fAd K ("RouteError", some "__init__")) (fdE B) ["self", "value"] (spExc K) := ok_excInit (fdE_ok B) sc_exc rfl (fun _ => rfl)
theorem d_excB (B : Fc K mg) : Binds K (fdE B) ["self", "value"] [] := excBinds (fdE_ok B) fun _ _ _ _ _ _ _ us its h1 h2 => match us, its, h1, h2 with | [_, _], [_], _, _ => ⟨_, rfl, rfl⟩
theorem sc__law_refused : FnScope ["ask", "e"] ["ask"] (defScope (top 31)) := ⟨rfl, rfl, rfl, by decide +kernel, rfl, by decide +kernel, by decide +kernel⟩
theorem d_ref {X : Cx} {E : XK} {c Pt : Addr} {k : Nat} {params : Arguments} {body : Expr} {scope : Scope} {m : ME} {p lpos pos : Pos} (B : Fc X.K X.mg) (hg : Gl X "_law_refused")
    (TB : LamX.TabB X.base X.mg c Pt) (hcode : X.env.code = .ref c) (hmT : (Pt, X.env.qual ++ "<lambda>") ∈ Tb.T) (hu : ∀ p ∈ Tb.T, p.1 = Pt → p.2 = X.env.qual ++ "<lambda>") (hr : Room (k + 2) X.A) (L : LamX.LamS X.env.scope scope) (hdef : defaultsOf params X.env = ([], []))
    (hbind : ∀ (q : Str) (cl : List (Str × Addr)) (pm cv ctv : Value), bindArgs (PySem.W.kla_fn "<lambda>" q params body scope cl pm cv ctv) ⟨[], []⟩ = pure [])
    (he : ∀ (A : Around) (outer : List Env) (s : Shared) (H : Hp) (E' : XK) (f c' : Addr), Room k (A.deeper (LamX.lamEnv X scope s.heap.objs.size f c')) → PDE (LamX.lamCx X A outer s H E' scope f c') E' body m) :
    PDE X E (.Call (.Name "_law_refused" p) [.Lambda params body scope lpos] [] pos) (eRef refL m) := by
  obtain ⟨fd, G⟩ := B.fd__law_refused
  exact pd_refK G rfl (.cons (.cons (.cons (.cons (.cons (.cons (.cons .nil))))))) sc__law_refused (Or.inl rfl) rfl (by decide +kernel) (by decide +kernel) (fun _ _ _ => rfl) (fun _ _ _ _ _ _ us hl => match us, hl with | [_], _ => rfl) B.ref hg B.g__law_refused TB hcode hmT hu hr L hdef hbind he
theorem sc__law_taken : FnScope ["row", "many", "found", "cell"] ["row", "many"] (defScope (top 28)) := ⟨rfl, rfl, rfl, by decide +kernel, rfl, by decide +kernel, by decide +kernel⟩
theorem d__law_taken (B : Fc K mg) : Known P w K mg base 3 (He.fAd K ("_law_taken", none)) 2 s__law_taken := by
  obtain ⟨fd, H0⟩ := B.fd__law_taken
  refine Known.mk (k := 2) H0 sc__law_taken rfl (fun _ _ _ _ _ _ us hl => match us, hl with | [_, _], _ => rfl) (fun cdv A outer s H E hr => ?_)
  exact (pd_scons (pd_sif (pd_tcmp op_gtQ (b2_ord _ _) (pd_ix (ix_4 (Room.u _ hr)) b2_ix (pd_var 0) pd_int) pd_int rfl) (pd_scons (pd_set (i := 2) sc__law_taken.nd rfl (by first | exact Or.inl rfl | exact Or.inr rfl) (pd_op op_mod b2_mod (pd_callTy call_int2 cn_int rfl B.f_int bo_int (pd_cons (pd_ix (ix_4 (Room.u _ hr)) b2_ix (pd_var 0) pd_int) pd_nil)) (pd_var 1)))
  (pd_scons (pd_asg (vw := []) (pd_op op_fdiv b2_fdiv (pd_ix (ix_4 (Room.u _ hr)) b2_ix (pd_var 0) pd_int) (pd_var 1)) (pd_gitem (Room.u _ hr) (pd_var 0) pd_int))
  (pd_sone (pd_ret (pd_var 2))))) pd_snil)
  (pd_scons (pd_asg (vw := []) (pd_op op_add4 b2_add (pd_ix (ix_4 (Room.u _ hr)) b2_ix (pd_var 0) pd_int) pd_int) (pd_gitem (Room.u _ hr) (pd_var 0) pd_int))
  (pd_scons (pd_sif (pd_tcmp op_gtQ (b2_ord _ _) (pd_ix (ix_4 (Room.u _ hr)) b2_ix (pd_var 0) pd_int) (pd_callB call_len3 cn_len rfl B.f_len bo_len (pd_cons (pd_ix (ix_4 (Room.u _ hr)) b2_ix (pd_var 0) pd_int) pd_nil)) rfl) (pd_scons (pd_asg (vw := []) (pd_op op_mod b2_mod (pd_callTy call_int2 cn_int rfl B.f_int bo_int (pd_cons (pd_op op_add4 b2_add (pd_op op_mul3 b2_mul (pd_ix (ix_4 (Room.u _ hr)) b2_ix (pd_var 0) pd_int) pd_int) pd_int) pd_nil)) pd_int) (pd_gitem (Room.u _ hr) (pd_var 0) pd_int))
  (pd_sone (pd_ret (pd_op op_mod b2_mod (pd_callTy call_int2 cn_int rfl B.f_int bo_int (pd_cons (pd_op op_fdiv b2_fdiv (pd_ix (ix_4 (Room.u _ hr)) b2_ix (pd_var 0) pd_int) pd_int) pd_nil)) (pd_var 1))))) pd_snil)
  (pd_scons (pd_set (i := 3) sc__law_taken.nd rfl (by first | exact Or.inl rfl | exact Or.inr rfl) (pd_ix (ix_4 (Room.u _ hr)) b2_ix (pd_ix (ix_4 (Room.u _ hr)) b2_ix (pd_var 0) pd_int) (pd_op op_sub b2_sub (pd_ix (ix_4 (Room.u _ hr)) b2_ix (pd_var 0) pd_int) pd_int)))
  (pd_scons (pd_asg (vw := []) (pd_op op_mod b2_mod (pd_callTy call_int2 cn_int rfl B.f_int bo_int (pd_cons (pd_op op_add4 b2_add (pd_op op_add4 b2_add (pd_op op_mul3 b2_mul (pd_ix (ix_4 (Room.u _ hr)) b2_ix (pd_var 0) pd_int) pd_int) (pd_var 3)) pd_int) pd_nil)) pd_int) (pd_gitem (Room.u _ hr) (pd_var 0) pd_int))
  (pd_scons (pd_sif (pd_tcmp op_geQ (b2_ord _ _) (pd_var 3) (pd_op op_pow b2_pow pd_int pd_int) rfl) (pd_sone (pd_asg (vw := []) (pd_op op_fdiv b2_fdiv (pd_var 3) (pd_var 1)) (pd_gitem (Room.u _ hr) (pd_var 0) pd_int))) pd_snil)
  (pd_sone (pd_ret (pd_op op_mod b2_mod (pd_callTy call_int2 cn_int rfl B.f_int bo_int (pd_cons (pd_var 3) pd_nil)) (pd_var 1))))))))))
theorem sc__law_pick : FnScope ["row", "some"] ["row", "some"] (defScope (top 29)) := ⟨rfl, rfl, rfl, by decide +kernel, rfl, by decide +kernel, by decide +kernel⟩
theorem d__law_pick (B : Fc K mg) : Known P w K mg base 5 (He.fAd K ("_law_pick", none)) 2 s__law_pick := by
  obtain ⟨fd, H0⟩ := B.fd__law_pick
  refine Known.mk (k := 4) H0 sc__law_pick rfl (fun _ _ _ _ _ _ us hl => match us, hl with | [_, _], _ => rfl) (fun cdv A outer s H E hr => ?_)
  exact (pd_sone (pd_ret (pd_ix (ix_4 (Room.u _ hr)) b2_ix (pd_var 1) (pd_callK (d__law_taken B) (hr.mono (by omega)) rfl B.g__law_taken ps_def (pd_cons (pd_var 0) (pd_cons (pd_callB call_len3 cn_len rfl B.f_len bo_len (pd_cons (pd_var 1) pd_nil)) pd_nil))))))
theorem sc_is_integer : FnScope ["thing"] ["thing"] (defScope (top 3)) := ⟨rfl, rfl, rfl, by decide +kernel, rfl, by decide +kernel, by decide +kernel⟩
theorem d_is_integer (B : Fc K mg) : Known P w K mg base 3 (He.fAd K ("is_integer", none)) 1 s_is_integer := by
  obtain ⟨fd, H0⟩ := B.fd_is_integer
  refine Known.mk (k := 2) H0 sc_is_integer rfl (fun _ _ _ _ _ _ us hl => match us, hl with | [_], _ => rfl) (fun cdv A outer s H E hr => ?_)
  exact (pd_sone (pd_ret (pd_vand (pd_isiB B.clsF bo_int rfl B.f_int rfl B.f_isinstance (pd_var 0)) (pd_one (pd_vnot (pd_isiB B.clsF bo_bool rfl B.f_bool rfl B.f_isinstance (pd_var 0)))))))
theorem sc_is_within : FnScope ["thing", "least", "most"] ["thing", "least", "most"] (defScope (top 4)) := ⟨rfl, rfl, rfl, by decide +kernel, rfl, by decide +kernel, by decide +kernel⟩
theorem d_is_within (B : Fc K mg) : Known P w K mg base 5 (He.fAd K ("is_within", none)) 3 s_is_within := by
  obtain ⟨fd, H0⟩ := B.fd_is_within
  refine Known.mk (k := 4) H0 sc_is_within rfl (fun _ _ _ _ _ _ us hl => match us, hl with | [_, _, _], _ => rfl) (fun cdv A outer s H E hr => ?_)
  exact (pd_sone (pd_ret (pd_vand (pd_callK (d_is_integer B) (hr.mono (by omega)) rfl B.g_is_integer ps_def (pd_cons (pd_var 0) pd_nil)) (pd_one (pd_chain op_leQ (b2_ord _ _) op_leQ (b2_ord _ _) (pd_var 1) (pd_var 0) (pd_var 2))))))
theorem sc_need_width : FnScope ["width"] ["width"] (defScope (top 17)) := ⟨rfl, rfl, rfl, by decide +kernel, rfl, by decide +kernel, by decide +kernel⟩
theorem d_need_width (B : Fc K mg) : Known P w K mg base 7 (He.fAd K ("need_width", none)) 1 s_need_width := by
  obtain ⟨fd, H0⟩ := B.fd_need_width
  refine Known.mk (k := 6) H0 sc_need_width rfl (fun _ _ _ _ _ _ us hl => match us, hl with | [_], _ => rfl) (fun cdv A outer s H E hr => ?_)
  exact (pd_sone (pd_sif (pd_not (pd_tst (pd_callK (d_is_within B) (hr.mono (by omega)) rfl B.g_is_within ps_def (pd_cons (pd_var 0) (pd_cons pd_int (pd_cons (pd_gint rfl B.i_MOST_BITS) pd_nil)))))) (pd_sone (pd_raiseK rfl tk_def B.exc_BadWidth (d_exc B) (d_excB B) (hr.mono (by omega)) rfl (pd_var 0))) pd_snil))
theorem sc_Pool___init__ : FnScope ["self", "width"] ["self", "width"] (defScope (cst (top 20) 0)) := ⟨rfl, rfl, rfl, by decide +kernel, rfl, by decide +kernel, by decide +kernel⟩
theorem d_Pool___init__ (B : Fc K mg) : Known P w K mg base 9 (He.fAd K ("Pool", some "__init__")) 2 s_Pool___init__ := by
  obtain ⟨fd, H0⟩ := B.fd_Pool___init__
  refine Known.mk (k := 8) H0 sc_Pool___init__ rfl (fun _ _ _ _ _ _ us hl => match us, hl with | [_, _], _ => rfl) (fun cdv A outer s H E hr => ?_)
  exact (pd_scons (pd_expr (pd_callK (d_need_width B) (hr.mono (by omega)) rfl B.g_need_width ps_def (pd_cons (pd_var 1) pd_nil)))
  (pd_scons (pd_fldset B.fld_width (pd_var 0) (pd_var 1))
  (pd_sone (pd_fldset B.fld_owners (pd_var 0) pd_hdict))))
theorem sc__law_block : FnScope ["row", "width"] ["row", "width"] (defScope (top 30)) := ⟨rfl, rfl, rfl, by decide +kernel, rfl, by decide +kernel, by decide +kernel⟩
theorem d__law_block (B : Fc K mg) : Known P w K mg base 5 (He.fAd K ("_law_block", none)) 2 s__law_block := by
  obtain ⟨fd, H0⟩ := B.fd__law_block
  refine Known.mk (k := 4) H0 sc__law_block rfl (fun _ _ _ _ _ _ us hl => match us, hl with | [_, _], _ => rfl) (fun cdv A outer s H E hr => ?_)
  exact (pd_sone (pd_ret (pd_op op_sub b2_sub (pd_var 1) (pd_callB (call_min2 rfl) cn_min2 rfl B.f_min bo_min (pd_cons (pd_var 1) (pd_cons (pd_if (pd_tcmp (op_eq2 (Room.u _ hr)) b2_eq (pd_callK (d__law_taken B) (hr.mono (by omega)) rfl B.g__law_taken ps_def (pd_cons (pd_var 0) (pd_cons pd_int pd_nil))) pd_int rfl) (pd_callK (d__law_taken B) (hr.mono (by omega)) rfl B.g__law_taken ps_def (pd_cons (pd_var 0) (pd_cons (pd_op op_add4 b2_add pd_int (pd_op op_fdiv b2_fdiv (pd_var 1) pd_int)) pd_nil))) (pd_callK (d__law_taken B) (hr.mono (by omega)) rfl B.g__law_taken ps_def (pd_cons (pd_var 0) (pd_cons pd_int pd_nil)))) pd_nil))))))
theorem sc_Pool_need_length : FnScope ["self", "length"] ["self", "length"] (defScope (cst (top 20) 6)) := ⟨rfl, rfl, rfl, by decide +kernel, rfl, by decide +kernel, by decide +kernel⟩
theorem d_Pool_need_length (B : Fc K mg) : Known P w K mg base 7 (He.fAd K ("Pool", some "need_length")) 2 s_Pool_need_length := by
  obtain ⟨fd, H0⟩ := B.fd_Pool_need_length
  refine Known.mk (k := 6) H0 sc_Pool_need_length rfl (fun _ _ _ _ _ _ us hl => match us, hl with | [_, _], _ => rfl) (fun cdv A outer s H E hr => ?_)
  exact (pd_sone (pd_sif (pd_not (pd_tst (pd_callK (d_is_within B) (hr.mono (by omega)) rfl B.g_is_within ps_def (pd_cons (pd_var 1) (pd_cons pd_int (pd_cons (pd_fld B.fld_width (pd_var 0)) pd_nil)))))) (pd_sone (pd_raiseK rfl tk_def B.exc_BadLength (d_exc B) (d_excB B) (hr.mono (by omega)) rfl (pd_var 1))) pd_snil))
theorem sc_need_owner : FnScope ["owner"] ["owner"] (defScope (top 21)) := ⟨rfl, rfl, rfl, by decide +kernel, rfl, by decide +kernel, by decide +kernel⟩
theorem d_need_owner (B : Fc K mg) : Known P w K mg base 7 (He.fAd K ("need_owner", none)) 1 s_need_owner := by
  obtain ⟨fd, H0⟩ := B.fd_need_owner
  refine Known.mk (k := 6) H0 sc_need_owner rfl (fun _ _ _ _ _ _ us hl => match us, hl with | [_], _ => rfl) (fun cdv A outer s H E hr => ?_)
  exact (pd_sone (pd_sif (pd_not (pd_tst (pd_callK (d_is_within B) (hr.mono (by omega)) rfl B.g_is_within ps_def (pd_cons (pd_var 0) (pd_cons pd_int (pd_cons (pd_gint rfl B.i_MOST_OWNER) pd_nil)))))) (pd_sone (pd_raiseK rfl tk_def B.exc_BadOwner (d_exc B) (d_excB B) (hr.mono (by omega)) rfl (pd_var 0))) pd_snil))
theorem sc_free_below : FnScope ["owners", "begun", "prefix"] ["owners", "begun", "prefix"] (defScope (top 23)) := ⟨rfl, rfl, rfl, by decide +kernel, rfl, by decide +kernel, by decide +kernel⟩
theorem d_free_below (B : Fc K mg) : ∀ n : Nat, Known P w K mg base (3 + n) (He.fAd K ("free_below", none)) 3 (s_free_below n)
  | 0 => by
    obtain ⟨fd, H0⟩ := B.fd_free_below
    exact Known.stuck (ps := ["owners", "begun", "prefix"]) H0 rfl (fun _ _ _ _ _ _ us hl => match us, hl with | [_, _, _], _ => rfl)
  | n + 1 => by
    obtain ⟨fd, H0⟩ := B.fd_free_below
    have ih : Known P w K mg base (3 + n) (He.fAd K ("free_below", none)) 3 (s_free_below n) := d_free_below B n
    refine Known.mk (k := 3 + n) H0 sc_free_below rfl (fun _ _ _ _ _ _ us hl => match us, hl with | [_, _, _], _ => rfl) (fun cdv A outer s H E hr => ?_)
    exact (pd_scons (pd_sif (pd_tcmp (op_in4 (Room.u _ hr)) b2_in (pd_var 2) (pd_var 0) rfl) (pd_sone (pd_ret (pd_lst pd_nil))) pd_snil)
  (pd_scons (pd_sif (pd_tcmp (op_nin4 (Room.u _ hr)) b2_nin (pd_var 2) (pd_var 1) rfl) (pd_sone (pd_ret (pd_lst (pd_cons (pd_var 2) pd_nil)))) pd_snil)
  (pd_sone (pd_ret (pd_op op_add4 b2_add (pd_callK (ih) (hr.mono (by omega)) rfl B.g_free_below ps_def (pd_cons (pd_var 0) (pd_cons (pd_var 1) (pd_cons (pd_op op_add4 b2_add (pd_var 2) pd_str) pd_nil)))) (pd_callK (ih) (hr.mono (by omega)) rfl B.g_free_below ps_def (pd_cons (pd_var 0) (pd_cons (pd_var 1) (pd_cons (pd_op op_add4 b2_add (pd_var 2) pd_str) pd_nil)))))))))
theorem sc_free_of : FnScope ["owners", "begun", "block", "length"] ["owners"] (defScope (top 24)) := ⟨rfl, rfl, rfl, by decide +kernel, rfl, by decide +kernel, by decide +kernel⟩
theorem d_free_of (B : Fc K mg) : Known P w K mg base 75 (He.fAd K ("free_of", none)) 1 s_free_of := by
  obtain ⟨fd, H0⟩ := B.fd_free_of
  refine Known.mk (k := 74) H0 sc_free_of rfl (fun _ _ _ _ _ _ us hl => match us, hl with | [_], _ => rfl) (fun cdv A outer s H E hr => ?_)
  exact (pd_scons (pd_set (i := 1) sc_free_of.nd rfl (by first | exact Or.inl rfl | exact Or.inr rfl) pd_hdict)
  (pd_scons (pd_lockS (vSel 0) (selV 0) (pd_for (vw := [2]) po_def rfl (pd_ikeys (pd_var 0)) (pd_gname (i := 2) sc_free_of.nd rfl (by first | exact Or.inl rfl | exact Or.inr rfl)) (pd_sone (pd_for (vw := [3]) po_def rfl (pd_irng1 rfl B.f_range (pd_cons (pd_callB call_len3 cn_len rfl B.f_len bo_len (pd_cons (pd_var 2) pd_nil)) pd_nil)) (pd_gname (i := 3) sc_free_of.nd rfl (by first | exact Or.inl rfl | exact Or.inr rfl)) (pd_sone (pd_asg (vw := []) pd_bl (pd_gitem (Room.u _ hr) (pd_var 1) (pd_slice (pd_var 2) pd_onone (pd_osome (pd_var 3))))))))))
  (pd_sone (pd_ret (pd_callK (d_free_below B 70) (hr.mono (by omega)) rfl B.g_free_below ps_def (pd_cons (pd_var 0) (pd_cons (pd_var 1) (pd_cons pd_str pd_nil))))))))
theorem sc_Pool_give_block : FnScope ["self", "length", "owner", "some", "free", "block"] ["self", "length", "owner"] (defScope (cst (top 20) 2)) := ⟨rfl, rfl, rfl, by decide +kernel, rfl, by decide +kernel, by decide +kernel⟩
theorem d_Pool_give_block (B : Fc K mg) : Known P w K mg base 77 (He.fAd K ("Pool", some "give_block")) 3 s_Pool_give_block := by
  obtain ⟨fd, H0⟩ := B.fd_Pool_give_block
  refine Known.mk (k := 76) H0 sc_Pool_give_block rfl (fun _ _ _ _ _ _ us hl => match us, hl with | [_, _, _], _ => rfl) (fun cdv A outer s H E hr => ?_)
  exact (pd_scons (pd_expr (pd_methK (pd_var 0) B.g_Pool B.cls_Pool B.meth_Pool_need_length (d_Pool_need_length B) (hr.mono (by omega)) ps_def (pd_cons (pd_var 1) pd_nil)))
  (pd_scons (pd_expr (pd_callK (d_need_owner B) (hr.mono (by omega)) rfl B.g_need_owner ps_def (pd_cons (pd_var 2) pd_nil)))
  (pd_scons (pd_setlc (i := 3) (own := [("free", 4)]) rfl sc_Pool_give_block.nd rfl rfl (sw_true rfl rfl rfl rfl) (pd_iseq (pd_callK (d_free_of B) (hr.mono (by omega)) rfl B.g_free_of ps_def (pd_cons (pd_fld B.fld_owners (pd_var 0)) pd_nil))) (blkOk_by (by kernel_rfl)) (fun _ _ _ _ _ => (pd_gname (i := 4) sc_Pool_give_block.nd rfl (by first | exact Or.inl rfl | exact Or.inr rfl))) (fun _ _ _ _ _ => (pd_tone (pd_tcmp op_leQ (b2_ord _ _) (pd_callB call_len3 cn_len rfl B.f_len bo_len (pd_cons (pd_var 4) pd_nil)) (pd_var 1) rfl))) (fun _ _ _ _ _ => (pd_tup (pd_cons (pd_un un_neg u1_neg (pd_callB call_len3 cn_len rfl B.f_len bo_len (pd_cons (pd_var 4) pd_nil))) (pd_cons (pd_var 4) pd_nil)))))
  (pd_scons (pd_sif (pd_not (pd_tst (pd_var 3))) (pd_sone (pd_raiseK rfl tk_def B.exc_NoRoom (d_exc B) (d_excB B) (hr.mono (by omega)) rfl (pd_var 1))) pd_snil)
  (pd_scons (pd_set (i := 4) sc_Pool_give_block.nd rfl (by first | exact Or.inl rfl | exact Or.inr rfl) (pd_ix (ix_4 (Room.u _ hr)) b2_ix (pd_callB (call_min1 rfl (Room.u _ hr)) cn_min1 rfl B.f_min bo_min (pd_cons (pd_var 3) pd_nil)) pd_int))
  (pd_scons (pd_set (i := 5) sc_Pool_give_block.nd rfl (by first | exact Or.inl rfl | exact Or.inr rfl) (pd_op op_add4 b2_add (pd_var 4) (pd_op op_mul3 b2_mul pd_str (pd_op op_sub b2_sub (pd_var 1) (pd_callB call_len3 cn_len rfl B.f_len bo_len (pd_cons (pd_var 4) pd_nil))))))
  (pd_scons (pd_asg (vw := []) (pd_var 2) (pd_gitem (Room.u _ hr) (pd_fld B.fld_owners (pd_var 0)) (pd_var 5)))
  (pd_sone (pd_ret (pd_var 5))))))))))
theorem sc_Pool_need_block : FnScope ["self", "block"] ["self", "block"] (defScope (cst (top 20) 7)) := ⟨rfl, rfl, rfl, by decide +kernel, rfl, by decide +kernel, by decide +kernel⟩
theorem d_Pool_need_block (B : Fc K mg) : Known P w K mg base 3 (He.fAd K ("Pool", some "need_block")) 2 s_Pool_need_block := by
  obtain ⟨fd, H0⟩ := B.fd_Pool_need_block
  refine Known.mk (k := 2) H0 sc_Pool_need_block rfl (fun _ _ _ _ _ _ us hl => match us, hl with | [_, _], _ => rfl) (fun cdv A outer s H E hr => ?_)
  exact (pd_sone (pd_sif (pd_pw (pd_or (pd_not (pd_tst (pd_isiB B.clsF bo_str rfl B.f_str rfl B.f_isinstance (pd_var 1)))) (pd_or1 (pd_tcmp (op_nin4 (Room.u _ hr)) b2_nin (pd_var 1) (pd_fld B.fld_owners (pd_var 0)) rfl)))) (pd_sone (pd_raiseK rfl tk_def B.exc_BadBlock (d_exc B) (d_excB B) (hr.mono (by omega)) rfl (pd_var 1))) pd_snil))
theorem sc_Pool_split_block : FnScope ["self", "block", "owner"] ["self", "block"] (defScope (cst (top 20) 4)) := ⟨rfl, rfl, rfl, by decide +kernel, rfl, by decide +kernel, by decide +kernel⟩
theorem d_Pool_split_block (B : Fc K mg) : Known P w K mg base 5 (He.fAd K ("Pool", some "split_block")) 2 s_Pool_split_block := by
  obtain ⟨fd, H0⟩ := B.fd_Pool_split_block
  refine Known.mk (k := 4) H0 sc_Pool_split_block rfl (fun _ _ _ _ _ _ us hl => match us, hl with | [_, _], _ => rfl) (fun cdv A outer s H E hr => ?_)
  exact (pd_scons (pd_expr (pd_methK (pd_var 0) B.g_Pool B.cls_Pool B.meth_Pool_need_block (d_Pool_need_block B) (hr.mono (by omega)) ps_def (pd_cons (pd_var 1) pd_nil)))
  (pd_scons (pd_sif (pd_tcmp (op_eq2 (Room.u _ hr)) b2_eq (pd_callB call_len3 cn_len rfl B.f_len bo_len (pd_cons (pd_var 1) pd_nil)) (pd_fld B.fld_width (pd_var 0)) rfl) (pd_sone (pd_raiseK rfl tk_def B.exc_BadBlock (d_exc B) (d_excB B) (hr.mono (by omega)) rfl (pd_var 1))) pd_snil)
  (pd_scons (pd_set (i := 2) sc_Pool_split_block.nd rfl (by first | exact Or.inl rfl | exact Or.inr rfl) (pd_dpop (pd_fld B.fld_owners (pd_var 0)) (pd_var 1) ⟨rfl, rfl, rfl, rfl⟩))
  (pd_scons (pd_asg (vw := []) (pd_var 2) (pd_gitem (Room.u _ hr) (pd_fld B.fld_owners (pd_var 0)) (pd_op op_add4 b2_add (pd_var 1) pd_str)))
  (pd_sone (pd_asg (vw := []) (pd_var 2) (pd_gitem (Room.u _ hr) (pd_fld B.fld_owners (pd_var 0)) (pd_op op_add4 b2_add (pd_var 1) pd_str))))))))
theorem sc_need_pool : FnScope ["pool"] ["pool"] (defScope (top 22)) := ⟨rfl, rfl, rfl, by decide +kernel, rfl, by decide +kernel, by decide +kernel⟩
theorem d_need_pool (B : Fc K mg) : Known P w K mg base 3 (He.fAd K ("need_pool", none)) 1 s_need_pool := by
  obtain ⟨fd, H0⟩ := B.fd_need_pool
  refine Known.mk (k := 2) H0 sc_need_pool rfl (fun _ _ _ _ _ _ us hl => match us, hl with | [_], _ => rfl) (fun cdv A outer s H E hr => ?_)
  exact (pd_sone (pd_sif (pd_not (pd_tst (pd_isiC B.clsF rfl B.g_Pool rfl B.f_isinstance (pd_var 0)))) (pd_sone (pd_raiseK rfl tk_def B.exc_BadPool (d_exc B) (d_excB B) (hr.mono (by omega)) rfl (pd_var 0))) pd_snil))
theorem sc_free_blocks : FnScope ["pool"] ["pool"] (defScope (top 25)) := ⟨rfl, rfl, rfl, by decide +kernel, rfl, by decide +kernel, by decide +kernel⟩
theorem d_free_blocks (B : Fc K mg) : Known P w K mg base 77 (He.fAd K ("free_blocks", none)) 1 s_free_blocks := by
  obtain ⟨fd, H0⟩ := B.fd_free_blocks
  refine Known.mk (k := 76) H0 sc_free_blocks rfl (fun _ _ _ _ _ _ us hl => match us, hl with | [_], _ => rfl) (fun cdv A outer s H E hr => ?_)
  exact (pd_scons (pd_expr (pd_callK (d_need_pool B) (hr.mono (by omega)) rfl B.g_need_pool ps_def (pd_cons (pd_var 0) pd_nil)))
  (pd_sone (pd_ret (pd_callTy call_tuple_of cn_tup rfl B.f_tuple bo_tuple (pd_cons (pd_callK (d_free_of B) (hr.mono (by omega)) rfl B.g_free_of ps_def (pd_cons (pd_fld B.fld_owners (pd_var 0)) pd_nil)) pd_nil)))))
theorem sc_count_free : FnScope ["pool", "free"] ["pool"] (defScope (top 26)) := ⟨rfl, rfl, rfl, by decide +kernel, rfl, by decide +kernel, by decide +kernel⟩
theorem d_count_free (B : Fc K mg) : Known P w K mg base 77 (He.fAd K ("count_free", none)) 1 s_count_free := by
  obtain ⟨fd, H0⟩ := B.fd_count_free
  refine Known.mk (k := 76) H0 sc_count_free rfl (fun _ _ _ _ _ _ us hl => match us, hl with | [_], _ => rfl) (fun cdv A outer s H E hr => ?_)
  exact (pd_scons (pd_expr (pd_callK (d_need_pool B) (hr.mono (by omega)) rfl B.g_need_pool ps_def (pd_cons (pd_var 0) pd_nil)))
  (pd_sone (pd_ret (pd_callB (call_sum2 rfl) cn_sum rfl B.f_sum bo_sum (pd_cons (pd_lc (own := [("free", 1)]) rfl sc_count_free.nd (pd_iseq (pd_callK (d_free_of B) (hr.mono (by omega)) rfl B.g_free_of ps_def (pd_cons (pd_fld B.fld_owners (pd_var 0)) pd_nil))) (blkOk_by (by kernel_rfl)) (fun _ _ _ _ _ => (pd_gname (i := 1) sc_count_free.nd rfl (by first | exact Or.inl rfl | exact Or.inr rfl))) (fun _ _ _ _ _ => pd_tyes) (fun _ _ _ _ _ => (pd_op op_shl b2_shl pd_int (pd_op op_sub b2_sub (pd_fld B.fld_width (pd_var 0)) (pd_callB call_len3 cn_len rfl B.f_len bo_len (pd_cons (pd_var 1) pd_nil)))))) pd_nil)))))
theorem sc_is_bits : FnScope ["thing", "most", "sign"] ["thing", "most"] (defScope (top 5)) := ⟨rfl, rfl, rfl, by decide +kernel, rfl, by decide +kernel, by decide +kernel⟩
theorem d_is_bits (B : Fc K mg) : Known P w K mg base 3 (He.fAd K ("is_bits", none)) 2 s_is_bits := by
  obtain ⟨fd, H0⟩ := B.fd_is_bits
  refine Known.mk (k := 2) H0 sc_is_bits rfl (fun _ _ _ _ _ _ us hl => match us, hl with | [_, _], _ => rfl) (fun cdv A outer s H E hr => ?_)
  exact (pd_sone (pd_ret (pd_vand (pd_isiB B.clsF bo_str rfl B.f_str rfl B.f_isinstance (pd_var 0)) (pd_vand (pd_cmp op_leQ (b2_ord _ _) (pd_callB call_len3 cn_len rfl B.f_len bo_len (pd_cons (pd_var 0) pd_nil)) (pd_var 1) rfl) (pd_one (pd_callB (cr_all rfl) cn_all rfl B.f_all bo_all (pd_cons (pd_lc (own := [("sign", 2)]) rfl sc_is_bits.nd (pd_iseq (pd_var 0)) (blkOk_by (by kernel_rfl)) (fun _ _ _ _ _ => (pd_gname (i := 2) sc_is_bits.nd rfl (by first | exact Or.inl rfl | exact Or.inr rfl))) (fun _ _ _ _ _ => pd_tyes) (fun _ _ _ _ _ => (pd_cmp (op_in4 (Room.u _ hr)) b2_in (pd_var 2) pd_str rfl))) pd_nil)))))))
theorem sc_is_prefix : FnScope ["thing"] ["thing"] (defScope (top 6)) := ⟨rfl, rfl, rfl, by decide +kernel, rfl, by decide +kernel, by decide +kernel⟩
theorem d_is_prefix (B : Fc K mg) : Known P w K mg base 5 (He.fAd K ("is_prefix", none)) 1 s_is_prefix := by
  obtain ⟨fd, H0⟩ := B.fd_is_prefix
  refine Known.mk (k := 4) H0 sc_is_prefix rfl (fun _ _ _ _ _ _ us hl => match us, hl with | [_], _ => rfl) (fun cdv A outer s H E hr => ?_)
  exact (pd_sone (pd_ret (pd_callK (d_is_bits B) (hr.mono (by omega)) rfl B.g_is_bits ps_def (pd_cons (pd_var 0) (pd_cons (pd_gint rfl B.i_MOST_BITS) pd_nil)))))
theorem sc_Pool_merge_block : FnScope ["self", "block", "one", "two"] ["self", "block"] (defScope (cst (top 20) 5)) := ⟨rfl, rfl, rfl, by decide +kernel, rfl, by decide +kernel, by decide +kernel⟩
theorem d_Pool_merge_block (B : Fc K mg) : Known P w K mg base 7 (He.fAd K ("Pool", some "merge_block")) 2 s_Pool_merge_block := by
  obtain ⟨fd, H0⟩ := B.fd_Pool_merge_block
  refine Known.mk (k := 6) H0 sc_Pool_merge_block rfl (fun _ _ _ _ _ _ us hl => match us, hl with | [_, _], _ => rfl) (fun cdv A outer s H E hr => ?_)
  exact (pd_scons (pd_sif (pd_not (pd_tst (pd_callK (d_is_prefix B) (hr.mono (by omega)) rfl B.g_is_prefix ps_def (pd_cons (pd_var 1) pd_nil)))) (pd_sone (pd_raiseK rfl tk_def B.exc_BadBlock (d_exc B) (d_excB B) (hr.mono (by omega)) rfl (pd_var 1))) pd_snil)
  (pd_scons (pd_par (i := 2) (j := 3) rfl sc_Pool_merge_block.nd rfl rfl (by decide) rfl rfl (pd_cons (pd_get (Room.u _ hr) (pd_fld B.fld_owners (pd_var 0)) (pd_op op_add4 b2_add (pd_var 1) pd_str) pd_non ⟨rfl, rfl, rfl, rfl⟩) (pd_cons (pd_get (Room.u _ hr) (pd_fld B.fld_owners (pd_var 0)) (pd_op op_add4 b2_add (pd_var 1) pd_str) pd_non ⟨rfl, rfl, rfl, rfl⟩) pd_nil)) rfl)
  (pd_scons (pd_sif (pd_pw (pd_or (pd_tcmp op_isN b2_is (pd_var 2) pd_non rfl) (pd_or1 (pd_tcmp (op_ne2 (Room.u _ hr)) b2_ne (pd_var 2) (pd_var 3) rfl)))) (pd_sone (pd_raiseK rfl tk_def B.exc_BadBlock (d_exc B) (d_excB B) (hr.mono (by omega)) rfl (pd_var 1))) pd_snil)
  (pd_scons (pd_expr (pd_dpop (pd_fld B.fld_owners (pd_var 0)) (pd_op op_add4 b2_add (pd_var 1) pd_str) ⟨rfl, rfl, rfl, rfl⟩))
  (pd_scons (pd_expr (pd_dpop (pd_fld B.fld_owners (pd_var 0)) (pd_op op_add4 b2_add (pd_var 1) pd_str) ⟨rfl, rfl, rfl, rfl⟩))
  (pd_sone (pd_asg (vw := []) (pd_var 2) (pd_gitem (Room.u _ hr) (pd_fld B.fld_owners (pd_var 0)) (pd_var 1)))))))))
theorem sc_Pool_blocks : FnScope ["self", "block"] ["self"] (defScope (cst (top 20) 1)) := ⟨rfl, rfl, rfl, by decide +kernel, rfl, by decide +kernel, by decide +kernel⟩
theorem d_Pool_blocks (B : Fc K mg) : Known P w K mg base 3 (He.fAd K ("Pool", some "blocks")) 1 s_Pool_blocks := by
  obtain ⟨fd, H0⟩ := B.fd_Pool_blocks
  refine Known.mk (k := 2) H0 sc_Pool_blocks rfl (fun _ _ _ _ _ _ us hl => match us, hl with | [_], _ => rfl) (fun cdv A outer s H E hr => ?_)
  exact (pd_sone (pd_ret (pd_callTy call_tuple_of cn_tup rfl B.f_tuple bo_tuple (pd_cons (pd_lc (own := [("block", 1)]) rfl sc_Pool_blocks.nd (pd_iseq (pd_callB (call_sortG rfl (Room.u _ hr)) cn_sorted rfl B.f_sorted bo_sorted (pd_cons (pd_fld B.fld_owners (pd_var 0)) pd_nil))) (blkOk_by (by kernel_rfl)) (fun _ _ _ _ _ => (pd_gname (i := 1) sc_Pool_blocks.nd rfl (by first | exact Or.inl rfl | exact Or.inr rfl))) (fun _ _ _ _ _ => pd_tyes) (fun _ _ _ _ _ => (pd_tup (pd_cons (pd_var 1) (pd_cons (pd_ix (ix_4 (Room.u _ hr)) b2_ix (pd_fld B.fld_owners (pd_var 0)) (pd_var 1)) pd_nil))))) pd_nil))))
theorem sc_law : FnScope ["script", "row", "width", "pool", "left", "turn", "length", "size", "block", "lengths", "free", "owner"] ["script"] (defScope (top 32)) := ⟨rfl, rfl, rfl, by decide +kernel, rfl, by decide +kernel, by decide +kernel⟩
abbrev bd (l : List Stmt) (i : Nat) : Stmt := l.getD i (.Pass ⟨0, 0, 0, 0⟩)
abbrev fb : Stmt → List Stmt
  | .For _ _ b _ _ => b
  | .While _ b _ _ => b
  | _ => []
abbrev ib : Stmt → List Stmt
  | .If _ b _ _ => b
  | _ => []
abbrev ie : Stmt → List Stmt
  | .If _ _ b _ => b
  | _ => []
abbrev qEnv (L fa : Addr) (cdv : Value) : Env := PyProof.Rows.envOfC "law" (defScope (top 32)) L fa cdv
abbrev qX (P : Program) (w : World) (K : PySem.W.Frag) (mg : Str → Option Value) (base : Heap) (fa : Addr) (cdv : Value) (A : Around) (outer : List Env) (s : Shared) (H : Hp) (E : XK) : Cx := cxOf (L2.CX P w) P w K mg base ["script", "row", "width", "pool", "left", "turn", "length", "size", "block", "lengths", "free", "owner"] "law" (defScope (top 32)) fa cdv A outer s H E
theorem qT {L fa Pt : Addr} {cdv : Value} (hT : Tb.T = [(Pt, ("law.<locals>.<lambda>" : Str))]) : (Pt, (qEnv L fa cdv).qual ++ ("<lambda>" : Str)) ∈ Tb.T := by
  rw [hT]
  exact List.mem_singleton.mpr (Prod.ext rfl (by kernel_rfl))
theorem qU {L fa Pt : Addr} {cdv : Value} (hT : Tb.T = [(Pt, ("law.<locals>.<lambda>" : Str))]) : ∀ p ∈ Tb.T, p.1 = Pt → p.2 = (qEnv L fa cdv).qual ++ ("<lambda>" : Str) := by
  rw [hT]
  intro p hp _
  rw [List.mem_singleton.mp hp]
  kernel_rfl
def s_law_1 : MS := (sSet 1 (hNew .lst (aCons (eVar 0) (aCons (eC (.int 0)) (aCons (eC (.int 313)) (aCons (eC (.int 0)) aNil))))))
theorem d_law_1 (B : Fc K mg) {cdv : Value} {s : Shared} {H : Hp} {E : XK} {c Pt fa : Addr} {A : Around} {outer : List Env} (TB : LamX.TabB base mg c Pt) (hcd0 : cdv = .ref c) (hT : Tb.T = [(Pt, ("law.<locals>.<lambda>" : Str))]) (hG : (A.deeper (qEnv s.heap.objs.size fa cdv)).guards = some []) (hr : Room 81 (A.deeper (qEnv s.heap.objs.size fa cdv))) : PDS (qX P w K mg base fa cdv A outer s H E) E (bd (defBody (top 32)) 0) s_law_1 :=
  (pd_set (i := 1) sc_law.nd rfl (by first | exact Or.inl rfl | exact Or.inr rfl) (pd_hlst (pd_cons (pd_var 0) (pd_cons pd_int (pd_cons pd_int (pd_cons pd_int pd_nil))))))
def s_law_2 : MS := (sSet 2 (eCall s__law_pick 2 (aCons (eVar 1) (aCons (eCN (conD .lst) (aCons (eC (.int 2)) (aCons (eC (.int 3)) (aCons (eC (.int 5)) (aCons (eC (.int 8)) (aCons (eC (.int 16)) (aCons (eC (.int 40)) (aCons (eC (.int 64)) aNil)))))))) aNil))))
theorem d_law_2 (B : Fc K mg) {cdv : Value} {s : Shared} {H : Hp} {E : XK} {c Pt fa : Addr} {A : Around} {outer : List Env} (TB : LamX.TabB base mg c Pt) (hcd0 : cdv = .ref c) (hT : Tb.T = [(Pt, ("law.<locals>.<lambda>" : Str))]) (hG : (A.deeper (qEnv s.heap.objs.size fa cdv)).guards = some []) (hr : Room 81 (A.deeper (qEnv s.heap.objs.size fa cdv))) : PDS (qX P w K mg base fa cdv A outer s H E) E (bd (defBody (top 32)) 1) s_law_2 :=
  (pd_set (i := 2) sc_law.nd rfl (by first | exact Or.inl rfl | exact Or.inr rfl) (pd_callK (d__law_pick B) (hr.mono (by omega)) rfl B.g__law_pick ps_def (pd_cons (pd_var 1) (pd_cons (pd_lst (pd_cons pd_int (pd_cons pd_int (pd_cons pd_int (pd_cons pd_int (pd_cons pd_int (pd_cons pd_int (pd_cons pd_int pd_nil)))))))) pd_nil))))
def s_law_3 : MS := (sAsg (gTupD 2 (gsCons (gSet 3) (gsCons (gSet 4) gsNil))) (eCN (conD .tup) (aCons (eMake "Pool" s_Pool___init__ 2 (aCons (eVar 2) aNil)) (aCons (eB2 shlD (eC (.int 1)) (eVar 2)) aNil))))
theorem d_law_3 (B : Fc K mg) {cdv : Value} {s : Shared} {H : Hp} {E : XK} {c Pt fa : Addr} {A : Around} {outer : List Env} (TB : LamX.TabB base mg c Pt) (hcd0 : cdv = .ref c) (hT : Tb.T = [(Pt, ("law.<locals>.<lambda>" : Str))]) (hG : (A.deeper (qEnv s.heap.objs.size fa cdv)).guards = some []) (hr : Room 81 (A.deeper (qEnv s.heap.objs.size fa cdv))) : PDS (qX P w K mg base fa cdv A outer s H E) E (bd (defBody (top 32)) 2) s_law_3 :=
  (pd_asg (vw := [3, 4]) (pd_tup (pd_cons (pd_makeK B.mk_Pool (d_Pool___init__ B) (hr.mono (by omega)) rfl B.g_Pool ps_def (pd_cons (pd_var 2) pd_nil)) (pd_cons (pd_op op_shl b2_shl pd_int (pd_var 2)) pd_nil))) (pd_gtup' (n := 2) rfl (pd_gscons (pd_gname (i := 3) sc_law.nd rfl (by first | exact Or.inl rfl | exact Or.inr rfl)) (pd_gscons (pd_gname (i := 4) sc_law.nd rfl (by first | exact Or.inl rfl | exact Or.inr rfl)) pd_gsnil))))
def s_law_4 : MS := (sSet 6 (eCall s__law_block 2 (aCons (eVar 1) (aCons (eVar 2) aNil))))
theorem d_law_4 (B : Fc K mg) {cdv : Value} {s : Shared} {H : Hp} {E : XK} {c Pt fa : Addr} {A : Around} {outer : List Env} (TB : LamX.TabB base mg c Pt) (hcd0 : cdv = .ref c) (hT : Tb.T = [(Pt, ("law.<locals>.<lambda>" : Str))]) (hG : (A.deeper (qEnv s.heap.objs.size fa cdv)).guards = some []) (hr : Room 81 (A.deeper (qEnv s.heap.objs.size fa cdv))) : PDS (qX P w K mg base fa cdv A outer s H E) E (bd (fb (bd (defBody (top 32)) 3)) 0) s_law_4 :=
  (pd_set (i := 6) sc_law.nd rfl (by first | exact Or.inl rfl | exact Or.inr rfl) (pd_callK (d__law_block B) (hr.mono (by omega)) rfl B.g__law_block ps_def (pd_cons (pd_var 1) (pd_cons (pd_var 2) pd_nil))))
def s_law_5 : MS := (sSet 7 (eB2 shlD (eC (.int 1)) (eB2 subD (eVar 2) (eVar 6))))
theorem d_law_5 (B : Fc K mg) {cdv : Value} {s : Shared} {H : Hp} {E : XK} {c Pt fa : Addr} {A : Around} {outer : List Env} (TB : LamX.TabB base mg c Pt) (hcd0 : cdv = .ref c) (hT : Tb.T = [(Pt, ("law.<locals>.<lambda>" : Str))]) (hG : (A.deeper (qEnv s.heap.objs.size fa cdv)).guards = some []) (hr : Room 81 (A.deeper (qEnv s.heap.objs.size fa cdv))) : PDS (qX P w K mg base fa cdv A outer s H E) E (bd (fb (bd (defBody (top 32)) 3)) 1) s_law_5 :=
  (pd_set (i := 7) sc_law.nd rfl (by first | exact Or.inl rfl | exact Or.inr rfl) (pd_op op_shl b2_shl pd_int (pd_op op_sub b2_sub (pd_var 2) (pd_var 6))))
def s_law_6 : MS := (sRet (eC (.bl false)))
theorem d_law_6 (B : Fc K mg) {cdv : Value} {s : Shared} {H : Hp} {E : XK} {c Pt fa : Addr} {A : Around} {outer : List Env} (TB : LamX.TabB base mg c Pt) (hcd0 : cdv = .ref c) (hT : Tb.T = [(Pt, ("law.<locals>.<lambda>" : Str))]) (hG : (A.deeper (qEnv s.heap.objs.size fa cdv)).guards = some []) (hr : Room 81 (A.deeper (qEnv s.heap.objs.size fa cdv))) : PDS (qX P w K mg base fa cdv A outer s H E) E (bd (ib (bd (ib (bd (fb (bd (defBody (top 32)) 3)) 2)) 0)) 0) s_law_6 :=
  (pd_ret pd_bl)
def s_law_7 : MS := (sIf (tBl (eB2 neD (eCN reprD (aCons (eRef refL (eMeth "Pool" "give_block" s_Pool_give_block 3 (eVar 3) (aCons (eVar 6) (aCons (eC (.int 1)) aNil)))) aNil)) (eCN reprD (aCons (eCN (conD .tup) (aCons (eC (.str "room")) (aCons (eVar 6) aNil))) aNil)))) s_law_6 sNext)
theorem d_law_7 (B : Fc K mg) {cdv : Value} {s : Shared} {H : Hp} {E : XK} {c Pt fa : Addr} {A : Around} {outer : List Env} (TB : LamX.TabB base mg c Pt) (hcd0 : cdv = .ref c) (hT : Tb.T = [(Pt, ("law.<locals>.<lambda>" : Str))]) (hG : (A.deeper (qEnv s.heap.objs.size fa cdv)).guards = some []) (hr : Room 81 (A.deeper (qEnv s.heap.objs.size fa cdv))) : PDS (qX P w K mg base fa cdv A outer s H E) E (bd (ib (bd (fb (bd (defBody (top 32)) 3)) 2)) 0) s_law_7 :=
  (pd_sif (pd_tcmp (op_ne2 (Room.u _ hr)) b2_ne (pd_callB (call_repr hG (Room.u _ hr)) cn_repr rfl B.f_repr bo_repr (pd_cons (d_ref (k := 79) B rfl TB hcd0 (qT hT) (qU hT) (hr.mono (by omega)) (LamX.lamS_by (by kernel_rfl)) rfl (fun _ _ _ _ _ => rfl) (fun _ _ _ _ _ _ _ hr2 => (pd_methK (pd_var 3) B.g_Pool B.cls_Pool B.meth_Pool_give_block (d_Pool_give_block B) (hr2.mono (by omega)) ps_lam (pd_cons (pd_var 6) (pd_cons pd_int pd_nil))))) pd_nil)) (pd_callB (call_repr hG (Room.u _ hr)) cn_repr rfl B.f_repr bo_repr (pd_cons (pd_tup (pd_cons pd_str (pd_cons (pd_var 6) pd_nil))) pd_nil)) rfl) (pd_sone (d_law_6 B TB hcd0 hT hG hr)) pd_snil)
def s_law_8 : MS := (sSet 8 (eMeth "Pool" "give_block" s_Pool_give_block 3 (eVar 3) (aCons (eVar 6) (aCons (eC (.int 1)) aNil))))
theorem d_law_8 (B : Fc K mg) {cdv : Value} {s : Shared} {H : Hp} {E : XK} {c Pt fa : Addr} {A : Around} {outer : List Env} (TB : LamX.TabB base mg c Pt) (hcd0 : cdv = .ref c) (hT : Tb.T = [(Pt, ("law.<locals>.<lambda>" : Str))]) (hG : (A.deeper (qEnv s.heap.objs.size fa cdv)).guards = some []) (hr : Room 81 (A.deeper (qEnv s.heap.objs.size fa cdv))) : PDS (qX P w K mg base fa cdv A outer s H E) E (bd (ie (bd (fb (bd (defBody (top 32)) 3)) 2)) 0) s_law_8 :=
  (pd_set (i := 8) sc_law.nd rfl (by first | exact Or.inl rfl | exact Or.inr rfl) (pd_methK (pd_var 3) B.g_Pool B.cls_Pool B.meth_Pool_give_block (d_Pool_give_block B) (hr.mono (by omega)) ps_def (pd_cons (pd_var 6) (pd_cons pd_int pd_nil))))
def s_law_9 : MS := (sSet 4 (eB2 subD (eVar 4) (eVar 7)))
theorem d_law_9 (B : Fc K mg) {cdv : Value} {s : Shared} {H : Hp} {E : XK} {c Pt fa : Addr} {A : Around} {outer : List Env} (TB : LamX.TabB base mg c Pt) (hcd0 : cdv = .ref c) (hT : Tb.T = [(Pt, ("law.<locals>.<lambda>" : Str))]) (hG : (A.deeper (qEnv s.heap.objs.size fa cdv)).guards = some []) (hr : Room 81 (A.deeper (qEnv s.heap.objs.size fa cdv))) : PDS (qX P w K mg base fa cdv A outer s H E) E (bd (ie (bd (fb (bd (defBody (top 32)) 3)) 2)) 1) s_law_9 :=
  (pd_set (i := 4) sc_law.nd rfl (by first | exact Or.inl rfl | exact Or.inr rfl) (pd_op op_sub b2_sub (pd_var 4) (pd_var 7)))
def s_law_10 : MS := (sRet (eC (.bl false)))
theorem d_law_10 (B : Fc K mg) {cdv : Value} {s : Shared} {H : Hp} {E : XK} {c Pt fa : Addr} {A : Around} {outer : List Env} (TB : LamX.TabB base mg c Pt) (hcd0 : cdv = .ref c) (hT : Tb.T = [(Pt, ("law.<locals>.<lambda>" : Str))]) (hG : (A.deeper (qEnv s.heap.objs.size fa cdv)).guards = some []) (hr : Room 81 (A.deeper (qEnv s.heap.objs.size fa cdv))) : PDS (qX P w K mg base fa cdv A outer s H E) E (bd (ib (bd (ie (bd (fb (bd (defBody (top 32)) 3)) 2)) 2)) 0) s_law_10 :=
  (pd_ret pd_bl)
def s_law_11 : MS := (sIf (tBl (eB2 neD (eCN lenD (aCons (eVar 8) aNil)) (eVar 6))) s_law_10 sNext)
theorem d_law_11 (B : Fc K mg) {cdv : Value} {s : Shared} {H : Hp} {E : XK} {c Pt fa : Addr} {A : Around} {outer : List Env} (TB : LamX.TabB base mg c Pt) (hcd0 : cdv = .ref c) (hT : Tb.T = [(Pt, ("law.<locals>.<lambda>" : Str))]) (hG : (A.deeper (qEnv s.heap.objs.size fa cdv)).guards = some []) (hr : Room 81 (A.deeper (qEnv s.heap.objs.size fa cdv))) : PDS (qX P w K mg base fa cdv A outer s H E) E (bd (ie (bd (fb (bd (defBody (top 32)) 3)) 2)) 2) s_law_11 :=
  (pd_sif (pd_tcmp (op_ne2 (Room.u _ hr)) b2_ne (pd_callB call_len3 cn_len rfl B.f_len bo_len (pd_cons (pd_var 8) pd_nil)) (pd_var 6) rfl) (pd_sone (d_law_10 B TB hcd0 hT hG hr)) pd_snil)
def s_law_12 : MS := (sDrop (eMeth "Pool" "split_block" s_Pool_split_block 2 (eVar 3) (aCons (eVar 8) aNil)))
theorem d_law_12 (B : Fc K mg) {cdv : Value} {s : Shared} {H : Hp} {E : XK} {c Pt fa : Addr} {A : Around} {outer : List Env} (TB : LamX.TabB base mg c Pt) (hcd0 : cdv = .ref c) (hT : Tb.T = [(Pt, ("law.<locals>.<lambda>" : Str))]) (hG : (A.deeper (qEnv s.heap.objs.size fa cdv)).guards = some []) (hr : Room 81 (A.deeper (qEnv s.heap.objs.size fa cdv))) : PDS (qX P w K mg base fa cdv A outer s H E) E (bd (ib (bd (ie (bd (fb (bd (defBody (top 32)) 3)) 2)) 3)) 0) s_law_12 :=
  (pd_expr (pd_methK (pd_var 3) B.g_Pool B.cls_Pool B.meth_Pool_split_block (d_Pool_split_block B) (hr.mono (by omega)) ps_def (pd_cons (pd_var 8) pd_nil)))
def s_law_13 : MS := (sDrop (eMeth "Pool" "merge_block" s_Pool_merge_block 2 (eVar 3) (aCons (eVar 8) aNil)))
theorem d_law_13 (B : Fc K mg) {cdv : Value} {s : Shared} {H : Hp} {E : XK} {c Pt fa : Addr} {A : Around} {outer : List Env} (TB : LamX.TabB base mg c Pt) (hcd0 : cdv = .ref c) (hT : Tb.T = [(Pt, ("law.<locals>.<lambda>" : Str))]) (hG : (A.deeper (qEnv s.heap.objs.size fa cdv)).guards = some []) (hr : Room 81 (A.deeper (qEnv s.heap.objs.size fa cdv))) : PDS (qX P w K mg base fa cdv A outer s H E) E (bd (ib (bd (ib (bd (ie (bd (fb (bd (defBody (top 32)) 3)) 2)) 3)) 1)) 0) s_law_13 :=
  (pd_expr (pd_methK (pd_var 3) B.g_Pool B.cls_Pool B.meth_Pool_merge_block (d_Pool_merge_block B) (hr.mono (by omega)) ps_def (pd_cons (pd_var 8) pd_nil)))
def s_law_14 : MS := (sIf (tBl (eB2 eqD (eCall s__law_taken 2 (aCons (eVar 1) (aCons (eC (.int 2)) aNil))) (eC (.int 0)))) s_law_13 sNext)
theorem d_law_14 (B : Fc K mg) {cdv : Value} {s : Shared} {H : Hp} {E : XK} {c Pt fa : Addr} {A : Around} {outer : List Env} (TB : LamX.TabB base mg c Pt) (hcd0 : cdv = .ref c) (hT : Tb.T = [(Pt, ("law.<locals>.<lambda>" : Str))]) (hG : (A.deeper (qEnv s.heap.objs.size fa cdv)).guards = some []) (hr : Room 81 (A.deeper (qEnv s.heap.objs.size fa cdv))) : PDS (qX P w K mg base fa cdv A outer s H E) E (bd (ib (bd (ie (bd (fb (bd (defBody (top 32)) 3)) 2)) 3)) 1) s_law_14 :=
  (pd_sif (pd_tcmp (op_eq2 (Room.u _ hr)) b2_eq (pd_callK (d__law_taken B) (hr.mono (by omega)) rfl B.g__law_taken ps_def (pd_cons (pd_var 1) (pd_cons pd_int pd_nil))) pd_int rfl) (pd_sone (d_law_13 B TB hcd0 hT hG hr)) pd_snil)
def s_law_15 : MS := (sIf (tAnd (tBl (eB2 ltD (eVar 6) (eVar 2))) (tBl (eB2 eqD (eCall s__law_taken 2 (aCons (eVar 1) (aCons (eC (.int 3)) aNil))) (eC (.int 0))))) (sSeq s_law_12
  s_law_14) sNext)
theorem d_law_15 (B : Fc K mg) {cdv : Value} {s : Shared} {H : Hp} {E : XK} {c Pt fa : Addr} {A : Around} {outer : List Env} (TB : LamX.TabB base mg c Pt) (hcd0 : cdv = .ref c) (hT : Tb.T = [(Pt, ("law.<locals>.<lambda>" : Str))]) (hG : (A.deeper (qEnv s.heap.objs.size fa cdv)).guards = some []) (hr : Room 81 (A.deeper (qEnv s.heap.objs.size fa cdv))) : PDS (qX P w K mg base fa cdv A outer s H E) E (bd (ie (bd (fb (bd (defBody (top 32)) 3)) 2)) 3) s_law_15 :=
  (pd_sif (pd_pw (pd_and (pd_tcmp op_ltQ (b2_ord _ _) (pd_var 6) (pd_var 2) rfl) (pd_and1 (pd_tcmp (op_eq2 (Room.u _ hr)) b2_eq (pd_callK (d__law_taken B) (hr.mono (by omega)) rfl B.g__law_taken ps_def (pd_cons (pd_var 1) (pd_cons pd_int pd_nil))) pd_int rfl)))) (pd_scons (d_law_12 B TB hcd0 hT hG hr)
  (pd_sone (d_law_14 B TB hcd0 hT hG hr))) pd_snil)
def s_law_16 : MS := (sIf (tBl (eB2 gtD (eVar 7) (eVar 4))) s_law_7 (sSeq s_law_8
  (sSeq s_law_9
  (sSeq s_law_11
  s_law_15))))
theorem d_law_16 (B : Fc K mg) {cdv : Value} {s : Shared} {H : Hp} {E : XK} {c Pt fa : Addr} {A : Around} {outer : List Env} (TB : LamX.TabB base mg c Pt) (hcd0 : cdv = .ref c) (hT : Tb.T = [(Pt, ("law.<locals>.<lambda>" : Str))]) (hG : (A.deeper (qEnv s.heap.objs.size fa cdv)).guards = some []) (hr : Room 81 (A.deeper (qEnv s.heap.objs.size fa cdv))) : PDS (qX P w K mg base fa cdv A outer s H E) E (bd (fb (bd (defBody (top 32)) 3)) 2) s_law_16 :=
  (pd_sif (pd_tcmp op_gtQ (b2_ord _ _) (pd_var 7) (pd_var 4) rfl) (pd_sone (d_law_7 B TB hcd0 hT hG hr)) (pd_scons (d_law_8 B TB hcd0 hT hG hr)
  (pd_scons (d_law_9 B TB hcd0 hT hG hr)
  (pd_scons (d_law_11 B TB hcd0 hT hG hr)
  (pd_sone (d_law_15 B TB hcd0 hT hG hr))))))
def s_law_17 : MS := (sSet 9 (eLc [10] (iSeq (eCall s_free_blocks 1 (aCons (eVar 3) aNil))) (gSet 10) tYesD (eCN lenD (aCons (eVar 10) aNil))))
theorem d_law_17 (B : Fc K mg) {cdv : Value} {s : Shared} {H : Hp} {E : XK} {c Pt fa : Addr} {A : Around} {outer : List Env} (TB : LamX.TabB base mg c Pt) (hcd0 : cdv = .ref c) (hT : Tb.T = [(Pt, ("law.<locals>.<lambda>" : Str))]) (hG : (A.deeper (qEnv s.heap.objs.size fa cdv)).guards = some []) (hr : Room 81 (A.deeper (qEnv s.heap.objs.size fa cdv))) : PDS (qX P w K mg base fa cdv A outer s H E) E (bd (fb (bd (defBody (top 32)) 3)) 3) s_law_17 :=
  (pd_setlc (i := 9) (own := [("free", 10)]) rfl sc_law.nd rfl rfl (sw_true rfl rfl rfl rfl) (pd_iseq (pd_callK (d_free_blocks B) (hr.mono (by omega)) rfl B.g_free_blocks ps_def (pd_cons (pd_var 3) pd_nil))) (blkOk_by (by kernel_rfl)) (fun _ _ _ _ _ => (pd_gname (i := 10) sc_law.nd rfl (by first | exact Or.inl rfl | exact Or.inr rfl))) (fun _ _ _ _ _ => pd_tyes) (fun _ _ _ _ _ => (pd_callB call_len3 cn_len rfl B.f_len bo_len (pd_cons (pd_var 10) pd_nil))))
def s_law_18 : MS := (sRet (eC (.bl false)))
theorem d_law_18 (B : Fc K mg) {cdv : Value} {s : Shared} {H : Hp} {E : XK} {c Pt fa : Addr} {A : Around} {outer : List Env} (TB : LamX.TabB base mg c Pt) (hcd0 : cdv = .ref c) (hT : Tb.T = [(Pt, ("law.<locals>.<lambda>" : Str))]) (hG : (A.deeper (qEnv s.heap.objs.size fa cdv)).guards = some []) (hr : Room 81 (A.deeper (qEnv s.heap.objs.size fa cdv))) : PDS (qX P w K mg base fa cdv A outer s H E) E (bd (ib (bd (fb (bd (defBody (top 32)) 3)) 4)) 0) s_law_18 :=
  (pd_ret pd_bl)
def s_law_19 : MS := (sIf (tOr (tBl (eB2 neD (eCall s_count_free 1 (aCons (eVar 3) aNil)) (eVar 4))) (tBl (eB2 neD (eLenSet (eVar 9)) (eCN lenD (aCons (eVar 9) aNil))))) s_law_18 sNext)
theorem d_law_19 (B : Fc K mg) {cdv : Value} {s : Shared} {H : Hp} {E : XK} {c Pt fa : Addr} {A : Around} {outer : List Env} (TB : LamX.TabB base mg c Pt) (hcd0 : cdv = .ref c) (hT : Tb.T = [(Pt, ("law.<locals>.<lambda>" : Str))]) (hG : (A.deeper (qEnv s.heap.objs.size fa cdv)).guards = some []) (hr : Room 81 (A.deeper (qEnv s.heap.objs.size fa cdv))) : PDS (qX P w K mg base fa cdv A outer s H E) E (bd (fb (bd (defBody (top 32)) 3)) 4) s_law_19 :=
  (pd_sif (pd_pw (pd_or (pd_tcmp (op_ne2 (Room.u _ hr)) b2_ne (pd_callK (d_count_free B) (hr.mono (by omega)) rfl B.g_count_free ps_def (pd_cons (pd_var 3) pd_nil)) (pd_var 4) rfl) (pd_or1 (pd_tcmp (op_ne2 (Room.u _ hr)) b2_ne (pd_lenset rfl rfl B.f_len rfl B.f_set (pd_var 9)) (pd_callB call_len3 cn_len rfl B.f_len bo_len (pd_cons (pd_var 9) pd_nil)) rfl)))) (pd_sone (d_law_18 B TB hcd0 hT hG hr)) pd_snil)
def s_law_20 : MS := (sFor (iRng rng1 (aCons (eC (.int 40)) aNil)) (gSet 5) (sSeq s_law_4
  (sSeq s_law_5
  (sSeq s_law_16
  (sSeq s_law_17
  s_law_19)))))
theorem d_law_20 (B : Fc K mg) {cdv : Value} {s : Shared} {H : Hp} {E : XK} {c Pt fa : Addr} {A : Around} {outer : List Env} (TB : LamX.TabB base mg c Pt) (hcd0 : cdv = .ref c) (hT : Tb.T = [(Pt, ("law.<locals>.<lambda>" : Str))]) (hG : (A.deeper (qEnv s.heap.objs.size fa cdv)).guards = some []) (hr : Room 81 (A.deeper (qEnv s.heap.objs.size fa cdv))) : PDS (qX P w K mg base fa cdv A outer s H E) E (bd (defBody (top 32)) 3) s_law_20 :=
  (pd_for (vw := [5]) po_def rfl (pd_irng1 rfl B.f_range (pd_cons pd_int pd_nil)) (pd_gname (i := 5) sc_law.nd rfl (by first | exact Or.inl rfl | exact Or.inr rfl)) (pd_scons (d_law_4 B TB hcd0 hT hG hr)
  (pd_scons (d_law_5 B TB hcd0 hT hG hr)
  (pd_scons (d_law_16 B TB hcd0 hT hG hr)
  (pd_scons (d_law_17 B TB hcd0 hT hG hr)
  (pd_sone (d_law_19 B TB hcd0 hT hG hr)))))))
def s_law_21 : MS := (sRet (eB2 eqD (eB2 addD (eCN sumD (aCons (eLc [8, 11] (iSeq (eMeth "Pool" "blocks" s_Pool_blocks 1 (eVar 3) aNil)) (gTupD 2 (gsCons (gSet 8) (gsCons (gSet 11) gsNil))) tYesD (eB2 shlD (eC (.int 1)) (eB2 subD (eVar 2) (eCN lenD (aCons (eVar 8) aNil))))) aNil)) (eVar 4)) (eB2 shlD (eC (.int 1)) (eVar 2))))
theorem d_law_21 (B : Fc K mg) {cdv : Value} {s : Shared} {H : Hp} {E : XK} {c Pt fa : Addr} {A : Around} {outer : List Env} (TB : LamX.TabB base mg c Pt) (hcd0 : cdv = .ref c) (hT : Tb.T = [(Pt, ("law.<locals>.<lambda>" : Str))]) (hG : (A.deeper (qEnv s.heap.objs.size fa cdv)).guards = some []) (hr : Room 81 (A.deeper (qEnv s.heap.objs.size fa cdv))) : PDS (qX P w K mg base fa cdv A outer s H E) E (bd (defBody (top 32)) 4) s_law_21 :=
  (pd_ret (pd_cmp (op_eq2 (Room.u _ hr)) b2_eq (pd_op op_add4 b2_add (pd_callB (call_sum2 rfl) cn_sum rfl B.f_sum bo_sum (pd_cons (pd_lc (own := [("block", 8), ("owner", 11)]) rfl sc_law.nd (pd_iseq (pd_methK0 (pd_var 3) B.g_Pool B.cls_Pool B.meth_Pool_blocks (d_Pool_blocks B) (hr.mono (by omega)) ps_def)) (blkOk_by (by kernel_rfl)) (fun _ _ _ _ _ => (pd_gtup' (n := 2) rfl (pd_gscons (pd_gname (i := 8) sc_law.nd rfl (by first | exact Or.inl rfl | exact Or.inr rfl)) (pd_gscons (pd_gname (i := 11) sc_law.nd rfl (by first | exact Or.inl rfl | exact Or.inr rfl)) pd_gsnil)))) (fun _ _ _ _ _ => pd_tyes) (fun _ _ _ _ _ => (pd_op op_shl b2_shl pd_int (pd_op op_sub b2_sub (pd_var 2) (pd_callB call_len3 cn_len rfl B.f_len bo_len (pd_cons (pd_var 8) pd_nil)))))) pd_nil)) (pd_var 4)) (pd_op op_shl b2_shl pd_int (pd_var 2)) rfl))
def m_law : MS := (sSeq s_law_1
  (sSeq s_law_2
  (sSeq s_law_3
  (sSeq s_law_20
  s_law_21))))
theorem d_law (B : Fc K mg) {cdv : Value} {s : Shared} {H : Hp} {E : XK} {c Pt fa : Addr} {A : Around} {outer : List Env} (TB : LamX.TabB base mg c Pt) (hcd0 : cdv = .ref c) (hT : Tb.T = [(Pt, ("law.<locals>.<lambda>" : Str))]) (hG : (A.deeper (qEnv s.heap.objs.size fa cdv)).guards = some []) (hr : Room 81 (A.deeper (qEnv s.heap.objs.size fa cdv))) : PDSs (qX P w K mg base fa cdv A outer s H E) E (defBody (top 32)) m_law :=
  (pd_scons (d_law_1 B TB hcd0 hT hG hr)
  (pd_scons (d_law_2 B TB hcd0 hT hG hr)
  (pd_scons (d_law_3 B TB hcd0 hT hG hr)
  (pd_scons (d_law_20 B TB hcd0 hT hG hr)
  (pd_sone (d_law_21 B TB hcd0 hT hG hr))))))
end
end
end K18

namespace K18
open PySem PySem.Spec L2 MP
def dd__law_taken : He.DefD := ⟨("_law_taken", none), "_law_taken", "_law_taken", defArgs (top 28), defBody (top 28), defScope (top 28), [], []⟩
def dd__law_pick : He.DefD := ⟨("_law_pick", none), "_law_pick", "_law_pick", defArgs (top 29), defBody (top 29), defScope (top 29), [], []⟩
def dd_is_integer : He.DefD := ⟨("is_integer", none), "is_integer", "is_integer", defArgs (top 3), defBody (top 3), defScope (top 3), [], []⟩
def dd_is_within : He.DefD := ⟨("is_within", none), "is_within", "is_within", defArgs (top 4), defBody (top 4), defScope (top 4), [], []⟩
def dd_need_width : He.DefD := ⟨("need_width", none), "need_width", "need_width", defArgs (top 17), defBody (top 17), defScope (top 17), [], []⟩
def dd_Pool___init__ : He.DefD := ⟨("Pool", some "__init__"), "__init__", "Pool.__init__", defArgs (cst (top 20) 0), defBody (cst (top 20) 0), defScope (cst (top 20) 0), [], []⟩
def dd__law_block : He.DefD := ⟨("_law_block", none), "_law_block", "_law_block", defArgs (top 30), defBody (top 30), defScope (top 30), [], []⟩
def dd_Pool_need_length : He.DefD := ⟨("Pool", some "need_length"), "need_length", "Pool.need_length", defArgs (cst (top 20) 6), defBody (cst (top 20) 6), defScope (cst (top 20) 6), [], []⟩
def dd_need_owner : He.DefD := ⟨("need_owner", none), "need_owner", "need_owner", defArgs (top 21), defBody (top 21), defScope (top 21), [], []⟩
def dd_free_below : He.DefD := ⟨("free_below", none), "free_below", "free_below", defArgs (top 23), defBody (top 23), defScope (top 23), [], []⟩
def dd_free_of : He.DefD := ⟨("free_of", none), "free_of", "free_of", defArgs (top 24), defBody (top 24), defScope (top 24), [], []⟩
def dd_Pool_give_block : He.DefD := ⟨("Pool", some "give_block"), "give_block", "Pool.give_block", defArgs (cst (top 20) 2), defBody (cst (top 20) 2), defScope (cst (top 20) 2), [], []⟩
def dd_Pool_need_block : He.DefD := ⟨("Pool", some "need_block"), "need_block", "Pool.need_block", defArgs (cst (top 20) 7), defBody (cst (top 20) 7), defScope (cst (top 20) 7), [], []⟩
def dd_Pool_split_block : He.DefD := ⟨("Pool", some "split_block"), "split_block", "Pool.split_block", defArgs (cst (top 20) 4), defBody (cst (top 20) 4), defScope (cst (top 20) 4), [], []⟩
def dd_need_pool : He.DefD := ⟨("need_pool", none), "need_pool", "need_pool", defArgs (top 22), defBody (top 22), defScope (top 22), [], []⟩
def dd_free_blocks : He.DefD := ⟨("free_blocks", none), "free_blocks", "free_blocks", defArgs (top 25), defBody (top 25), defScope (top 25), [], []⟩
def dd_count_free : He.DefD := ⟨("count_free", none), "count_free", "count_free", defArgs (top 26), defBody (top 26), defScope (top 26), [], []⟩
def dd_is_bits : He.DefD := ⟨("is_bits", none), "is_bits", "is_bits", defArgs (top 5), defBody (top 5), defScope (top 5), [], []⟩
def dd_is_prefix : He.DefD := ⟨("is_prefix", none), "is_prefix", "is_prefix", defArgs (top 6), defBody (top 6), defScope (top 6), [], []⟩
def dd_Pool_merge_block : He.DefD := ⟨("Pool", some "merge_block"), "merge_block", "Pool.merge_block", defArgs (cst (top 20) 5), defBody (cst (top 20) 5), defScope (cst (top 20) 5), [], []⟩
def dd_Pool_blocks : He.DefD := ⟨("Pool", some "blocks"), "blocks", "Pool.blocks", defArgs (cst (top 20) 1), defBody (cst (top 20) 1), defScope (cst (top 20) 1), [], []⟩
def dd__law_refused : He.DefD := ⟨("_law_refused", none), "_law_refused", "_law_refused", defArgs (top 31), defBody (top 31), defScope (top 31), [], []⟩
def dd_law : He.DefD := ⟨("law", none), "law", "law", defArgs (top 32), defBody (top 32), defScope (top 32), [], []⟩
def dd_exc : He.DefD := ⟨("RouteError", some "__init__"), "__init__", "RouteError.__init__", defArgs (cst (top 8) 0), defBody (cst (top 8) 0), defScope (cst (top 8) 0), [.non], []⟩
def fnL : List He.DefD := [dd__law_taken, dd__law_pick, dd_is_integer, dd_is_within, dd_need_width, dd_Pool___init__, dd__law_block, dd_Pool_need_length, dd_need_owner, dd_free_below, dd_free_of, dd_Pool_give_block, dd_Pool_need_block, dd_Pool_split_block, dd_need_pool, dd_free_blocks, dd_count_free, dd_is_bits, dd_is_prefix, dd_Pool_merge_block, dd_Pool_blocks, dd__law_refused, dd_law, dd_exc]
def faL : List He.Fa := [.glo "_law_taken", .glo "is_integer", .glo "is_within", .glo "BadWidth", .glo "need_width", .glo "BadLength", .glo "BadOwner", .glo "free_below", .glo "Pool", .glo "need_owner", .glo "free_of", .glo "NoRoom", .glo "BadBlock", .glo "BadPool", .glo "need_pool", .glo "is_bits", .glo "is_prefix", .glo "_law_pick", .glo "_law_block", .glo "_law_refused", .glo "BadAddress", .glo "free_blocks", .glo "count_free", .glo "law", .free "int", .free "len", .free "bool", .free "isinstance", .free "min", .free "range", .free "str", .free "tuple", .free "sum", .free "all", .free "sorted", .free "repr", .free "set", .int "MOST_BITS" (64), .int "MOST_OWNER" (999), .cls "Pool", .meth "Pool" "need_length", .meth "Pool" "need_block", .meth "Pool" "give_block", .meth "Pool" "split_block", .meth "Pool" "merge_block", .meth "Pool" "blocks", .mkr "Pool"]
def exL : List (PySem.W.Frag → Bool) := [fun K => fldB K "width" ["Pool"], fun K => fldB K "owners" ["Pool"], fun K => clsFB K ["Pool"], fun K => excB K "RouteError" "BadWidth", fun K => excB K "RouteError" "BadLength", fun K => excB K "RouteError" "BadOwner", fun K => excB K "RouteError" "NoRoom", fun K => excB K "RouteError" "BadBlock", fun K => excB K "RouteError" "BadPool", fun K => refB K refL]
def exq (K : PySem.W.Frag) : Bool := exL.all fun f => f K
abbrev tfL : List He.Defn := [("law", none)]
theorem fc_of [Tb] {w : World} {h : Heap} {K : PySem.W.Frag} {mg : Str → Option Value} (X : K.In h) (G : h.Ns mainGlobals mg) (c : He.SaysX faL fnL [] tfL exq w h K) : Fc K mg :=
  have q : ∀ (i : Nat) (f : He.Fa), faL[i]? = some f → f.ok K = true := fun i f hf => c.t.d.fact i hf
  have e : ∀ (i : Nat) (f : PySem.W.Frag → Bool), exL[i]? = some f → f K = true := fun i f hf => List.all_eq_true.mp (show (exL.all fun f => f K) = true from c.more) f (List.mem_of_getElem? hf)
  {
  fd__law_taken := c.t.d.def_ 0 (d := dd__law_taken) rfl
  fd__law_pick := c.t.d.def_ 1 (d := dd__law_pick) rfl
  fd_is_integer := c.t.d.def_ 2 (d := dd_is_integer) rfl
  fd_is_within := c.t.d.def_ 3 (d := dd_is_within) rfl
  fd_need_width := c.t.d.def_ 4 (d := dd_need_width) rfl
  fd_Pool___init__ := c.t.d.def_ 5 (d := dd_Pool___init__) rfl
  fd__law_block := c.t.d.def_ 6 (d := dd__law_block) rfl
  fd_Pool_need_length := c.t.d.def_ 7 (d := dd_Pool_need_length) rfl
  fd_need_owner := c.t.d.def_ 8 (d := dd_need_owner) rfl
  fd_free_below := c.t.d.def_ 9 (d := dd_free_below) rfl
  fd_free_of := c.t.d.def_ 10 (d := dd_free_of) rfl
  fd_Pool_give_block := c.t.d.def_ 11 (d := dd_Pool_give_block) rfl
  fd_Pool_need_block := c.t.d.def_ 12 (d := dd_Pool_need_block) rfl
  fd_Pool_split_block := c.t.d.def_ 13 (d := dd_Pool_split_block) rfl
  fd_need_pool := c.t.d.def_ 14 (d := dd_need_pool) rfl
  fd_free_blocks := c.t.d.def_ 15 (d := dd_free_blocks) rfl
  fd_count_free := c.t.d.def_ 16 (d := dd_count_free) rfl
  fd_is_bits := c.t.d.def_ 17 (d := dd_is_bits) rfl
  fd_is_prefix := c.t.d.def_ 18 (d := dd_is_prefix) rfl
  fd_Pool_merge_block := c.t.d.def_ 19 (d := dd_Pool_merge_block) rfl
  fd_Pool_blocks := c.t.d.def_ 20 (d := dd_Pool_blocks) rfl
  fd__law_refused := c.t.d.def_ 21 (d := dd__law_refused) rfl
  fd_exc := c.t.d.def_ 23 (d := dd_exc) rfl
  g__law_taken := (He.glo_ok X G (q 0 (.glo "_law_taken") rfl))
  g_is_integer := (He.glo_ok X G (q 1 (.glo "is_integer") rfl))
  g_is_within := (He.glo_ok X G (q 2 (.glo "is_within") rfl))
  g_BadWidth := (He.glo_ok X G (q 3 (.glo "BadWidth") rfl))
  g_need_width := (He.glo_ok X G (q 4 (.glo "need_width") rfl))
  g_BadLength := (He.glo_ok X G (q 5 (.glo "BadLength") rfl))
  g_BadOwner := (He.glo_ok X G (q 6 (.glo "BadOwner") rfl))
  g_free_below := (He.glo_ok X G (q 7 (.glo "free_below") rfl))
  g_Pool := (He.glo_ok X G (q 8 (.glo "Pool") rfl))
  g_need_owner := (He.glo_ok X G (q 9 (.glo "need_owner") rfl))
  g_free_of := (He.glo_ok X G (q 10 (.glo "free_of") rfl))
  g_NoRoom := (He.glo_ok X G (q 11 (.glo "NoRoom") rfl))
  g_BadBlock := (He.glo_ok X G (q 12 (.glo "BadBlock") rfl))
  g_BadPool := (He.glo_ok X G (q 13 (.glo "BadPool") rfl))
  g_need_pool := (He.glo_ok X G (q 14 (.glo "need_pool") rfl))
  g_is_bits := (He.glo_ok X G (q 15 (.glo "is_bits") rfl))
  g_is_prefix := (He.glo_ok X G (q 16 (.glo "is_prefix") rfl))
  g__law_pick := (He.glo_ok X G (q 17 (.glo "_law_pick") rfl))
  g__law_block := (He.glo_ok X G (q 18 (.glo "_law_block") rfl))
  g__law_refused := (He.glo_ok X G (q 19 (.glo "_law_refused") rfl))
  g_BadAddress := (He.glo_ok X G (q 20 (.glo "BadAddress") rfl))
  g_free_blocks := (He.glo_ok X G (q 21 (.glo "free_blocks") rfl))
  g_count_free := (He.glo_ok X G (q 22 (.glo "count_free") rfl))
  f_int := He.free_ok X G (q 24 (.free "int") rfl)
  f_len := He.free_ok X G (q 25 (.free "len") rfl)
  f_bool := He.free_ok X G (q 26 (.free "bool") rfl)
  f_isinstance := He.free_ok X G (q 27 (.free "isinstance") rfl)
  f_min := He.free_ok X G (q 28 (.free "min") rfl)
  f_range := He.free_ok X G (q 29 (.free "range") rfl)
  f_str := He.free_ok X G (q 30 (.free "str") rfl)
  f_tuple := He.free_ok X G (q 31 (.free "tuple") rfl)
  f_sum := He.free_ok X G (q 32 (.free "sum") rfl)
  f_all := He.free_ok X G (q 33 (.free "all") rfl)
  f_sorted := He.free_ok X G (q 34 (.free "sorted") rfl)
  f_repr := He.free_ok X G (q 35 (.free "repr") rfl)
  f_set := He.free_ok X G (q 36 (.free "set") rfl)
  i_MOST_BITS := He.int_ok X G (q 37 (.int "MOST_BITS" (64)) rfl)
  i_MOST_OWNER := He.int_ok X G (q 38 (.int "MOST_OWNER" (999)) rfl)
  fld_width := fld_of (e 0 _ rfl) (List.forall_mem_cons.mpr ⟨(He.glo_ok X G (q 8 (.glo "Pool") rfl)), (List.forall_mem_nil _)⟩)
  fld_owners := fld_of (e 1 _ rfl) (List.forall_mem_cons.mpr ⟨(He.glo_ok X G (q 8 (.glo "Pool") rfl)), (List.forall_mem_nil _)⟩)
  cls_Pool := He.cls_ok (q 39 (.cls "Pool") rfl)
  meth_Pool_need_length := He.meth_ok (q 40 (.meth "Pool" "need_length") rfl)
  meth_Pool_need_block := He.meth_ok (q 41 (.meth "Pool" "need_block") rfl)
  meth_Pool_give_block := He.meth_ok (q 42 (.meth "Pool" "give_block") rfl)
  meth_Pool_split_block := He.meth_ok (q 43 (.meth "Pool" "split_block") rfl)
  meth_Pool_merge_block := He.meth_ok (q 44 (.meth "Pool" "merge_block") rfl)
  meth_Pool_blocks := He.meth_ok (q 45 (.meth "Pool" "blocks") rfl)
  mk_Pool := He.mkr_ok (q 46 (.mkr "Pool") rfl)
  clsF := clsF_of (e 2 _ rfl) (List.forall_mem_cons.mpr ⟨(He.glo_ok X G (q 8 (.glo "Pool") rfl)), (List.forall_mem_nil _)⟩)
  exc_BadWidth := exc_of (e 3 _ rfl) (He.glo_ok X G (q 3 (.glo "BadWidth") rfl))
  exc_BadLength := exc_of (e 4 _ rfl) (He.glo_ok X G (q 5 (.glo "BadLength") rfl))
  exc_BadOwner := exc_of (e 5 _ rfl) (He.glo_ok X G (q 6 (.glo "BadOwner") rfl))
  exc_NoRoom := exc_of (e 6 _ rfl) (He.glo_ok X G (q 11 (.glo "NoRoom") rfl))
  exc_BadBlock := exc_of (e 7 _ rfl) (He.glo_ok X G (q 12 (.glo "BadBlock") rfl))
  exc_BadPool := exc_of (e 8 _ rfl) (He.glo_ok X G (q 13 (.glo "BadPool") rfl))
  ref := ref_of (e 9 _ rfl) (List.forall_mem_cons.mpr ⟨(He.glo_ok X G (q 3 (.glo "BadWidth") rfl)), (List.forall_mem_cons.mpr ⟨(He.glo_ok X G (q 5 (.glo "BadLength") rfl)), (List.forall_mem_cons.mpr ⟨(He.glo_ok X G (q 6 (.glo "BadOwner") rfl)), (List.forall_mem_cons.mpr ⟨(He.glo_ok X G (q 12 (.glo "BadBlock") rfl)), (List.forall_mem_cons.mpr ⟨(He.glo_ok X G (q 11 (.glo "NoRoom") rfl)), (List.forall_mem_cons.mpr ⟨(He.glo_ok X G (q 13 (.glo "BadPool") rfl)), (List.forall_mem_cons.mpr ⟨(He.glo_ok X G (q 20 (.glo "BadAddress") rfl)), (List.forall_mem_nil _)⟩)⟩)⟩)⟩)⟩)⟩)⟩) }
def nm0 : List PySem.Str := ["_wall", "MOST_BITS", "is_integer", "is_within", "is_bits", "is_prefix", "RouteError", "BadAddress", "BadWidth", "BadPool", "BadLength", "BadOwner", "BadBlock", "NoRoom", "need_width", "MOST_OWNER", "Pool", "need_owner", "need_pool", "free_below", "free_of", "free_blocks", "count_free", "_law_taken", "_law_pick", "_law_block", "_law_refused"]
def loose : List PySem.Str := nm0
abbrev hk : PySem.W.Hook := He.hookX 7 faL fnL [] tfL exq
def obQ (s : PySem.W.SharedT) : He.AlX := He.obsX 7 faL fnL [] tfL exq (HandSHeadRun.getT s)
theorem obQ_eq (s : PySem.W.SharedT) : obQ s = hk.obs s.abs := He.obsX_eq (HandSHeadRun.getT_eq s)
abbrev RR : PySem.W.OpenRow := PySem.W.OpenLaw.row PySem.Challenge.rw_leastroutes_k18_whole_no_refusal
theorem run (w : World) : HandSHeadRun.RunEq RR (PySem.W.view RR.prog [32]) hk obQ 6000 loose w := by
  intro os
  kernel_rfl
theorem room : Room 82 callerA := ⟨rfl, by decide +kernel, by decide +kernel⟩
theorem lawRun {w : World} {h : Heap} {K : PySem.W.Frag} {mg : Str → Option Value} (X : K.In h) (G : h.Ns mainGlobals mg) (c : He.SaysX faL fnL [] tfL exq w h K)
    (hm : ∀ ns : List Int, ns.length ≤ 63 → (∀ z ∈ ns, Builtin.Int.intBits z ≤ 1048576) → ∃ μ, defM 12 m_law [scrD ns] [] = .ok (.bl true) μ) :
    LawRun RR.prog w K mg (He.ga K "law") [He.cT K ("law", none)] 63 := by
  letI : Tb := ⟨[((He.cT K ("law", none)).2, ("law.<locals>.<lambda>" : Str))]⟩
  have B := fc_of X G c
  obtain ⟨fdl, F⟩ := c.t.d.def_ 22 (d := dd_law) rfl
  refine law_run (k := 81) F sc_law (fun s v => FunD.bindsA (ps := ["script"]) F (fun _ _ _ _ _ _ us hl => match us, hl with | [_], _ => rfl) s [v] rfl) room (fun p hp => ⟨_, .head _, (congrArg Prod.fst (List.mem_singleton.mp hp)).symm⟩) (fun base cdv s H E KB GB TB hci hne hco hr => ?_) hm
  obtain ⟨oc, od, dV, kV, doc, pm, an, cdv', ct, osl, rfl, lk, hcd, _, _⟩ := F.ex
  obtain ⟨fd', h1, h2⟩ := hco _ lk
  cases h1
  obtain ⟨cc, hc⟩ := He.codeIn_ref hci
  have e1 : He.codeOf K ("law", none) = cc := He.codeOf_eq lk (h2.trans hc)
  exact d_law B (TB _ (.head _)) (by rw [hc, ← e1]; rfl) rfl rfl hr
theorem holds_of (hm : ∀ ns : List Int, ns.length ≤ 63 → (∀ z ∈ ns, Builtin.Int.intBits z ≤ 1048576) → ∃ μ, defM 12 m_law [scrD ns] [] = .ok (.bl true) μ) : PySem.Challenge.rw_leastroutes_k18_whole_no_refusal.Holds := by
  w_on; o_law
  refine HandSHeadRun.head_any (r := RR) (q := PySem.W.view RR.prog [32]) (H := hk) (ob := obQ) (M := 6000) (loose := loose) (d := HandSHeadRun.topDef RR.prog 32) (kwd := []) obQ_eq
    (by kernel_rfl) (fun s => by kernel_rfl) run (by kernel_rfl) (by kernel_rfl) (by kernel_rfl) (by rfl) (by first | assumption | decide +kernel) (by decide +kernel) ⟨rfl, rfl, rfl, rfl, rfl, by decide +kernel⟩ ?hw ?hc
  case hw => w_witness2
  case hc =>
    refine walk_mp (l := PySem.Challenge.rw_leastroutes_k18_whole_no_refusal) (n := 63) rfl (by decide) (by kernel_rfl) ?F
    intro w mg fa h Y G hmg0
    obtain ⟨K, KX, c⟩ := Y
    have hmg : mg ("law" : Str) = some (.ref fa) := by
      have e : (HandSHeadRun.topDef RR.prog 32).name = ("law" : Str) := by kernel_rfl
      rw [← e]
      exact hmg0
    have e := hmg.symm.trans (He.glo_ok KX G (c.t.d.fact 23 (f := .glo "law") rfl))
    cases e
    refine ⟨K, [He.cT K ("law", none)], KX, List.forall_mem_singleton.mpr (c.empty _ (by simp [tfL])), List.forall_mem_singleton.mpr (c.out _ (by simp [tfL])), List.forall_mem_singleton.mpr (PySem.W.codeHd_of_K KX (c.hd _ (by simp [tfL]))), lawRun KX G c hm⟩
end K18

namespace K18
open PySem PySem.Spec L2 MP
noncomputable section
abbrev txs (l : List Bits) : List D := l.map fun x => D.str (S x)
theorem noPtrs_txs (n : Nat) : ∀ l : List Bits, noPtrs n (txs l) = true
  | [] => rfl
  | a :: l => by
    show (noPtr n (.str (S a)) && noPtrs n (txs l)) = true
    rw [noPtrs_txs n l]
    rfl
theorem freeBelow_ok {μ : Mu} {o g : Nat} {lk1 lk2 : Bool} {B G : List Bits} {vs ws : List D} (ho : μ[o]? = some (.lv lk1 (.dK (B.map kS)) vs)) (hl : vs.length = B.length) (hg : μ[g]? = some (.lv lk2 (.dK (G.map kS)) ws)) (hw : ws.length = G.length)
    (hG : ∀ q, q ∈ G ↔ begun B q = true) {W : Nat} (hW : ∀ b ∈ B, b.length ≤ W) (hW64 : W ≤ 64) (hB : B.length ≤ 500) : ∀ (n : Nat) (p : Bits), n ≤ 70 → 1 ≤ n → W < n + p.length → p.length ≤ W + 1 →
    callF (s_free_below n) [.ptr o, .ptr g, .str (S p)] μ = .ok (.lst (txs (freeL B n p))) μ
  | 0, p, _, h, _, _ => by omega
  | n + 1, p, h70, _, h2, h3 => by
    have i1 : inD μ (.str (S p)) (.ptr o) = some (.bl (decide (p ∈ B))) := by rw [inD_dct (view_ptr ho) (keyD_S p), find_in B vs p hl]
    have i2 : ninD μ (.str (S p)) (.ptr g) = some (.bl (!decide (p ∈ G))) := by rw [ninD_dct (view_ptr hg) (keyD_S p), find_in G ws p hw]
    refine call_ok ?_ rfl
    unfold freeL s_free_below
    by_cases hp : p ∈ B
    · simp only [R.bind_ok, bind_exc, lift_some, defM_k, kDef_nx, kDef_rt, sSeq_k, kSeq_nx, kSeq_rt, kSeq_bk, kSeq_ct, sRet_k, kRet_k, sDrop_k, kDrop_k, sIf_k, kIf_t, kIf_f, sSet_k, kSet_k, sNext_k, sBreak_k, sCont_k, sAsg_k, kAsg_k, kAsg2_k, gSet_k, gItem_k, kGi1_k, kGi2_k, kGi3_k, gsCons_k, kGs_k, gsNil_k, gTup2, gTup3, sPar_k, kPar_k, sPar3_k, kPar3_k, sFldSet_k, kFs1_k, kFs2_k, kFs3_k, sRaise_k, kRaise_k, tst_k, kTst_k, tBl_k, kTBl_k, tAnd_k, kTAnd_t, kTAnd_f, tOr_k, kTOr_t, kTOr_f, tNot_k, kTNot_k, tYes_k, eC_k, eVar_k, kVar_k, eU1_k, kU1_k, eB2_k, kB2_k, kB2'_k, eCN_k, kCN_k, aNil_k, aCons_k, kAc_k, kAc2_k, hNew_k, kNew_0, kNew_1, kNew_4, eAnd_k, kAnd_t, kAnd_f, eOr_k, kOr_t, kOr_f, eNot_k, kNot_k, eIf_k, kIfE_t, kIfE_f, eChain_k, kCh1_k, kCh2_k, kCh3_t, kCh3_f, oNone_k, oSome_k, kOs_k, eSl_k, kSl1_k, kSl2_k, kSl3_k, eCall_k, kCall_1, kCall_2, kCall_3, kCall_4, eMeth_k, kMt2_1, kMt2_2, kMt2_3, eFrz_k, eGet_k, view_int', view_str', view_bl', view_non', view_con', addD_int, subD_int, negD_int, gtD_int, ltD_int, geD_int, leD_int, eqD_int, neD_int, eqD_str, neD_str, eqD_bl, isD_non, isntD_non, intC_int, min2_int, conD_0, conD_1, conD_2, conD_3, truD_bl, truD_lst, truD_tup, tupD_lst, lenD_lst, lenD_tup, lenD_scr, ixD_lst, ixD_tup, ixD_scr, startR, List.map_cons, List.map_nil, List.length_cons, List.length_nil, List.cons_append, List.nil_append, List.replicate, List.getElem?_cons_zero, List.getElem?_cons_succ, List.set_cons_zero, List.set_cons_succ, Nat.reduceAdd, Nat.reduceSub, Nat.zero_add, Bool.not_true, Bool.not_false, i1, hp, decide_true, if_true]
    · by_cases hb : begun B p = true
      · have hpG : p ∈ G := (hG p).mpr hb
        have hlt : p.length < W := by
          obtain ⟨b, h3, h4, h5⟩ := begun_iff.mp hb
          have := hW b h3
          have h6 := h4.length_le
          have : p.length ≠ b.length := fun e => h5 (h4.eq_of_length e)
          omega
        have ih : ∀ c, callF (s_free_below n) [.ptr o, .ptr g, .str (S (p ++ [c]))] μ = .ok (.lst (txs (freeL B n (p ++ [c])))) μ := fun c => freeBelow_ok ho hl hg hw hG hW hW64 hB n (p ++ [c]) (by omega) (by omega) (by simp; omega) (by simp; omega)
        have a0 : addD μ (.str (S p)) (.str "0") = some (.str (S (p ++ [false]))) := by rw [S_zero]; exact addD_S (by simp; omega)
        have a1 : addD μ (.str (S p)) (.str "1") = some (.str (S (p ++ [true]))) := by rw [S_one]; exact addD_S (by simp; omega)
        have fl : ∀ c, (txs (freeL B n (p ++ [c]))).length ≤ 40000 := fun c => by
          have h1 := free_many (B := B) n (p ++ [c])
          have h2 : (B.filter fun b => (p ++ [c]).isPrefixOf b).length ≤ B.length := List.length_filter_le _ _
          have h3 : n * (B.filter fun b => (p ++ [c]).isPrefixOf b).length ≤ 70 * 500 := Nat.mul_le_mul (by omega) (by omega)
          rw [List.length_map]
          omega
        have cc : addD μ (.con .lst (txs (freeL B n (p ++ [false])))) (.con .lst (txs (freeL B n (p ++ [true])))) = some (.con .lst (txs (freeL B n (p ++ [false]) ++ freeL B n (p ++ [true])))) := by
          have f0 := fl false
          have f1 := fl true
          rw [addD_lst (by omega)]
          unfold txs
          rw [List.map_append]
        simp only [R.bind_ok, bind_exc, lift_some, defM_k, kDef_nx, kDef_rt, sSeq_k, kSeq_nx, kSeq_rt, kSeq_bk, kSeq_ct, sRet_k, kRet_k, sDrop_k, kDrop_k, sIf_k, kIf_t, kIf_f, sSet_k, kSet_k, sNext_k, sBreak_k, sCont_k, sAsg_k, kAsg_k, kAsg2_k, gSet_k, gItem_k, kGi1_k, kGi2_k, kGi3_k, gsCons_k, kGs_k, gsNil_k, gTup2, gTup3, sPar_k, kPar_k, sPar3_k, kPar3_k, sFldSet_k, kFs1_k, kFs2_k, kFs3_k, sRaise_k, kRaise_k, tst_k, kTst_k, tBl_k, kTBl_k, tAnd_k, kTAnd_t, kTAnd_f, tOr_k, kTOr_t, kTOr_f, tNot_k, kTNot_k, tYes_k, eC_k, eVar_k, kVar_k, eU1_k, kU1_k, eB2_k, kB2_k, kB2'_k, eCN_k, kCN_k, aNil_k, aCons_k, kAc_k, kAc2_k, hNew_k, kNew_0, kNew_1, kNew_4, eAnd_k, kAnd_t, kAnd_f, eOr_k, kOr_t, kOr_f, eNot_k, kNot_k, eIf_k, kIfE_t, kIfE_f, eChain_k, kCh1_k, kCh2_k, kCh3_t, kCh3_f, oNone_k, oSome_k, kOs_k, eSl_k, kSl1_k, kSl2_k, kSl3_k, eCall_k, kCall_1, kCall_2, kCall_3, kCall_4, eMeth_k, kMt2_1, kMt2_2, kMt2_3, eFrz_k, eGet_k, view_int', view_str', view_bl', view_non', view_con', addD_int, subD_int, negD_int, gtD_int, ltD_int, geD_int, leD_int, eqD_int, neD_int, eqD_str, neD_str, eqD_bl, isD_non, isntD_non, intC_int, min2_int, conD_0, conD_1, conD_2, conD_3, truD_bl, truD_lst, truD_tup, tupD_lst, lenD_lst, lenD_tup, lenD_scr, ixD_lst, ixD_tup, ixD_scr, startR, List.map_cons, List.map_nil, List.length_cons, List.length_nil, List.cons_append, List.nil_append, List.replicate, List.getElem?_cons_zero, List.getElem?_cons_succ, List.set_cons_zero, List.set_cons_succ, Nat.reduceAdd, Nat.reduceSub, Nat.zero_add, Bool.not_true, Bool.not_false, i1, i2, hp, hpG, hb, decide_true, decide_false, if_false, if_true, a0, a1, ih, cc]
      · have hpG : p ∉ G := fun z => hb ((hG p).mp z)
        simp only [R.bind_ok, bind_exc, lift_some, defM_k, kDef_nx, kDef_rt, sSeq_k, kSeq_nx, kSeq_rt, kSeq_bk, kSeq_ct, sRet_k, kRet_k, sDrop_k, kDrop_k, sIf_k, kIf_t, kIf_f, sSet_k, kSet_k, sNext_k, sBreak_k, sCont_k, sAsg_k, kAsg_k, kAsg2_k, gSet_k, gItem_k, kGi1_k, kGi2_k, kGi3_k, gsCons_k, kGs_k, gsNil_k, gTup2, gTup3, sPar_k, kPar_k, sPar3_k, kPar3_k, sFldSet_k, kFs1_k, kFs2_k, kFs3_k, sRaise_k, kRaise_k, tst_k, kTst_k, tBl_k, kTBl_k, tAnd_k, kTAnd_t, kTAnd_f, tOr_k, kTOr_t, kTOr_f, tNot_k, kTNot_k, tYes_k, eC_k, eVar_k, kVar_k, eU1_k, kU1_k, eB2_k, kB2_k, kB2'_k, eCN_k, kCN_k, aNil_k, aCons_k, kAc_k, kAc2_k, hNew_k, kNew_0, kNew_1, kNew_4, eAnd_k, kAnd_t, kAnd_f, eOr_k, kOr_t, kOr_f, eNot_k, kNot_k, eIf_k, kIfE_t, kIfE_f, eChain_k, kCh1_k, kCh2_k, kCh3_t, kCh3_f, oNone_k, oSome_k, kOs_k, eSl_k, kSl1_k, kSl2_k, kSl3_k, eCall_k, kCall_1, kCall_2, kCall_3, kCall_4, eMeth_k, kMt2_1, kMt2_2, kMt2_3, eFrz_k, eGet_k, view_int', view_str', view_bl', view_non', view_con', addD_int, subD_int, negD_int, gtD_int, ltD_int, geD_int, leD_int, eqD_int, neD_int, eqD_str, neD_str, eqD_bl, isD_non, isntD_non, intC_int, min2_int, conD_0, conD_1, conD_2, conD_3, truD_bl, truD_lst, truD_tup, tupD_lst, lenD_lst, lenD_tup, lenD_scr, ixD_lst, ixD_tup, ixD_scr, startR, List.map_cons, List.map_nil, List.length_cons, List.length_nil, List.cons_append, List.nil_append, List.replicate, List.getElem?_cons_zero, List.getElem?_cons_succ, List.set_cons_zero, List.set_cons_succ, Nat.reduceAdd, Nat.reduceSub, Nat.zero_add, Bool.not_true, Bool.not_false, i1, i2, hp, hpG, hb, decide_true, decide_false, if_false, Bool.false_eq_true]
theorem set_same {μ : Mu} {g : Nat} {ob : Ob} (h : μ[g]? = some ob) : μ.set g ob = μ := by
  apply List.ext_getElem?
  intro i
  by_cases e : g = i
  · subst e
    rw [set_get h, h]
  · rw [List.getElem?_set_ne e]
/-- what the walk over the blocks lays down -/
def begunD (G : List Bits) : Ob := .lv false (.dK (G.map kS)) (List.replicate G.length (.bl true))
theorem begun_row {μ : Mu} {g : Nat} {G : List Bits} {b : Bits} {x0 x1 x2 x3 : Option D} (hg : μ[g]? = some (begunD G)) (hb : b.length ≤ 64) (hG : G.length ≤ 100000) :
    ∃ G', sFor (iRng rng1 (aCons (eCN lenD (aCons (eVar 2) aNil)) aNil)) (gSet 3) (sAsg (gItem (eVar 1) (eSl (eVar 2) oNone (oSome (eVar 3)))) (eC (.bl true))) [x0, some (.ptr g), some (.str (S b)), x3] μ =
      .ok (.nx, [x0, some (.ptr g), some (.str (S b)), if b = [] then x3 else some (.int ((b.length - 1 : Nat) : Int))]) (μ.set g (begunD G')) ∧ (∀ p, p ∈ G' ↔ p ∈ G ∨ (p <+: b ∧ p ≠ b)) ∧ G'.length ≤ G.length + 64 := by
  have hi : iRng rng1 (aCons (eCN lenD (aCons (eVar 2) aNil)) aNil) [x0, some (.ptr g), some (.str (S b)), x3] μ = .ok (fun _ => some (upD 0 b.length)) μ :=
    iRng1_k (by simp only [R.bind_ok, bind_exc, lift_some, defM_k, kDef_nx, kDef_rt, sSeq_k, kSeq_nx, kSeq_rt, kSeq_bk, kSeq_ct, sRet_k, kRet_k, sDrop_k, kDrop_k, sIf_k, kIf_t, kIf_f, sSet_k, kSet_k, sNext_k, sBreak_k, sCont_k, sAsg_k, kAsg_k, kAsg2_k, gSet_k, gItem_k, kGi1_k, kGi2_k, kGi3_k, gsCons_k, kGs_k, gsNil_k, gTup2, gTup3, sPar_k, kPar_k, sPar3_k, kPar3_k, sFldSet_k, kFs1_k, kFs2_k, kFs3_k, sRaise_k, kRaise_k, tst_k, kTst_k, tBl_k, kTBl_k, tAnd_k, kTAnd_t, kTAnd_f, tOr_k, kTOr_t, kTOr_f, tNot_k, kTNot_k, tYes_k, eC_k, eVar_k, kVar_k, eU1_k, kU1_k, eB2_k, kB2_k, kB2'_k, eCN_k, kCN_k, aNil_k, aCons_k, kAc_k, kAc2_k, hNew_k, kNew_0, kNew_1, kNew_4, eAnd_k, kAnd_t, kAnd_f, eOr_k, kOr_t, kOr_f, eNot_k, kNot_k, eIf_k, kIfE_t, kIfE_f, eChain_k, kCh1_k, kCh2_k, kCh3_t, kCh3_f, oNone_k, oSome_k, kOs_k, eSl_k, kSl1_k, kSl2_k, kSl3_k, eCall_k, kCall_1, kCall_2, kCall_3, kCall_4, eMeth_k, kMt2_1, kMt2_2, kMt2_3, eFrz_k, eGet_k, view_int', view_str', view_bl', view_non', view_con', addD_int, subD_int, negD_int, gtD_int, ltD_int, geD_int, leD_int, eqD_int, neD_int, eqD_str, neD_str, eqD_bl, isD_non, isntD_non, intC_int, min2_int, conD_0, conD_1, conD_2, conD_3, truD_bl, truD_lst, truD_tup, tupD_lst, lenD_lst, lenD_tup, lenD_scr, ixD_lst, ixD_tup, ixD_scr, startR, List.map_cons, List.map_nil, List.length_cons, List.length_nil, List.cons_append, List.nil_append, List.replicate, List.getElem?_cons_zero, List.getElem?_cons_succ, List.set_cons_zero, List.set_cons_succ, Nat.reduceAdd, Nat.reduceSub, Nat.zero_add, Bool.not_true, Bool.not_false, lenD_S (show b.length ≤ 1000000 by omega)]) (by omega)
  rw [sFor_const hi]
  have main := Wr_loop (l := upD 0 b.length) (g := gSet 3) (b := sAsg (gItem (eVar 1) (eSl (eVar 2) oNone (oSome (eVar 3)))) (eC (.bl true)))
    (P := fun r μ' => ∃ G', r = (.nx, [x0, some (.ptr g), some (.str (S b)), if b = [] then x3 else some (.int ((b.length - 1 : Nat) : Int))]) ∧ μ' = μ.set g (begunD G') ∧ (∀ p, p ∈ G' ↔ p ∈ G ∨ (p <+: b ∧ p ≠ b)) ∧ G'.length ≤ G.length + 64)
    (fun i ρ μ' => ∃ G', ρ = [x0, some (.ptr g), some (.str (S b)), if i = 0 then x3 else some (.int ((i - 1 : Nat) : Int))] ∧ μ' = μ.set g (begunD G') ∧ (∀ p, p ∈ G' ↔ p ∈ G ∨ (p <+: b ∧ p.length < i)) ∧ G'.length ≤ G.length + i)
    (fun i x ρ μ' hx h => by
      obtain ⟨G', rfl, rfl, h1, h2⟩ := h
      obtain ⟨hi, rfl⟩ := upD_get hx
      have hs := set_get (ob' := begunD G') hg
      have si : setItemD (μ.set g (begunD G')) (.ptr g) (.str (S (b.take i))) (.bl true) = some (μ.set g (begunD (addG G' (b.take i)))) := by
        rw [setItem_dct (key := kS (b.take i)) hs rfl (by rw [List.length_replicate]; omega), putKs_S, putDs_S, List.set_set]
        rfl
      simp only [R.bind_ok, bind_exc, lift_some, defM_k, kDef_nx, kDef_rt, sSeq_k, kSeq_nx, kSeq_rt, kSeq_bk, kSeq_ct, sRet_k, kRet_k, sDrop_k, kDrop_k, sIf_k, kIf_t, kIf_f, sSet_k, kSet_k, sNext_k, sBreak_k, sCont_k, sAsg_k, kAsg_k, kAsg2_k, gSet_k, gItem_k, kGi1_k, kGi2_k, kGi3_k, gsCons_k, kGs_k, gsNil_k, gTup2, gTup3, sPar_k, kPar_k, sPar3_k, kPar3_k, sFldSet_k, kFs1_k, kFs2_k, kFs3_k, sRaise_k, kRaise_k, tst_k, kTst_k, tBl_k, kTBl_k, tAnd_k, kTAnd_t, kTAnd_f, tOr_k, kTOr_t, kTOr_f, tNot_k, kTNot_k, tYes_k, eC_k, eVar_k, kVar_k, eU1_k, kU1_k, eB2_k, kB2_k, kB2'_k, eCN_k, kCN_k, aNil_k, aCons_k, kAc_k, kAc2_k, hNew_k, kNew_0, kNew_1, kNew_4, eAnd_k, kAnd_t, kAnd_f, eOr_k, kOr_t, kOr_f, eNot_k, kNot_k, eIf_k, kIfE_t, kIfE_f, eChain_k, kCh1_k, kCh2_k, kCh3_t, kCh3_f, oNone_k, oSome_k, kOs_k, eSl_k, kSl1_k, kSl2_k, kSl3_k, eCall_k, kCall_1, kCall_2, kCall_3, kCall_4, eMeth_k, kMt2_1, kMt2_2, kMt2_3, eFrz_k, eGet_k, view_int', view_str', view_bl', view_non', view_con', addD_int, subD_int, negD_int, gtD_int, ltD_int, geD_int, leD_int, eqD_int, neD_int, eqD_str, neD_str, eqD_bl, isD_non, isntD_non, intC_int, min2_int, conD_0, conD_1, conD_2, conD_3, truD_bl, truD_lst, truD_tup, tupD_lst, lenD_lst, lenD_tup, lenD_scr, ixD_lst, ixD_tup, ixD_scr, startR, List.map_cons, List.map_nil, List.length_cons, List.length_nil, List.cons_append, List.nil_append, List.replicate, List.getElem?_cons_zero, List.getElem?_cons_succ, List.set_cons_zero, List.set_cons_succ, Nat.reduceAdd, Nat.reduceSub, Nat.zero_add, Bool.not_true, Bool.not_false, sliceD_S (show b.length ≤ 1000000 by omega), si, Wr_ok]
      refine ⟨addG G' (b.take i), by rw [if_neg (by omega)]; simp, rfl, fun p => ?_, ?_⟩
      · rw [mem_addG, h1]
        constructor
        · rintro ((h | ⟨h, h'⟩) | rfl)
          · exact .inl h
          · exact .inr ⟨h, by omega⟩
          · refine .inr ⟨List.take_prefix _ _, ?_⟩
            rw [List.length_take]
            omega
        · rintro (h | ⟨h, h'⟩)
          · exact .inl (.inl h)
          · by_cases e : p.length = i
            · refine .inr ?_
              rw [← e]
              exact (List.prefix_iff_eq_take.mp h)
            · exact .inl (.inr ⟨h, by omega⟩)
      · have := addG_len G' (b.take i)
        omega)
    (fun ρ μ' h => by
      obtain ⟨G', rfl, rfl, h1, h2⟩ := h
      rw [upD_len] at h1 h2 ⊢
      refine ⟨G', ?_, rfl, fun p => ?_, by omega⟩
      · by_cases e : b = []
        · subst e
          rfl
        · have : b.length ≠ 0 := fun z => e (List.length_eq_zero_iff.mp z)
          rw [if_neg this, if_neg e]
      · rw [h1]
        constructor
        · rintro (h | ⟨h, h'⟩)
          · exact .inl h
          · exact .inr ⟨h, fun e => by rw [e] at h'; omega⟩
        · rintro (h | ⟨h, h'⟩)
          · exact .inl h
          · have q1 := h.length_le
            have q2 : p.length ≠ b.length := fun e => h' (h.eq_of_length e)
            exact .inr ⟨h, by omega⟩)
    (upD 0 b.length).length 0 [x0, some (.ptr g), some (.str (S b)), x3] μ (Nat.zero_add _) ⟨G, rfl, (set_same hg).symm, fun p => ⟨.inl, fun h => h.elim id fun h => absurd h.2 (Nat.not_lt_zero _)⟩, Nat.le_refl _⟩
  obtain ⟨r, μ', e, G', rfl, rfl, h1, h2⟩ := main.get
  exact ⟨G', e, h1, h2⟩
theorem getKeys {B : List Bits} {i : Nat} {x : D} (h : ((B.map kS).map dKey)[i]? = some x) : ∃ b, B[i]? = some b ∧ x = .str (S b) := by
  rw [List.map_map, List.getElem?_map, Option.map_eq_some_iff] at h
  obtain ⟨b, h1, rfl⟩ := h
  exact ⟨b, h1, rfl⟩
theorem free_of_ok {μ : Mu} {o : Nat} {B : List Bits} {vs : List D} (ho : μ[o]? = some (.lv false (.dK (B.map kS)) vs)) (hl : vs.length = B.length) (hc : closed μ) (hW : ∀ b ∈ B, b.length ≤ 64) (hB : B.length ≤ 500) :
    callF s_free_of [.ptr o] μ = .ok (.lst (txs (freeL B 70 []))) μ := by
  have hlt : o < μ.length := (List.getElem?_eq_some_iff.mp ho).1
  generalize hμ1 : μ ++ [begunD []] = μ1
  have ho1 : μ1[o]? = some (.lv false (.dK (B.map kS)) vs) := by
    rw [← hμ1, List.getElem?_append_left hlt]
    exact ho
  have hg1 : μ1[μ.length]? = some (begunD []) := by
    rw [← hμ1]
    simp
  generalize hμL : μ1.set o (.lv true (.dK (B.map kS)) vs) = μL
  have hoL : μL[o]? = some (.lv true (.dK (B.map kS)) vs) := by
    rw [← hμL]
    exact set_get ho1
  have hgL : μL[μ.length]? = some (begunD []) := by
    rw [← hμL, List.getElem?_set_ne (by omega)]
    exact hg1
  -- the loop
  have loop : ∃ G ρ', sFor (iKeysL (eVar 0)) (gSet 2) (sFor (iRng rng1 (aCons (eCN lenD (aCons (eVar 2) aNil)) aNil)) (gSet 3) (sAsg (gItem (eVar 1) (eSl (eVar 2) oNone (oSome (eVar 3)))) (eC (.bl true)))) [some (.ptr o), some (.ptr μ.length), none, none] μL =
      .ok (.nx, some (.ptr o) :: some (.ptr μ.length) :: ρ') (μL.set μ.length (begunD G)) ∧ (∀ p, p ∈ G ↔ begun B p = true) ∧ G.length ≤ 100000 := by
    have hi : iKeysL (eVar 0) [some (.ptr o), some (.ptr μ.length), none, none] μL = .ok (fun _ => some ((B.map kS).map dKey)) μL := iKeys_k (by simp only [R.bind_ok, bind_exc, lift_some, defM_k, kDef_nx, kDef_rt, sSeq_k, kSeq_nx, kSeq_rt, kSeq_bk, kSeq_ct, sRet_k, kRet_k, sDrop_k, kDrop_k, sIf_k, kIf_t, kIf_f, sSet_k, kSet_k, sNext_k, sBreak_k, sCont_k, sAsg_k, kAsg_k, kAsg2_k, gSet_k, gItem_k, kGi1_k, kGi2_k, kGi3_k, gsCons_k, kGs_k, gsNil_k, gTup2, gTup3, sPar_k, kPar_k, sPar3_k, kPar3_k, sFldSet_k, kFs1_k, kFs2_k, kFs3_k, sRaise_k, kRaise_k, tst_k, kTst_k, tBl_k, kTBl_k, tAnd_k, kTAnd_t, kTAnd_f, tOr_k, kTOr_t, kTOr_f, tNot_k, kTNot_k, tYes_k, eC_k, eVar_k, kVar_k, eU1_k, kU1_k, eB2_k, kB2_k, kB2'_k, eCN_k, kCN_k, aNil_k, aCons_k, kAc_k, kAc2_k, hNew_k, kNew_0, kNew_1, kNew_4, eAnd_k, kAnd_t, kAnd_f, eOr_k, kOr_t, kOr_f, eNot_k, kNot_k, eIf_k, kIfE_t, kIfE_f, eChain_k, kCh1_k, kCh2_k, kCh3_t, kCh3_f, oNone_k, oSome_k, kOs_k, eSl_k, kSl1_k, kSl2_k, kSl3_k, eCall_k, kCall_1, kCall_2, kCall_3, kCall_4, eMeth_k, kMt2_1, kMt2_2, kMt2_3, eFrz_k, eGet_k, view_int', view_str', view_bl', view_non', view_con', addD_int, subD_int, negD_int, gtD_int, ltD_int, geD_int, leD_int, eqD_int, neD_int, eqD_str, neD_str, eqD_bl, isD_non, isntD_non, intC_int, min2_int, conD_0, conD_1, conD_2, conD_3, truD_bl, truD_lst, truD_tup, tupD_lst, lenD_lst, lenD_tup, lenD_scr, ixD_lst, ixD_tup, ixD_scr, startR, List.map_cons, List.map_nil, List.length_cons, List.length_nil, List.cons_append, List.nil_append, List.replicate, List.getElem?_cons_zero, List.getElem?_cons_succ, List.set_cons_zero, List.set_cons_succ, Nat.reduceAdd, Nat.reduceSub, Nat.zero_add, Bool.not_true, Bool.not_false]) hoL
    rw [sFor_const hi]
    have main := Wr_loop (l := (B.map kS).map dKey) (g := gSet 2) (b := sFor (iRng rng1 (aCons (eCN lenD (aCons (eVar 2) aNil)) aNil)) (gSet 3) (sAsg (gItem (eVar 1) (eSl (eVar 2) oNone (oSome (eVar 3)))) (eC (.bl true))))
      (P := fun r μ' => ∃ G ρ', r = (.nx, some (.ptr o) :: some (.ptr μ.length) :: ρ') ∧ μ' = μL.set μ.length (begunD G) ∧ (∀ p, p ∈ G ↔ begun B p = true) ∧ G.length ≤ 100000)
      (fun i ρ μ' => ∃ G x2 x3, ρ = [some (.ptr o), some (.ptr μ.length), x2, x3] ∧ μ' = μL.set μ.length (begunD G) ∧ (∀ p, p ∈ G ↔ begun (B.take i) p = true) ∧ G.length ≤ i * 64)
      (fun i x ρ μ' hx h => by
        obtain ⟨G, x2, x3, rfl, rfl, h1, h2⟩ := h
        obtain ⟨b, hb, rfl⟩ := getKeys hx
        have hbi := (List.getElem?_eq_some_iff.mp hb).1
        have hbm := List.mem_of_getElem? hb
        obtain ⟨G', e, g1, g2⟩ := begun_row (x0 := some (.ptr o)) (x1 := none) (x2 := none) (x3 := x3) (set_get (ob' := begunD G) hgL) (hW b hbm) (by omega)
        rw [List.set_set] at e
        simp only [R.bind_ok, bind_exc, lift_some, defM_k, kDef_nx, kDef_rt, sSeq_k, kSeq_nx, kSeq_rt, kSeq_bk, kSeq_ct, sRet_k, kRet_k, sDrop_k, kDrop_k, sIf_k, kIf_t, kIf_f, sSet_k, kSet_k, sNext_k, sBreak_k, sCont_k, sAsg_k, kAsg_k, kAsg2_k, gSet_k, gItem_k, kGi1_k, kGi2_k, kGi3_k, gsCons_k, kGs_k, gsNil_k, gTup2, gTup3, sPar_k, kPar_k, sPar3_k, kPar3_k, sFldSet_k, kFs1_k, kFs2_k, kFs3_k, sRaise_k, kRaise_k, tst_k, kTst_k, tBl_k, kTBl_k, tAnd_k, kTAnd_t, kTAnd_f, tOr_k, kTOr_t, kTOr_f, tNot_k, kTNot_k, tYes_k, eC_k, eVar_k, kVar_k, eU1_k, kU1_k, eB2_k, kB2_k, kB2'_k, eCN_k, kCN_k, aNil_k, aCons_k, kAc_k, kAc2_k, hNew_k, kNew_0, kNew_1, kNew_4, eAnd_k, kAnd_t, kAnd_f, eOr_k, kOr_t, kOr_f, eNot_k, kNot_k, eIf_k, kIfE_t, kIfE_f, eChain_k, kCh1_k, kCh2_k, kCh3_t, kCh3_f, oNone_k, oSome_k, kOs_k, eSl_k, kSl1_k, kSl2_k, kSl3_k, eCall_k, kCall_1, kCall_2, kCall_3, kCall_4, eMeth_k, kMt2_1, kMt2_2, kMt2_3, eFrz_k, eGet_k, view_int', view_str', view_bl', view_non', view_con', addD_int, subD_int, negD_int, gtD_int, ltD_int, geD_int, leD_int, eqD_int, neD_int, eqD_str, neD_str, eqD_bl, isD_non, isntD_non, intC_int, min2_int, conD_0, conD_1, conD_2, conD_3, truD_bl, truD_lst, truD_tup, tupD_lst, lenD_lst, lenD_tup, lenD_scr, ixD_lst, ixD_tup, ixD_scr, startR, List.map_cons, List.map_nil, List.length_cons, List.length_nil, List.cons_append, List.nil_append, List.replicate, List.getElem?_cons_zero, List.getElem?_cons_succ, List.set_cons_zero, List.set_cons_succ, Nat.reduceAdd, Nat.reduceSub, Nat.zero_add, Bool.not_true, Bool.not_false, Wr_ok, e]
        refine ⟨G', _, _, rfl, rfl, fun p => ?_, by omega⟩
        rw [g1, h1, List.take_succ, hb, begun_app]
        show _ ∨ _ ↔ _ ∨ begun [b] p = true
        rw [begun_one])
      (fun ρ μ' h => by
        obtain ⟨G, x2, x3, rfl, rfl, h1, h2⟩ := h
        refine ⟨G, _, rfl, rfl, fun p => ?_, ?_⟩
        · rw [h1, List.length_map, List.length_map, List.take_length]
        · rw [List.length_map, List.length_map] at h2
          omega)
      ((B.map kS).map dKey).length 0 [some (.ptr o), some (.ptr μ.length), none, none] μL (Nat.zero_add _) ⟨[], none, none, rfl, (set_same hgL).symm, fun p => by simp [begun], Nat.zero_le _⟩
    obtain ⟨r, μ', e, G, ρ', rfl, rfl, h1, h2⟩ := main.get
    exact ⟨G, ρ', e, h1, h2⟩
  obtain ⟨G, ρ', e, hG, hGl⟩ := loop
  have hoE : (μL.set μ.length (begunD G))[o]? = some (.lv true (.dK (B.map kS)) vs) := by
    rw [List.getElem?_set_ne (by omega)]
    exact hoL
  have fin : (μL.set μ.length (begunD G)).set o (.lv false (.dK (B.map kS)) vs) = μ ++ [begunD G] := by
    rw [← hμL, ← hμ1]
    apply List.ext_getElem?
    intro i
    by_cases e1 : o = i
    · subst e1
      rw [List.getElem?_set_self (by simp; omega), List.getElem?_append_left hlt, ho]
    · rw [List.getElem?_set_ne e1]
      by_cases e2 : μ.length = i
      · subst e2
        rw [List.getElem?_set_self (by simp)]
        simp
      · rw [List.getElem?_set_ne e2, List.getElem?_set_ne e1]
        by_cases e3 : i < μ.length
        · rw [List.getElem?_append_left e3, List.getElem?_append_left e3]
        · rw [List.getElem?_eq_none (by simp; omega), List.getElem?_eq_none (by simp; omega)]
  have fb : callF (s_free_below 70) [.ptr o, .ptr μ.length, .str (S [])] (μ ++ [begunD G]) = .ok (.lst (txs (freeL B 70 []))) (μ ++ [begunD G]) :=
    freeBelow_ok (o := o) (g := μ.length) (lk1 := false) (lk2 := false) (G := G) (ws := List.replicate G.length (.bl true)) (by rw [List.getElem?_append_left hlt]; exact ho) hl (by simp [begunD]) (by simp) hG hW (Nat.le_refl _) hB 70 [] (Nat.le_refl _) (by decide) (by decide) (by decide)
  refine call_drop (t := [begunD G]) ?_ rfl (noPtrs_txs _ _) hc
  have hk : lockM (vSel 0) (sFor (iKeysL (eVar 0)) (gSet 2) (sFor (iRng rng1 (aCons (eCN lenD (aCons (eVar 2) aNil)) aNil)) (gSet 3) (sAsg (gItem (eVar 1) (eSl (eVar 2) oNone (oSome (eVar 3)))) (eC (.bl true))))) [some (.ptr o), some (.ptr μ.length), none, none] μ1 =
      .ok (.nx, some (.ptr o) :: some (.ptr μ.length) :: ρ') (μ ++ [begunD G]) := by
    rw [lock_k (k := o) (by rfl) ho1, hμL, e]
    show unlk o _ _ = _
    rw [unlk_k hoE, fin]
  have e0 : μ ++ [Ob.lv false (.dK []) []] = μ1 := hμ1
  unfold s_free_of
  simp only [R.bind_ok, bind_exc, lift_some, defM_k, kDef_nx, kDef_rt, sSeq_k, kSeq_nx, kSeq_rt, kSeq_bk, kSeq_ct, sRet_k, kRet_k, sDrop_k, kDrop_k, sIf_k, kIf_t, kIf_f, sSet_k, kSet_k, sNext_k, sBreak_k, sCont_k, sAsg_k, kAsg_k, kAsg2_k, gSet_k, gItem_k, kGi1_k, kGi2_k, kGi3_k, gsCons_k, kGs_k, gsNil_k, gTup2, gTup3, sPar_k, kPar_k, sPar3_k, kPar3_k, sFldSet_k, kFs1_k, kFs2_k, kFs3_k, sRaise_k, kRaise_k, tst_k, kTst_k, tBl_k, kTBl_k, tAnd_k, kTAnd_t, kTAnd_f, tOr_k, kTOr_t, kTOr_f, tNot_k, kTNot_k, tYes_k, eC_k, eVar_k, kVar_k, eU1_k, kU1_k, eB2_k, kB2_k, kB2'_k, eCN_k, kCN_k, aNil_k, aCons_k, kAc_k, kAc2_k, hNew_k, kNew_0, kNew_1, kNew_4, eAnd_k, kAnd_t, kAnd_f, eOr_k, kOr_t, kOr_f, eNot_k, kNot_k, eIf_k, kIfE_t, kIfE_f, eChain_k, kCh1_k, kCh2_k, kCh3_t, kCh3_f, oNone_k, oSome_k, kOs_k, eSl_k, kSl1_k, kSl2_k, kSl3_k, eCall_k, kCall_1, kCall_2, kCall_3, kCall_4, eMeth_k, kMt2_1, kMt2_2, kMt2_3, eFrz_k, eGet_k, view_int', view_str', view_bl', view_non', view_con', addD_int, subD_int, negD_int, gtD_int, ltD_int, geD_int, leD_int, eqD_int, neD_int, eqD_str, neD_str, eqD_bl, isD_non, isntD_non, intC_int, min2_int, conD_0, conD_1, conD_2, conD_3, truD_bl, truD_lst, truD_tup, tupD_lst, lenD_lst, lenD_tup, lenD_scr, ixD_lst, ixD_tup, ixD_scr, startR, List.map_cons, List.map_nil, List.length_cons, List.length_nil, List.cons_append, List.nil_append, List.replicate, List.getElem?_cons_zero, List.getElem?_cons_succ, List.set_cons_zero, List.set_cons_succ, Nat.reduceAdd, Nat.reduceSub, Nat.zero_add, Bool.not_true, Bool.not_false, e0, hk, S_nil, fb]
end
end K18

namespace K18
open PySem PySem.Spec L2 MP
noncomputable section
section
variable {μ : Mu}
theorem isi_int (i : Int) : isiD ["Pool"] (.b "int") μ (.int i) = some (.bl true) := by rfl
theorem isi_intb (i : Int) : isiD ["Pool"] (.b "bool") μ (.int i) = some (.bl false) := by rfl
theorem isi_str (s : Str) : isiD ["Pool"] (.b "str") μ (.str s) = some (.bl true) := by rfl
theorem integer_ok (i : Int) : callF s_is_integer [.int i] μ = .ok (.bl true) μ := by
  refine call_ok ?_ rfl
  unfold s_is_integer
  simp only [R.bind_ok, bind_exc, lift_some, defM_k, kDef_nx, kDef_rt, sSeq_k, kSeq_nx, kSeq_rt, kSeq_bk, kSeq_ct, sRet_k, kRet_k, sDrop_k, kDrop_k, sIf_k, kIf_t, kIf_f, sSet_k, kSet_k, sNext_k, sBreak_k, sCont_k, sAsg_k, kAsg_k, kAsg2_k, gSet_k, gItem_k, kGi1_k, kGi2_k, kGi3_k, gsCons_k, kGs_k, gsNil_k, gTup2, gTup3, sPar_k, kPar_k, sPar3_k, kPar3_k, sFldSet_k, kFs1_k, kFs2_k, kFs3_k, sRaise_k, kRaise_k, tst_k, kTst_k, tBl_k, kTBl_k, tAnd_k, kTAnd_t, kTAnd_f, tOr_k, kTOr_t, kTOr_f, tNot_k, kTNot_k, tYes_k, eC_k, eVar_k, kVar_k, eU1_k, kU1_k, eB2_k, kB2_k, kB2'_k, eCN_k, kCN_k, aNil_k, aCons_k, kAc_k, kAc2_k, hNew_k, kNew_0, kNew_1, kNew_4, eAnd_k, kAnd_t, kAnd_f, eOr_k, kOr_t, kOr_f, eNot_k, kNot_k, eIf_k, kIfE_t, kIfE_f, eChain_k, kCh1_k, kCh2_k, kCh3_t, kCh3_f, oNone_k, oSome_k, kOs_k, eSl_k, kSl1_k, kSl2_k, kSl3_k, eCall_k, kCall_1, kCall_2, kCall_3, kCall_4, eMeth_k, kMt2_1, kMt2_2, kMt2_3, eFrz_k, eGet_k, view_int', view_str', view_bl', view_non', view_con', addD_int, subD_int, negD_int, gtD_int, ltD_int, geD_int, leD_int, eqD_int, neD_int, eqD_str, neD_str, eqD_bl, isD_non, isntD_non, intC_int, min2_int, conD_0, conD_1, conD_2, conD_3, truD_bl, truD_lst, truD_tup, tupD_lst, lenD_lst, lenD_tup, lenD_scr, ixD_lst, ixD_tup, ixD_scr, startR, List.map_cons, List.map_nil, List.length_cons, List.length_nil, List.cons_append, List.nil_append, List.replicate, List.getElem?_cons_zero, List.getElem?_cons_succ, List.set_cons_zero, List.set_cons_succ, Nat.reduceAdd, Nat.reduceSub, Nat.zero_add, Bool.not_true, Bool.not_false, isi_int, isi_intb, Bool.not_false]
theorem within_ok (i a b : Int) : callF s_is_within [.int i, .int a, .int b] μ = .ok (.bl (decide (a ≤ i ∧ i ≤ b))) μ := by
  refine call_ok ?_ rfl
  unfold s_is_within
  by_cases h1 : a ≤ i
  · by_cases h2 : i ≤ b
    · simp only [R.bind_ok, bind_exc, lift_some, defM_k, kDef_nx, kDef_rt, sSeq_k, kSeq_nx, kSeq_rt, kSeq_bk, kSeq_ct, sRet_k, kRet_k, sDrop_k, kDrop_k, sIf_k, kIf_t, kIf_f, sSet_k, kSet_k, sNext_k, sBreak_k, sCont_k, sAsg_k, kAsg_k, kAsg2_k, gSet_k, gItem_k, kGi1_k, kGi2_k, kGi3_k, gsCons_k, kGs_k, gsNil_k, gTup2, gTup3, sPar_k, kPar_k, sPar3_k, kPar3_k, sFldSet_k, kFs1_k, kFs2_k, kFs3_k, sRaise_k, kRaise_k, tst_k, kTst_k, tBl_k, kTBl_k, tAnd_k, kTAnd_t, kTAnd_f, tOr_k, kTOr_t, kTOr_f, tNot_k, kTNot_k, tYes_k, eC_k, eVar_k, kVar_k, eU1_k, kU1_k, eB2_k, kB2_k, kB2'_k, eCN_k, kCN_k, aNil_k, aCons_k, kAc_k, kAc2_k, hNew_k, kNew_0, kNew_1, kNew_4, eAnd_k, kAnd_t, kAnd_f, eOr_k, kOr_t, kOr_f, eNot_k, kNot_k, eIf_k, kIfE_t, kIfE_f, eChain_k, kCh1_k, kCh2_k, kCh3_t, kCh3_f, oNone_k, oSome_k, kOs_k, eSl_k, kSl1_k, kSl2_k, kSl3_k, eCall_k, kCall_1, kCall_2, kCall_3, kCall_4, eMeth_k, kMt2_1, kMt2_2, kMt2_3, eFrz_k, eGet_k, view_int', view_str', view_bl', view_non', view_con', addD_int, subD_int, negD_int, gtD_int, ltD_int, geD_int, leD_int, eqD_int, neD_int, eqD_str, neD_str, eqD_bl, isD_non, isntD_non, intC_int, min2_int, conD_0, conD_1, conD_2, conD_3, truD_bl, truD_lst, truD_tup, tupD_lst, lenD_lst, lenD_tup, lenD_scr, ixD_lst, ixD_tup, ixD_scr, startR, List.map_cons, List.map_nil, List.length_cons, List.length_nil, List.cons_append, List.nil_append, List.replicate, List.getElem?_cons_zero, List.getElem?_cons_succ, List.set_cons_zero, List.set_cons_succ, Nat.reduceAdd, Nat.reduceSub, Nat.zero_add, Bool.not_true, Bool.not_false, integer_ok, h1, h2, decide_true, and_self]
    · simp only [R.bind_ok, bind_exc, lift_some, defM_k, kDef_nx, kDef_rt, sSeq_k, kSeq_nx, kSeq_rt, kSeq_bk, kSeq_ct, sRet_k, kRet_k, sDrop_k, kDrop_k, sIf_k, kIf_t, kIf_f, sSet_k, kSet_k, sNext_k, sBreak_k, sCont_k, sAsg_k, kAsg_k, kAsg2_k, gSet_k, gItem_k, kGi1_k, kGi2_k, kGi3_k, gsCons_k, kGs_k, gsNil_k, gTup2, gTup3, sPar_k, kPar_k, sPar3_k, kPar3_k, sFldSet_k, kFs1_k, kFs2_k, kFs3_k, sRaise_k, kRaise_k, tst_k, kTst_k, tBl_k, kTBl_k, tAnd_k, kTAnd_t, kTAnd_f, tOr_k, kTOr_t, kTOr_f, tNot_k, kTNot_k, tYes_k, eC_k, eVar_k, kVar_k, eU1_k, kU1_k, eB2_k, kB2_k, kB2'_k, eCN_k, kCN_k, aNil_k, aCons_k, kAc_k, kAc2_k, hNew_k, kNew_0, kNew_1, kNew_4, eAnd_k, kAnd_t, kAnd_f, eOr_k, kOr_t, kOr_f, eNot_k, kNot_k, eIf_k, kIfE_t, kIfE_f, eChain_k, kCh1_k, kCh2_k, kCh3_t, kCh3_f, oNone_k, oSome_k, kOs_k, eSl_k, kSl1_k, kSl2_k, kSl3_k, eCall_k, kCall_1, kCall_2, kCall_3, kCall_4, eMeth_k, kMt2_1, kMt2_2, kMt2_3, eFrz_k, eGet_k, view_int', view_str', view_bl', view_non', view_con', addD_int, subD_int, negD_int, gtD_int, ltD_int, geD_int, leD_int, eqD_int, neD_int, eqD_str, neD_str, eqD_bl, isD_non, isntD_non, intC_int, min2_int, conD_0, conD_1, conD_2, conD_3, truD_bl, truD_lst, truD_tup, tupD_lst, lenD_lst, lenD_tup, lenD_scr, ixD_lst, ixD_tup, ixD_scr, startR, List.map_cons, List.map_nil, List.length_cons, List.length_nil, List.cons_append, List.nil_append, List.replicate, List.getElem?_cons_zero, List.getElem?_cons_succ, List.set_cons_zero, List.set_cons_succ, Nat.reduceAdd, Nat.reduceSub, Nat.zero_add, Bool.not_true, Bool.not_false, integer_ok, h1, h2, decide_true, decide_false, and_false]
  · simp only [R.bind_ok, bind_exc, lift_some, defM_k, kDef_nx, kDef_rt, sSeq_k, kSeq_nx, kSeq_rt, kSeq_bk, kSeq_ct, sRet_k, kRet_k, sDrop_k, kDrop_k, sIf_k, kIf_t, kIf_f, sSet_k, kSet_k, sNext_k, sBreak_k, sCont_k, sAsg_k, kAsg_k, kAsg2_k, gSet_k, gItem_k, kGi1_k, kGi2_k, kGi3_k, gsCons_k, kGs_k, gsNil_k, gTup2, gTup3, sPar_k, kPar_k, sPar3_k, kPar3_k, sFldSet_k, kFs1_k, kFs2_k, kFs3_k, sRaise_k, kRaise_k, tst_k, kTst_k, tBl_k, kTBl_k, tAnd_k, kTAnd_t, kTAnd_f, tOr_k, kTOr_t, kTOr_f, tNot_k, kTNot_k, tYes_k, eC_k, eVar_k, kVar_k, eU1_k, kU1_k, eB2_k, kB2_k, kB2'_k, eCN_k, kCN_k, aNil_k, aCons_k, kAc_k, kAc2_k, hNew_k, kNew_0, kNew_1, kNew_4, eAnd_k, kAnd_t, kAnd_f, eOr_k, kOr_t, kOr_f, eNot_k, kNot_k, eIf_k, kIfE_t, kIfE_f, eChain_k, kCh1_k, kCh2_k, kCh3_t, kCh3_f, oNone_k, oSome_k, kOs_k, eSl_k, kSl1_k, kSl2_k, kSl3_k, eCall_k, kCall_1, kCall_2, kCall_3, kCall_4, eMeth_k, kMt2_1, kMt2_2, kMt2_3, eFrz_k, eGet_k, view_int', view_str', view_bl', view_non', view_con', addD_int, subD_int, negD_int, gtD_int, ltD_int, geD_int, leD_int, eqD_int, neD_int, eqD_str, neD_str, eqD_bl, isD_non, isntD_non, intC_int, min2_int, conD_0, conD_1, conD_2, conD_3, truD_bl, truD_lst, truD_tup, tupD_lst, lenD_lst, lenD_tup, lenD_scr, ixD_lst, ixD_tup, ixD_scr, startR, List.map_cons, List.map_nil, List.length_cons, List.length_nil, List.cons_append, List.nil_append, List.replicate, List.getElem?_cons_zero, List.getElem?_cons_succ, List.set_cons_zero, List.set_cons_succ, Nat.reduceAdd, Nat.reduceSub, Nat.zero_add, Bool.not_true, Bool.not_false, integer_ok, h1, decide_false, false_and]
theorem width_ok (i : Int) (h : 1 ≤ i ∧ i ≤ 64) : callF s_need_width [.int i] μ = .ok .non μ := by
  refine call_ok ?_ rfl
  unfold s_need_width
  simp only [R.bind_ok, bind_exc, lift_some, defM_k, kDef_nx, kDef_rt, sSeq_k, kSeq_nx, kSeq_rt, kSeq_bk, kSeq_ct, sRet_k, kRet_k, sDrop_k, kDrop_k, sIf_k, kIf_t, kIf_f, sSet_k, kSet_k, sNext_k, sBreak_k, sCont_k, sAsg_k, kAsg_k, kAsg2_k, gSet_k, gItem_k, kGi1_k, kGi2_k, kGi3_k, gsCons_k, kGs_k, gsNil_k, gTup2, gTup3, sPar_k, kPar_k, sPar3_k, kPar3_k, sFldSet_k, kFs1_k, kFs2_k, kFs3_k, sRaise_k, kRaise_k, tst_k, kTst_k, tBl_k, kTBl_k, tAnd_k, kTAnd_t, kTAnd_f, tOr_k, kTOr_t, kTOr_f, tNot_k, kTNot_k, tYes_k, eC_k, eVar_k, kVar_k, eU1_k, kU1_k, eB2_k, kB2_k, kB2'_k, eCN_k, kCN_k, aNil_k, aCons_k, kAc_k, kAc2_k, hNew_k, kNew_0, kNew_1, kNew_4, eAnd_k, kAnd_t, kAnd_f, eOr_k, kOr_t, kOr_f, eNot_k, kNot_k, eIf_k, kIfE_t, kIfE_f, eChain_k, kCh1_k, kCh2_k, kCh3_t, kCh3_f, oNone_k, oSome_k, kOs_k, eSl_k, kSl1_k, kSl2_k, kSl3_k, eCall_k, kCall_1, kCall_2, kCall_3, kCall_4, eMeth_k, kMt2_1, kMt2_2, kMt2_3, eFrz_k, eGet_k, view_int', view_str', view_bl', view_non', view_con', addD_int, subD_int, negD_int, gtD_int, ltD_int, geD_int, leD_int, eqD_int, neD_int, eqD_str, neD_str, eqD_bl, isD_non, isntD_non, intC_int, min2_int, conD_0, conD_1, conD_2, conD_3, truD_bl, truD_lst, truD_tup, tupD_lst, lenD_lst, lenD_tup, lenD_scr, ixD_lst, ixD_tup, ixD_scr, startR, List.map_cons, List.map_nil, List.length_cons, List.length_nil, List.cons_append, List.nil_append, List.replicate, List.getElem?_cons_zero, List.getElem?_cons_succ, List.set_cons_zero, List.set_cons_succ, Nat.reduceAdd, Nat.reduceSub, Nat.zero_add, Bool.not_true, Bool.not_false, within_ok, h, and_self, decide_true]
theorem owner_ok (i : Int) (h : 0 ≤ i ∧ i ≤ 999) : callF s_need_owner [.int i] μ = .ok .non μ := by
  refine call_ok ?_ rfl
  unfold s_need_owner
  simp only [R.bind_ok, bind_exc, lift_some, defM_k, kDef_nx, kDef_rt, sSeq_k, kSeq_nx, kSeq_rt, kSeq_bk, kSeq_ct, sRet_k, kRet_k, sDrop_k, kDrop_k, sIf_k, kIf_t, kIf_f, sSet_k, kSet_k, sNext_k, sBreak_k, sCont_k, sAsg_k, kAsg_k, kAsg2_k, gSet_k, gItem_k, kGi1_k, kGi2_k, kGi3_k, gsCons_k, kGs_k, gsNil_k, gTup2, gTup3, sPar_k, kPar_k, sPar3_k, kPar3_k, sFldSet_k, kFs1_k, kFs2_k, kFs3_k, sRaise_k, kRaise_k, tst_k, kTst_k, tBl_k, kTBl_k, tAnd_k, kTAnd_t, kTAnd_f, tOr_k, kTOr_t, kTOr_f, tNot_k, kTNot_k, tYes_k, eC_k, eVar_k, kVar_k, eU1_k, kU1_k, eB2_k, kB2_k, kB2'_k, eCN_k, kCN_k, aNil_k, aCons_k, kAc_k, kAc2_k, hNew_k, kNew_0, kNew_1, kNew_4, eAnd_k, kAnd_t, kAnd_f, eOr_k, kOr_t, kOr_f, eNot_k, kNot_k, eIf_k, kIfE_t, kIfE_f, eChain_k, kCh1_k, kCh2_k, kCh3_t, kCh3_f, oNone_k, oSome_k, kOs_k, eSl_k, kSl1_k, kSl2_k, kSl3_k, eCall_k, kCall_1, kCall_2, kCall_3, kCall_4, eMeth_k, kMt2_1, kMt2_2, kMt2_3, eFrz_k, eGet_k, view_int', view_str', view_bl', view_non', view_con', addD_int, subD_int, negD_int, gtD_int, ltD_int, geD_int, leD_int, eqD_int, neD_int, eqD_str, neD_str, eqD_bl, isD_non, isntD_non, intC_int, min2_int, conD_0, conD_1, conD_2, conD_3, truD_bl, truD_lst, truD_tup, tupD_lst, lenD_lst, lenD_tup, lenD_scr, ixD_lst, ixD_tup, ixD_scr, startR, List.map_cons, List.map_nil, List.length_cons, List.length_nil, List.cons_append, List.nil_append, List.replicate, List.getElem?_cons_zero, List.getElem?_cons_succ, List.set_cons_zero, List.set_cons_succ, Nat.reduceAdd, Nat.reduceSub, Nat.zero_add, Bool.not_true, Bool.not_false, within_ok, h, and_self, decide_true]
end
/-- a pool of the width w at p, its dict at o -/
structure PoolAt (μ : Mu) (p o w : Nat) (B : List Bits) (vs : List D) : Prop where
  hp : μ[p]? = some (.lv false (.ins "Pool" ["width", "owners"]) [.int (w : Int), .ptr o])
  ho : μ[o]? = some (.lv false (.dK (B.map kS)) vs)
  hl : vs.length = B.length
  hw : w ≤ 64
  hW : ∀ b ∈ B, b.length ≤ w
  hB : B.length ≤ 400
  hc : closed μ
section
variable {μ : Mu} {p o w : Nat} {B : List Bits} {vs : List D}
theorem PoolAt.width (h : PoolAt μ p o w B vs) : fldD "width" ["Pool"] μ (.ptr p) = some (.int (w : Int)) := (fldD_ptr (view_ptr h.hp) (by decide)).trans (by rfl)
theorem PoolAt.owners (h : PoolAt μ p o w B vs) : fldD "owners" ["Pool"] μ (.ptr p) = some (.ptr o) := (fldD_ptr (view_ptr h.hp) (by decide)).trans (by rfl)
theorem PoolAt.meth (h : PoolAt μ p o w B vs) {mn : Str} {f : MF} {n : Nat} {a : MA} {ρ : Rho} (hm : mn ∉ (["width", "owners"] : List Str)) : kMt "Pool" mn f n a ρ (.ptr p) μ = (a ρ μ).bind (kMt2 f n (.ptr p)) := kMt_k (view_ptr h.hp) hm
theorem PoolAt.free (h : PoolAt μ p o w B vs) : callF s_free_of [.ptr o] μ = .ok (.lst (txs (freeL B 70 []))) μ := free_of_ok h.ho h.hl h.hc (fun b hb => Nat.le_trans (h.hW b hb) h.hw) (by have := h.hB; omega)
theorem PoolAt.mem (h : PoolAt μ p o w B vs) (x : Bits) : x ∈ freeL B 70 [] ↔ Fr0 B x := free_mem (fun b hb => Nat.le_trans (h.hW b hb) h.hw) 70 [] (by decide) (by decide) x
theorem PoolAt.le (h : PoolAt μ p o w B vs) {x : Bits} (hx : Fr0 B x) : x.length ≤ w := free_le h.hW hx
theorem PoolAt.many (h : PoolAt μ p o w B vs) : (freeL B 70 []).length ≤ 40000 := by
  have h1 := free_many (B := B) 70 []
  have h2 : (B.filter fun b => ([] : Bits).isPrefixOf b).length ≤ B.length := List.length_filter_le _ _
  have h3 := h.hB
  omega
theorem length_ok (h : PoolAt μ p o w B vs) (i : Int) (hi : 0 ≤ i ∧ i ≤ w) : callF s_Pool_need_length [.ptr p, .int i] μ = .ok .non μ := by
  refine call_ok ?_ rfl
  unfold s_Pool_need_length
  simp only [R.bind_ok, bind_exc, lift_some, defM_k, kDef_nx, kDef_rt, sSeq_k, kSeq_nx, kSeq_rt, kSeq_bk, kSeq_ct, sRet_k, kRet_k, sDrop_k, kDrop_k, sIf_k, kIf_t, kIf_f, sSet_k, kSet_k, sNext_k, sBreak_k, sCont_k, sAsg_k, kAsg_k, kAsg2_k, gSet_k, gItem_k, kGi1_k, kGi2_k, kGi3_k, gsCons_k, kGs_k, gsNil_k, gTup2, gTup3, sPar_k, kPar_k, sPar3_k, kPar3_k, sFldSet_k, kFs1_k, kFs2_k, kFs3_k, sRaise_k, kRaise_k, tst_k, kTst_k, tBl_k, kTBl_k, tAnd_k, kTAnd_t, kTAnd_f, tOr_k, kTOr_t, kTOr_f, tNot_k, kTNot_k, tYes_k, eC_k, eVar_k, kVar_k, eU1_k, kU1_k, eB2_k, kB2_k, kB2'_k, eCN_k, kCN_k, aNil_k, aCons_k, kAc_k, kAc2_k, hNew_k, kNew_0, kNew_1, kNew_4, eAnd_k, kAnd_t, kAnd_f, eOr_k, kOr_t, kOr_f, eNot_k, kNot_k, eIf_k, kIfE_t, kIfE_f, eChain_k, kCh1_k, kCh2_k, kCh3_t, kCh3_f, oNone_k, oSome_k, kOs_k, eSl_k, kSl1_k, kSl2_k, kSl3_k, eCall_k, kCall_1, kCall_2, kCall_3, kCall_4, eMeth_k, kMt2_1, kMt2_2, kMt2_3, eFrz_k, eGet_k, view_int', view_str', view_bl', view_non', view_con', addD_int, subD_int, negD_int, gtD_int, ltD_int, geD_int, leD_int, eqD_int, neD_int, eqD_str, neD_str, eqD_bl, isD_non, isntD_non, intC_int, min2_int, conD_0, conD_1, conD_2, conD_3, truD_bl, truD_lst, truD_tup, tupD_lst, lenD_lst, lenD_tup, lenD_scr, ixD_lst, ixD_tup, ixD_scr, startR, List.map_cons, List.map_nil, List.length_cons, List.length_nil, List.cons_append, List.nil_append, List.replicate, List.getElem?_cons_zero, List.getElem?_cons_succ, List.set_cons_zero, List.set_cons_succ, Nat.reduceAdd, Nat.reduceSub, Nat.zero_add, Bool.not_true, Bool.not_false, h.width, within_ok, hi, and_self, decide_true]
/-- those that fit -/
theorem some_ok (h : PoolAt μ p o w B vs) {L : Nat} {x2 x3 x4 x5 : Option D} : eLc [4] (iSeq (eCall s_free_of 1 (aCons (eU1 (fldD "owners" ["Pool"]) (eVar 0)) aNil))) (gSet 4) (tBl (eB2 leD (eCN lenD (aCons (eVar 4) aNil)) (eVar 1))) (eCN (conD .tup) (aCons (eU1 negD (eCN lenD (aCons (eVar 4) aNil))) (aCons (eVar 4) aNil)))
    [some (.ptr p), some (.int (L : Int)), x2, x3, x4, x5] μ = .ok (.lst (((freeL B 70 []).filter fun x => decide (x.length ≤ L)).map fun x => pairD (-(x.length : Int)) x)) μ := by
  have hi : iSeq (eCall s_free_of 1 (aCons (eU1 (fldD "owners" ["Pool"]) (eVar 0)) aNil)) [some (.ptr p), some (.int (L : Int)), x2, x3, x4, x5] μ = .ok (fun _ => some (txs (freeL B 70 []))) μ :=
    iSeq_l (by simp only [R.bind_ok, bind_exc, lift_some, defM_k, kDef_nx, kDef_rt, sSeq_k, kSeq_nx, kSeq_rt, kSeq_bk, kSeq_ct, sRet_k, kRet_k, sDrop_k, kDrop_k, sIf_k, kIf_t, kIf_f, sSet_k, kSet_k, sNext_k, sBreak_k, sCont_k, sAsg_k, kAsg_k, kAsg2_k, gSet_k, gItem_k, kGi1_k, kGi2_k, kGi3_k, gsCons_k, kGs_k, gsNil_k, gTup2, gTup3, sPar_k, kPar_k, sPar3_k, kPar3_k, sFldSet_k, kFs1_k, kFs2_k, kFs3_k, sRaise_k, kRaise_k, tst_k, kTst_k, tBl_k, kTBl_k, tAnd_k, kTAnd_t, kTAnd_f, tOr_k, kTOr_t, kTOr_f, tNot_k, kTNot_k, tYes_k, eC_k, eVar_k, kVar_k, eU1_k, kU1_k, eB2_k, kB2_k, kB2'_k, eCN_k, kCN_k, aNil_k, aCons_k, kAc_k, kAc2_k, hNew_k, kNew_0, kNew_1, kNew_4, eAnd_k, kAnd_t, kAnd_f, eOr_k, kOr_t, kOr_f, eNot_k, kNot_k, eIf_k, kIfE_t, kIfE_f, eChain_k, kCh1_k, kCh2_k, kCh3_t, kCh3_f, oNone_k, oSome_k, kOs_k, eSl_k, kSl1_k, kSl2_k, kSl3_k, eCall_k, kCall_1, kCall_2, kCall_3, kCall_4, eMeth_k, kMt2_1, kMt2_2, kMt2_3, eFrz_k, eGet_k, view_int', view_str', view_bl', view_non', view_con', addD_int, subD_int, negD_int, gtD_int, ltD_int, geD_int, leD_int, eqD_int, neD_int, eqD_str, neD_str, eqD_bl, isD_non, isntD_non, intC_int, min2_int, conD_0, conD_1, conD_2, conD_3, truD_bl, truD_lst, truD_tup, tupD_lst, lenD_lst, lenD_tup, lenD_scr, ixD_lst, ixD_tup, ixD_scr, startR, List.map_cons, List.map_nil, List.length_cons, List.length_nil, List.cons_append, List.nil_append, List.replicate, List.getElem?_cons_zero, List.getElem?_cons_succ, List.set_cons_zero, List.set_cons_succ, Nat.reduceAdd, Nat.reduceSub, Nat.zero_add, Bool.not_true, Bool.not_false, h.owners, h.free])
  have hm := h.many
  rw [lcRun_pure (l := txs (freeL B 70 [])) (fun d => match d with | .str s => decide (s.length ≤ L) | _ => false) (fun d => match d with | .str s => .tup [.int (-(s.length : Int)), .str s] | _ => .non) hi (by rw [List.length_map, sizeLine_eq]; omega) fun x hx => ?_]
  · congr 2
    unfold txs
    rw [List.filter_map, List.map_map]
    congr 1
    · funext x
      simp [pairD, S_len]
    · apply List.filter_congr
      intro x _
      simp [S_len]
  · obtain ⟨b, hb, rfl⟩ := List.mem_map.mp hx
    have hbl := h.le ((h.mem b).mp hb)
    have hw := h.hw
    refine ⟨[some (.ptr p), some (.int (L : Int)), x2, x3, some (.str (S b)), x5], by simp only [R.bind_ok, bind_exc, lift_some, defM_k, kDef_nx, kDef_rt, sSeq_k, kSeq_nx, kSeq_rt, kSeq_bk, kSeq_ct, sRet_k, kRet_k, sDrop_k, kDrop_k, sIf_k, kIf_t, kIf_f, sSet_k, kSet_k, sNext_k, sBreak_k, sCont_k, sAsg_k, kAsg_k, kAsg2_k, gSet_k, gItem_k, kGi1_k, kGi2_k, kGi3_k, gsCons_k, kGs_k, gsNil_k, gTup2, gTup3, sPar_k, kPar_k, sPar3_k, kPar3_k, sFldSet_k, kFs1_k, kFs2_k, kFs3_k, sRaise_k, kRaise_k, tst_k, kTst_k, tBl_k, kTBl_k, tAnd_k, kTAnd_t, kTAnd_f, tOr_k, kTOr_t, kTOr_f, tNot_k, kTNot_k, tYes_k, eC_k, eVar_k, kVar_k, eU1_k, kU1_k, eB2_k, kB2_k, kB2'_k, eCN_k, kCN_k, aNil_k, aCons_k, kAc_k, kAc2_k, hNew_k, kNew_0, kNew_1, kNew_4, eAnd_k, kAnd_t, kAnd_f, eOr_k, kOr_t, kOr_f, eNot_k, kNot_k, eIf_k, kIfE_t, kIfE_f, eChain_k, kCh1_k, kCh2_k, kCh3_t, kCh3_f, oNone_k, oSome_k, kOs_k, eSl_k, kSl1_k, kSl2_k, kSl3_k, eCall_k, kCall_1, kCall_2, kCall_3, kCall_4, eMeth_k, kMt2_1, kMt2_2, kMt2_3, eFrz_k, eGet_k, view_int', view_str', view_bl', view_non', view_con', addD_int, subD_int, negD_int, gtD_int, ltD_int, geD_int, leD_int, eqD_int, neD_int, eqD_str, neD_str, eqD_bl, isD_non, isntD_non, intC_int, min2_int, conD_0, conD_1, conD_2, conD_3, truD_bl, truD_lst, truD_tup, tupD_lst, lenD_lst, lenD_tup, lenD_scr, ixD_lst, ixD_tup, ixD_scr, startR, List.map_cons, List.map_nil, List.length_cons, List.length_nil, List.cons_append, List.nil_append, List.replicate, List.getElem?_cons_zero, List.getElem?_cons_succ, List.set_cons_zero, List.set_cons_succ, Nat.reduceAdd, Nat.reduceSub, Nat.zero_add, Bool.not_true, Bool.not_false, wipeR], ?_, fun _ => ?_⟩
    · simp only [R.bind_ok, bind_exc, lift_some, defM_k, kDef_nx, kDef_rt, sSeq_k, kSeq_nx, kSeq_rt, kSeq_bk, kSeq_ct, sRet_k, kRet_k, sDrop_k, kDrop_k, sIf_k, kIf_t, kIf_f, sSet_k, kSet_k, sNext_k, sBreak_k, sCont_k, sAsg_k, kAsg_k, kAsg2_k, gSet_k, gItem_k, kGi1_k, kGi2_k, kGi3_k, gsCons_k, kGs_k, gsNil_k, gTup2, gTup3, sPar_k, kPar_k, sPar3_k, kPar3_k, sFldSet_k, kFs1_k, kFs2_k, kFs3_k, sRaise_k, kRaise_k, tst_k, kTst_k, tBl_k, kTBl_k, tAnd_k, kTAnd_t, kTAnd_f, tOr_k, kTOr_t, kTOr_f, tNot_k, kTNot_k, tYes_k, eC_k, eVar_k, kVar_k, eU1_k, kU1_k, eB2_k, kB2_k, kB2'_k, eCN_k, kCN_k, aNil_k, aCons_k, kAc_k, kAc2_k, hNew_k, kNew_0, kNew_1, kNew_4, eAnd_k, kAnd_t, kAnd_f, eOr_k, kOr_t, kOr_f, eNot_k, kNot_k, eIf_k, kIfE_t, kIfE_f, eChain_k, kCh1_k, kCh2_k, kCh3_t, kCh3_f, oNone_k, oSome_k, kOs_k, eSl_k, kSl1_k, kSl2_k, kSl3_k, eCall_k, kCall_1, kCall_2, kCall_3, kCall_4, eMeth_k, kMt2_1, kMt2_2, kMt2_3, eFrz_k, eGet_k, view_int', view_str', view_bl', view_non', view_con', addD_int, subD_int, negD_int, gtD_int, ltD_int, geD_int, leD_int, eqD_int, neD_int, eqD_str, neD_str, eqD_bl, isD_non, isntD_non, intC_int, min2_int, conD_0, conD_1, conD_2, conD_3, truD_bl, truD_lst, truD_tup, tupD_lst, lenD_lst, lenD_tup, lenD_scr, ixD_lst, ixD_tup, ixD_scr, startR, List.map_cons, List.map_nil, List.length_cons, List.length_nil, List.cons_append, List.nil_append, List.replicate, List.getElem?_cons_zero, List.getElem?_cons_succ, List.set_cons_zero, List.set_cons_succ, Nat.reduceAdd, Nat.reduceSub, Nat.zero_add, Bool.not_true, Bool.not_false, lenD_S (show b.length ≤ 1000000 by omega), S_len]
      congr 1
      simp
    · simp only [R.bind_ok, bind_exc, lift_some, defM_k, kDef_nx, kDef_rt, sSeq_k, kSeq_nx, kSeq_rt, kSeq_bk, kSeq_ct, sRet_k, kRet_k, sDrop_k, kDrop_k, sIf_k, kIf_t, kIf_f, sSet_k, kSet_k, sNext_k, sBreak_k, sCont_k, sAsg_k, kAsg_k, kAsg2_k, gSet_k, gItem_k, kGi1_k, kGi2_k, kGi3_k, gsCons_k, kGs_k, gsNil_k, gTup2, gTup3, sPar_k, kPar_k, sPar3_k, kPar3_k, sFldSet_k, kFs1_k, kFs2_k, kFs3_k, sRaise_k, kRaise_k, tst_k, kTst_k, tBl_k, kTBl_k, tAnd_k, kTAnd_t, kTAnd_f, tOr_k, kTOr_t, kTOr_f, tNot_k, kTNot_k, tYes_k, eC_k, eVar_k, kVar_k, eU1_k, kU1_k, eB2_k, kB2_k, kB2'_k, eCN_k, kCN_k, aNil_k, aCons_k, kAc_k, kAc2_k, hNew_k, kNew_0, kNew_1, kNew_4, eAnd_k, kAnd_t, kAnd_f, eOr_k, kOr_t, kOr_f, eNot_k, kNot_k, eIf_k, kIfE_t, kIfE_f, eChain_k, kCh1_k, kCh2_k, kCh3_t, kCh3_f, oNone_k, oSome_k, kOs_k, eSl_k, kSl1_k, kSl2_k, kSl3_k, eCall_k, kCall_1, kCall_2, kCall_3, kCall_4, eMeth_k, kMt2_1, kMt2_2, kMt2_3, eFrz_k, eGet_k, view_int', view_str', view_bl', view_non', view_con', addD_int, subD_int, negD_int, gtD_int, ltD_int, geD_int, leD_int, eqD_int, neD_int, eqD_str, neD_str, eqD_bl, isD_non, isntD_non, intC_int, min2_int, conD_0, conD_1, conD_2, conD_3, truD_bl, truD_lst, truD_tup, tupD_lst, lenD_lst, lenD_tup, lenD_scr, ixD_lst, ixD_tup, ixD_scr, startR, List.map_cons, List.map_nil, List.length_cons, List.length_nil, List.cons_append, List.nil_append, List.replicate, List.getElem?_cons_zero, List.getElem?_cons_succ, List.set_cons_zero, List.set_cons_succ, Nat.reduceAdd, Nat.reduceSub, Nat.zero_add, Bool.not_true, Bool.not_false, lenD_S (show b.length ≤ 1000000 by omega), S_len]
/-- nothing fits -/
theorem give_none (h : PoolAt μ p o w B vs) {L : Nat} (hL : L ≤ w) (hn : ∀ x, Fr0 B x → L < x.length) {ow : Int} (how : 0 ≤ ow ∧ ow ≤ 999) : callF s_Pool_give_block [.ptr p, .int (L : Int), .int ow] μ = .exc "NoRoom" (.int (L : Int)) μ := by
  refine call_exc ?_ rfl
  have e : ((freeL B 70 []).filter fun x => decide (x.length ≤ L)) = [] := by
    rw [List.filter_eq_nil_iff]
    intro x hx
    have := hn x ((h.mem x).mp hx)
    simp
    omega
  unfold s_Pool_give_block
  simp only [R.bind_ok, bind_exc, lift_some, defM_k, kDef_nx, kDef_rt, sSeq_k, kSeq_nx, kSeq_rt, kSeq_bk, kSeq_ct, sRet_k, kRet_k, sDrop_k, kDrop_k, sIf_k, kIf_t, kIf_f, sSet_k, kSet_k, sNext_k, sBreak_k, sCont_k, sAsg_k, kAsg_k, kAsg2_k, gSet_k, gItem_k, kGi1_k, kGi2_k, kGi3_k, gsCons_k, kGs_k, gsNil_k, gTup2, gTup3, sPar_k, kPar_k, sPar3_k, kPar3_k, sFldSet_k, kFs1_k, kFs2_k, kFs3_k, sRaise_k, kRaise_k, tst_k, kTst_k, tBl_k, kTBl_k, tAnd_k, kTAnd_t, kTAnd_f, tOr_k, kTOr_t, kTOr_f, tNot_k, kTNot_k, tYes_k, eC_k, eVar_k, kVar_k, eU1_k, kU1_k, eB2_k, kB2_k, kB2'_k, eCN_k, kCN_k, aNil_k, aCons_k, kAc_k, kAc2_k, hNew_k, kNew_0, kNew_1, kNew_4, eAnd_k, kAnd_t, kAnd_f, eOr_k, kOr_t, kOr_f, eNot_k, kNot_k, eIf_k, kIfE_t, kIfE_f, eChain_k, kCh1_k, kCh2_k, kCh3_t, kCh3_f, oNone_k, oSome_k, kOs_k, eSl_k, kSl1_k, kSl2_k, kSl3_k, eCall_k, kCall_1, kCall_2, kCall_3, kCall_4, eMeth_k, kMt2_1, kMt2_2, kMt2_3, eFrz_k, eGet_k, view_int', view_str', view_bl', view_non', view_con', addD_int, subD_int, negD_int, gtD_int, ltD_int, geD_int, leD_int, eqD_int, neD_int, eqD_str, neD_str, eqD_bl, isD_non, isntD_non, intC_int, min2_int, conD_0, conD_1, conD_2, conD_3, truD_bl, truD_lst, truD_tup, tupD_lst, lenD_lst, lenD_tup, lenD_scr, ixD_lst, ixD_tup, ixD_scr, startR, List.map_cons, List.map_nil, List.length_cons, List.length_nil, List.cons_append, List.nil_append, List.replicate, List.getElem?_cons_zero, List.getElem?_cons_succ, List.set_cons_zero, List.set_cons_succ, Nat.reduceAdd, Nat.reduceSub, Nat.zero_add, Bool.not_true, Bool.not_false, h.meth (show ("need_length" : Str) ∉ (["width", "owners"] : List Str) by decide), length_ok h (L : Int) (by omega), owner_ok ow how, some_ok h, e, List.isEmpty_nil]
/-- what is given -/
theorem give_ok (h : PoolAt μ p o w B vs) {L : Nat} (hL : L ≤ w) {x0 : Bits} (hx0 : Fr0 B x0) (hl0 : x0.length ≤ L) {ow : Int} (how : 0 ≤ ow ∧ ow ≤ 999) :
    ∃ f, Fr0 B f ∧ f.length ≤ L ∧ (∀ x, Fr0 B x → x.length ≤ L → x.length ≤ f.length) ∧
      callF s_Pool_give_block [.ptr p, .int (L : Int), .int ow] μ = .ok (.str (S (f ++ List.replicate (L - f.length) false))) (μ.set o (.lv false (.dK ((B ++ [f ++ List.replicate (L - f.length) false]).map kS)) (vs ++ [.int ow]))) := by
  have hmem : ∀ x, x ∈ ((freeL B 70 []).filter fun x => decide (x.length ≤ L)) ↔ Fr0 B x ∧ x.length ≤ L := fun x => by
    rw [List.mem_filter, h.mem, decide_eq_true_eq]
  have hne : ((freeL B 70 []).filter fun x => decide (x.length ≤ L)) ≠ [] := fun e => by
    have := (hmem x0).mpr ⟨hx0, hl0⟩
    rw [e] at this
    cases this
  obtain ⟨f, h1, h2, h3⟩ := minL_pairs (fun x => -(x.length : Int)) hne
  obtain ⟨hf, hfl⟩ := (hmem f).mp h1
  refine ⟨f, hf, hfl, fun x hx hxl => by have := h3 x ((hmem x).mpr ⟨hx, hxl⟩); omega, ?_⟩
  generalize hb : f ++ List.replicate (L - f.length) false = b
  have hnew : b ∉ B := hb ▸ give_new hf
  have hw := h.hw
  have m1 : min1 μ [.con .lst (((freeL B 70 []).filter fun x => decide (x.length ≤ L)).map fun x => pairD (-(x.length : Int)) x)] = some (pairD (-(f.length : Int)) f) := h2
  have e1 : (((freeL B 70 []).filter fun x => decide (x.length ≤ L)).map fun x => pairD (-(x.length : Int)) x).isEmpty = false := by
    cases e : ((freeL B 70 []).filter fun x => decide (x.length ≤ L)) with
    | nil => exact absurd e hne
    | cons a l => rfl
  have e2 : ixD μ (pairD (-(f.length : Int)) f) (.int 1) = some (.str (S f)) := atI_nat _ 1
  have e3 : mulD μ (.str "0") (.int ((L : Int) - (f.length : Int))) = some (.str (S (List.replicate (L - f.length) false))) := by
    rw [S_zero, repD_S (by omega) (by omega)]
    congr 4
    omega
  have e4 : addD μ (.str (S f)) (.str (S (List.replicate (L - f.length) false))) = some (.str (S b)) := by
    rw [addD_S (by simp; omega), hb]
  have e5 : setItemD μ (.ptr o) (.str (S b)) (.int ow) = some (μ.set o (.lv false (.dK ((B ++ [b]).map kS)) (vs ++ [.int ow]))) := by
    rw [setItem_dct h.ho (keyD_S b) (by rw [h.hl]; have := h.hB; omega), putKs_new hnew, putDs_new hnew]
  refine call_ok ?_ (by simp)
  unfold s_Pool_give_block
  simp only [R.bind_ok, bind_exc, lift_some, defM_k, kDef_nx, kDef_rt, sSeq_k, kSeq_nx, kSeq_rt, kSeq_bk, kSeq_ct, sRet_k, kRet_k, sDrop_k, kDrop_k, sIf_k, kIf_t, kIf_f, sSet_k, kSet_k, sNext_k, sBreak_k, sCont_k, sAsg_k, kAsg_k, kAsg2_k, gSet_k, gItem_k, kGi1_k, kGi2_k, kGi3_k, gsCons_k, kGs_k, gsNil_k, gTup2, gTup3, sPar_k, kPar_k, sPar3_k, kPar3_k, sFldSet_k, kFs1_k, kFs2_k, kFs3_k, sRaise_k, kRaise_k, tst_k, kTst_k, tBl_k, kTBl_k, tAnd_k, kTAnd_t, kTAnd_f, tOr_k, kTOr_t, kTOr_f, tNot_k, kTNot_k, tYes_k, eC_k, eVar_k, kVar_k, eU1_k, kU1_k, eB2_k, kB2_k, kB2'_k, eCN_k, kCN_k, aNil_k, aCons_k, kAc_k, kAc2_k, hNew_k, kNew_0, kNew_1, kNew_4, eAnd_k, kAnd_t, kAnd_f, eOr_k, kOr_t, kOr_f, eNot_k, kNot_k, eIf_k, kIfE_t, kIfE_f, eChain_k, kCh1_k, kCh2_k, kCh3_t, kCh3_f, oNone_k, oSome_k, kOs_k, eSl_k, kSl1_k, kSl2_k, kSl3_k, eCall_k, kCall_1, kCall_2, kCall_3, kCall_4, eMeth_k, kMt2_1, kMt2_2, kMt2_3, eFrz_k, eGet_k, view_int', view_str', view_bl', view_non', view_con', addD_int, subD_int, negD_int, gtD_int, ltD_int, geD_int, leD_int, eqD_int, neD_int, eqD_str, neD_str, eqD_bl, isD_non, isntD_non, intC_int, min2_int, conD_0, conD_1, conD_2, conD_3, truD_bl, truD_lst, truD_tup, tupD_lst, lenD_lst, lenD_tup, lenD_scr, ixD_lst, ixD_tup, ixD_scr, startR, List.map_cons, List.map_nil, List.length_cons, List.length_nil, List.cons_append, List.nil_append, List.replicate, List.getElem?_cons_zero, List.getElem?_cons_succ, List.set_cons_zero, List.set_cons_succ, Nat.reduceAdd, Nat.reduceSub, Nat.zero_add, Bool.not_true, Bool.not_false, h.meth (show ("need_length" : Str) ∉ (["width", "owners"] : List Str) by decide), length_ok h (L : Int) (by omega), owner_ok ow how, some_ok h, e1, m1, e2, lenD_S (show f.length ≤ 1000000 by omega), e3, e4, h.owners, e5]
end
end
end K18

namespace K18
open PySem PySem.Spec L2 MP
noncomputable section
section
variable {μ : Mu} {p o w : Nat} {B : List Bits} {vs : List D}
theorem need_block_ok (h : PoolAt μ p o w B vs) {b : Bits} (hb : b ∈ B) : callF s_Pool_need_block [.ptr p, .str (S b)] μ = .ok .non μ := by
  refine call_ok ?_ rfl
  have i1 : ninD μ (.str (S b)) (.ptr o) = some (.bl (!decide (b ∈ B))) := by rw [ninD_dct (view_ptr h.ho) (keyD_S b), find_in B vs b h.hl]
  unfold s_Pool_need_block
  simp only [R.bind_ok, bind_exc, lift_some, defM_k, kDef_nx, kDef_rt, sSeq_k, kSeq_nx, kSeq_rt, kSeq_bk, kSeq_ct, sRet_k, kRet_k, sDrop_k, kDrop_k, sIf_k, kIf_t, kIf_f, sSet_k, kSet_k, sNext_k, sBreak_k, sCont_k, sAsg_k, kAsg_k, kAsg2_k, gSet_k, gItem_k, kGi1_k, kGi2_k, kGi3_k, gsCons_k, kGs_k, gsNil_k, gTup2, gTup3, sPar_k, kPar_k, sPar3_k, kPar3_k, sFldSet_k, kFs1_k, kFs2_k, kFs3_k, sRaise_k, kRaise_k, tst_k, kTst_k, tBl_k, kTBl_k, tAnd_k, kTAnd_t, kTAnd_f, tOr_k, kTOr_t, kTOr_f, tNot_k, kTNot_k, tYes_k, eC_k, eVar_k, kVar_k, eU1_k, kU1_k, eB2_k, kB2_k, kB2'_k, eCN_k, kCN_k, aNil_k, aCons_k, kAc_k, kAc2_k, hNew_k, kNew_0, kNew_1, kNew_4, eAnd_k, kAnd_t, kAnd_f, eOr_k, kOr_t, kOr_f, eNot_k, kNot_k, eIf_k, kIfE_t, kIfE_f, eChain_k, kCh1_k, kCh2_k, kCh3_t, kCh3_f, oNone_k, oSome_k, kOs_k, eSl_k, kSl1_k, kSl2_k, kSl3_k, eCall_k, kCall_1, kCall_2, kCall_3, kCall_4, eMeth_k, kMt2_1, kMt2_2, kMt2_3, eFrz_k, eGet_k, view_int', view_str', view_bl', view_non', view_con', addD_int, subD_int, negD_int, gtD_int, ltD_int, geD_int, leD_int, eqD_int, neD_int, eqD_str, neD_str, eqD_bl, isD_non, isntD_non, intC_int, min2_int, conD_0, conD_1, conD_2, conD_3, truD_bl, truD_lst, truD_tup, tupD_lst, lenD_lst, lenD_tup, lenD_scr, ixD_lst, ixD_tup, ixD_scr, startR, List.map_cons, List.map_nil, List.length_cons, List.length_nil, List.cons_append, List.nil_append, List.replicate, List.getElem?_cons_zero, List.getElem?_cons_succ, List.set_cons_zero, List.set_cons_succ, Nat.reduceAdd, Nat.reduceSub, Nat.zero_add, Bool.not_true, Bool.not_false, isi_str, h.owners, i1, hb, decide_true]
/-- the values behind a splitting -/
def splitV (B : List Bits) (vs : List D) (b : Bits) (d : D) : List D := dropDs (B.map kS) vs (kS b) ++ [d] ++ [d]
theorem PoolAt.put (h : PoolAt μ p o w B vs) {C : List Bits} {ws : List D} (hne : p ≠ o) (hl : ws.length = C.length) (hW : ∀ b ∈ C, b.length ≤ w) (hC : C.length ≤ 400) (hc : noPtrs μ.length ws = true) : PoolAt (μ.set o (.lv false (.dK (C.map kS)) ws)) p o w C ws :=
  ⟨by rw [List.getElem?_set_ne fun z => hne z.symm]; exact h.hp, set_get h.ho, hl, h.hw, hW, hC, closed_set h.hc hc⟩
theorem PoolAt.vals (h : PoolAt μ p o w B vs) : ∀ d ∈ vs, noPtr μ.length d = true := noPtrs_iff.mp (closed_at h.hc h.ho)
theorem split_ok (h : PoolAt μ p o w B vs) (hne : p ≠ o) {b : Bits} (hb : b ∈ B) (hlt : b.length < w) (ha : anti B) (hn : B.Nodup) (hB : B.length < 400) {d : D} (hd : findD (B.map kS) vs (kS b) = some d) :
    callF s_Pool_split_block [.ptr p, .str (S b)] μ = .ok .non (μ.set o (.lv false (.dK ((split B b).map kS)) (splitV B vs b d))) := by
  have hw := h.hw
  have n0 : b ++ [false] ∉ B.filter fun a => decide (a ≠ b) := fun z => by
    have := ha b hb _ (List.mem_filter.mp z).1 ⟨[false], rfl⟩
    have := congrArg List.length this
    simp at this
  have n1 : b ++ [true] ∉ (B.filter fun a => decide (a ≠ b)) ++ [b ++ [false]] := fun z => by
    rcases List.mem_append.mp z with z | z
    · have := ha b hb _ (List.mem_filter.mp z).1 ⟨[true], rfl⟩
      have := congrArg List.length this
      simp at this
    · simp at z
  have ld := dropDs_len B vs b h.hl
  have fl : (B.filter fun a => decide (a ≠ b)).length ≤ B.length := List.length_filter_le _ _
  generalize hC : (B.filter fun a => decide (a ≠ b)) = C at n0 n1 ld fl
  generalize hw0 : dropDs (B.map kS) vs (kS b) = ws at ld
  have s1 := set_get (ob' := Ob.lv false (.dK (C.map kS)) ws) h.ho
  have pop : eDPop (eU1 (fldD "owners" ["Pool"]) (eVar 0)) (eVar 1) [some (.ptr p), some (.str (S b)), none] μ = .ok d (μ.set o (.lv false (.dK (C.map kS)) ws)) := by
    rw [dpop_k (k := o) (by simp only [R.bind_ok, bind_exc, lift_some, defM_k, kDef_nx, kDef_rt, sSeq_k, kSeq_nx, kSeq_rt, kSeq_bk, kSeq_ct, sRet_k, kRet_k, sDrop_k, kDrop_k, sIf_k, kIf_t, kIf_f, sSet_k, kSet_k, sNext_k, sBreak_k, sCont_k, sAsg_k, kAsg_k, kAsg2_k, gSet_k, gItem_k, kGi1_k, kGi2_k, kGi3_k, gsCons_k, kGs_k, gsNil_k, gTup2, gTup3, sPar_k, kPar_k, sPar3_k, kPar3_k, sFldSet_k, kFs1_k, kFs2_k, kFs3_k, sRaise_k, kRaise_k, tst_k, kTst_k, tBl_k, kTBl_k, tAnd_k, kTAnd_t, kTAnd_f, tOr_k, kTOr_t, kTOr_f, tNot_k, kTNot_k, tYes_k, eC_k, eVar_k, kVar_k, eU1_k, kU1_k, eB2_k, kB2_k, kB2'_k, eCN_k, kCN_k, aNil_k, aCons_k, kAc_k, kAc2_k, hNew_k, kNew_0, kNew_1, kNew_4, eAnd_k, kAnd_t, kAnd_f, eOr_k, kOr_t, kOr_f, eNot_k, kNot_k, eIf_k, kIfE_t, kIfE_f, eChain_k, kCh1_k, kCh2_k, kCh3_t, kCh3_f, oNone_k, oSome_k, kOs_k, eSl_k, kSl1_k, kSl2_k, kSl3_k, eCall_k, kCall_1, kCall_2, kCall_3, kCall_4, eMeth_k, kMt2_1, kMt2_2, kMt2_3, eFrz_k, eGet_k, view_int', view_str', view_bl', view_non', view_con', addD_int, subD_int, negD_int, gtD_int, ltD_int, geD_int, leD_int, eqD_int, neD_int, eqD_str, neD_str, eqD_bl, isD_non, isntD_non, intC_int, min2_int, conD_0, conD_1, conD_2, conD_3, truD_bl, truD_lst, truD_tup, tupD_lst, lenD_lst, lenD_tup, lenD_scr, ixD_lst, ixD_tup, ixD_scr, startR, List.map_cons, List.map_nil, List.length_cons, List.length_nil, List.cons_append, List.nil_append, List.replicate, List.getElem?_cons_zero, List.getElem?_cons_succ, List.set_cons_zero, List.set_cons_succ, Nat.reduceAdd, Nat.reduceSub, Nat.zero_add, Bool.not_true, Bool.not_false, h.owners]) h.ho (by simp only [R.bind_ok, bind_exc, lift_some, defM_k, kDef_nx, kDef_rt, sSeq_k, kSeq_nx, kSeq_rt, kSeq_bk, kSeq_ct, sRet_k, kRet_k, sDrop_k, kDrop_k, sIf_k, kIf_t, kIf_f, sSet_k, kSet_k, sNext_k, sBreak_k, sCont_k, sAsg_k, kAsg_k, kAsg2_k, gSet_k, gItem_k, kGi1_k, kGi2_k, kGi3_k, gsCons_k, kGs_k, gsNil_k, gTup2, gTup3, sPar_k, kPar_k, sPar3_k, kPar3_k, sFldSet_k, kFs1_k, kFs2_k, kFs3_k, sRaise_k, kRaise_k, tst_k, kTst_k, tBl_k, kTBl_k, tAnd_k, kTAnd_t, kTAnd_f, tOr_k, kTOr_t, kTOr_f, tNot_k, kTNot_k, tYes_k, eC_k, eVar_k, kVar_k, eU1_k, kU1_k, eB2_k, kB2_k, kB2'_k, eCN_k, kCN_k, aNil_k, aCons_k, kAc_k, kAc2_k, hNew_k, kNew_0, kNew_1, kNew_4, eAnd_k, kAnd_t, kAnd_f, eOr_k, kOr_t, kOr_f, eNot_k, kNot_k, eIf_k, kIfE_t, kIfE_f, eChain_k, kCh1_k, kCh2_k, kCh3_t, kCh3_f, oNone_k, oSome_k, kOs_k, eSl_k, kSl1_k, kSl2_k, kSl3_k, eCall_k, kCall_1, kCall_2, kCall_3, kCall_4, eMeth_k, kMt2_1, kMt2_2, kMt2_3, eFrz_k, eGet_k, view_int', view_str', view_bl', view_non', view_con', addD_int, subD_int, negD_int, gtD_int, ltD_int, geD_int, leD_int, eqD_int, neD_int, eqD_str, neD_str, eqD_bl, isD_non, isntD_non, intC_int, min2_int, conD_0, conD_1, conD_2, conD_3, truD_bl, truD_lst, truD_tup, tupD_lst, lenD_lst, lenD_tup, lenD_scr, ixD_lst, ixD_tup, ixD_scr, startR, List.map_cons, List.map_nil, List.length_cons, List.length_nil, List.cons_append, List.nil_append, List.replicate, List.getElem?_cons_zero, List.getElem?_cons_succ, List.set_cons_zero, List.set_cons_succ, Nat.reduceAdd, Nat.reduceSub, Nat.zero_add, Bool.not_true, Bool.not_false]) (keyD_S b) hd, dropKs_S, hC, hw0]
  have q1 : fldD "owners" ["Pool"] (μ.set o (.lv false (.dK (C.map kS)) ws)) (.ptr p) = some (.ptr o) := by
    refine (fldD_ptr (view_ptr (lk := false) (c := .ins "Pool" ["width", "owners"]) (l := [.int (w : Int), .ptr o]) ?_) (by decide)).trans (by rfl)
    rw [List.getElem?_set_ne fun z => hne z.symm]
    exact h.hp
  have a0 : ∀ μ' : Mu, addD μ' (.str (S b)) (.str "0") = some (.str (S (b ++ [false]))) := fun _ => by rw [S_zero]; exact addD_S (by simp; omega)
  have a1 : ∀ μ' : Mu, addD μ' (.str (S b)) (.str "1") = some (.str (S (b ++ [true]))) := fun _ => by rw [S_one]; exact addD_S (by simp; omega)
  have e1 : setItemD (μ.set o (.lv false (.dK (C.map kS)) ws)) (.ptr o) (.str (S (b ++ [false]))) d = some (μ.set o (.lv false (.dK ((C ++ [b ++ [false]]).map kS)) (ws ++ [d]))) := by
    rw [setItem_dct s1 (keyD_S _) (by omega), putKs_new n0, putDs_new n0, List.set_set]
  have s2 := set_get (ob' := Ob.lv false (.dK ((C ++ [b ++ [false]]).map kS)) (ws ++ [d])) h.ho
  have q2 : fldD "owners" ["Pool"] (μ.set o (.lv false (.dK ((C ++ [b ++ [false]]).map kS)) (ws ++ [d]))) (.ptr p) = some (.ptr o) := by
    refine (fldD_ptr (view_ptr (lk := false) (c := .ins "Pool" ["width", "owners"]) (l := [.int (w : Int), .ptr o]) ?_) (by decide)).trans (by rfl)
    rw [List.getElem?_set_ne fun z => hne z.symm]
    exact h.hp
  have e2 : setItemD (μ.set o (.lv false (.dK ((C ++ [b ++ [false]]).map kS)) (ws ++ [d]))) (.ptr o) (.str (S (b ++ [true]))) d = some (μ.set o (.lv false (.dK ((C ++ [b ++ [false]] ++ [b ++ [true]]).map kS)) (ws ++ [d] ++ [d]))) := by
    rw [setItem_dct s2 (keyD_S _) (by simp; omega), putKs_new n1, putDs_new (B := C ++ [b ++ [false]]) n1, List.set_set]
  have lne : decide ((b.length : Int) = (w : Int)) = false := decide_eq_false (by omega)
  unfold split splitV
  rw [hC, hw0]
  refine call_ok ?_ (by simp)
  unfold s_Pool_split_block
  simp only [R.bind_ok, bind_exc, lift_some, defM_k, kDef_nx, kDef_rt, sSeq_k, kSeq_nx, kSeq_rt, kSeq_bk, kSeq_ct, sRet_k, kRet_k, sDrop_k, kDrop_k, sIf_k, kIf_t, kIf_f, sSet_k, kSet_k, sNext_k, sBreak_k, sCont_k, sAsg_k, kAsg_k, kAsg2_k, gSet_k, gItem_k, kGi1_k, kGi2_k, kGi3_k, gsCons_k, kGs_k, gsNil_k, gTup2, gTup3, sPar_k, kPar_k, sPar3_k, kPar3_k, sFldSet_k, kFs1_k, kFs2_k, kFs3_k, sRaise_k, kRaise_k, tst_k, kTst_k, tBl_k, kTBl_k, tAnd_k, kTAnd_t, kTAnd_f, tOr_k, kTOr_t, kTOr_f, tNot_k, kTNot_k, tYes_k, eC_k, eVar_k, kVar_k, eU1_k, kU1_k, eB2_k, kB2_k, kB2'_k, eCN_k, kCN_k, aNil_k, aCons_k, kAc_k, kAc2_k, hNew_k, kNew_0, kNew_1, kNew_4, eAnd_k, kAnd_t, kAnd_f, eOr_k, kOr_t, kOr_f, eNot_k, kNot_k, eIf_k, kIfE_t, kIfE_f, eChain_k, kCh1_k, kCh2_k, kCh3_t, kCh3_f, oNone_k, oSome_k, kOs_k, eSl_k, kSl1_k, kSl2_k, kSl3_k, eCall_k, kCall_1, kCall_2, kCall_3, kCall_4, eMeth_k, kMt2_1, kMt2_2, kMt2_3, eFrz_k, eGet_k, view_int', view_str', view_bl', view_non', view_con', addD_int, subD_int, negD_int, gtD_int, ltD_int, geD_int, leD_int, eqD_int, neD_int, eqD_str, neD_str, eqD_bl, isD_non, isntD_non, intC_int, min2_int, conD_0, conD_1, conD_2, conD_3, truD_bl, truD_lst, truD_tup, tupD_lst, lenD_lst, lenD_tup, lenD_scr, ixD_lst, ixD_tup, ixD_scr, startR, List.map_cons, List.map_nil, List.length_cons, List.length_nil, List.cons_append, List.nil_append, List.replicate, List.getElem?_cons_zero, List.getElem?_cons_succ, List.set_cons_zero, List.set_cons_succ, Nat.reduceAdd, Nat.reduceSub, Nat.zero_add, Bool.not_true, Bool.not_false, h.meth (show ("need_block" : Str) ∉ (["width", "owners"] : List Str) by decide), need_block_ok h hb, h.width, lenD_S (show b.length ≤ 1000000 by omega), lne, pop, a0, q1, e1, a1, q2, e2]
theorem bits_ok {b : Bits} {m : Int} (hb : b.length ≤ 1000000) : callF s_is_bits [.str (S b), .int m] μ = .ok (.bl (decide ((b.length : Int) ≤ m))) μ := by
  refine call_ok ?_ rfl
  have hi : iSeq (eVar 0) [some (.str (S b)), some (.int m), none] μ = .ok (fun _ => some (charsD (S b))) μ := by
    unfold iSeq
    simp only [R.bind_ok, bind_exc, lift_some, defM_k, kDef_nx, kDef_rt, sSeq_k, kSeq_nx, kSeq_rt, kSeq_bk, kSeq_ct, sRet_k, kRet_k, sDrop_k, kDrop_k, sIf_k, kIf_t, kIf_f, sSet_k, kSet_k, sNext_k, sBreak_k, sCont_k, sAsg_k, kAsg_k, kAsg2_k, gSet_k, gItem_k, kGi1_k, kGi2_k, kGi3_k, gsCons_k, kGs_k, gsNil_k, gTup2, gTup3, sPar_k, kPar_k, sPar3_k, kPar3_k, sFldSet_k, kFs1_k, kFs2_k, kFs3_k, sRaise_k, kRaise_k, tst_k, kTst_k, tBl_k, kTBl_k, tAnd_k, kTAnd_t, kTAnd_f, tOr_k, kTOr_t, kTOr_f, tNot_k, kTNot_k, tYes_k, eC_k, eVar_k, kVar_k, eU1_k, kU1_k, eB2_k, kB2_k, kB2'_k, eCN_k, kCN_k, aNil_k, aCons_k, kAc_k, kAc2_k, hNew_k, kNew_0, kNew_1, kNew_4, eAnd_k, kAnd_t, kAnd_f, eOr_k, kOr_t, kOr_f, eNot_k, kNot_k, eIf_k, kIfE_t, kIfE_f, eChain_k, kCh1_k, kCh2_k, kCh3_t, kCh3_f, oNone_k, oSome_k, kOs_k, eSl_k, kSl1_k, kSl2_k, kSl3_k, eCall_k, kCall_1, kCall_2, kCall_3, kCall_4, eMeth_k, kMt2_1, kMt2_2, kMt2_3, eFrz_k, eGet_k, view_int', view_str', view_bl', view_non', view_con', addD_int, subD_int, negD_int, gtD_int, ltD_int, geD_int, leD_int, eqD_int, neD_int, eqD_str, neD_str, eqD_bl, isD_non, isntD_non, intC_int, min2_int, conD_0, conD_1, conD_2, conD_3, truD_bl, truD_lst, truD_tup, tupD_lst, lenD_lst, lenD_tup, lenD_scr, ixD_lst, ixD_tup, ixD_scr, startR, List.map_cons, List.map_nil, List.length_cons, List.length_nil, List.cons_append, List.nil_append, List.replicate, List.getElem?_cons_zero, List.getElem?_cons_succ, List.set_cons_zero, List.set_cons_succ, Nat.reduceAdd, Nat.reduceSub, Nat.zero_add, Bool.not_true, Bool.not_false]
    rfl
  have cl : eLc [2] (iSeq (eVar 0)) (gSet 2) tYesD (eB2 inD (eVar 2) (eC (.str "01"))) [some (.str (S b)), some (.int m), none] μ = .ok (.lst ((charsD (S b)).map fun _ => .bl true)) μ := by
    have cm : ∀ x ∈ charsD (S b), ∃ c : Bool, x = .str ⟨#[bitN c]⟩ := fun x hx => by
      unfold charsD at hx
      rw [S_cps, List.map_map] at hx
      obtain ⟨c, _, rfl⟩ := List.mem_map.mp hx
      exact ⟨c, rfl⟩
    have hl : (charsD (S b)).length = b.length := by
      unfold charsD
      rw [S_cps]
      simp
    rw [lcRun_pure (l := charsD (S b)) (fun _ => true) (fun _ => .bl true) hi (by rw [hl, sizeLine_eq]; omega) fun x hx => ?_]
    · rw [List.filter_eq_self.mpr fun _ _ => rfl]
    · obtain ⟨c, rfl⟩ := cm x hx
      have i1 : inD μ (.str ⟨#[bitN c]⟩) (.str "01") = some (.bl true) := by
        cases c <;> rfl
      exact ⟨[some (.str (S b)), some (.int m), some (.str ⟨#[bitN c]⟩)], by simp only [R.bind_ok, bind_exc, lift_some, defM_k, kDef_nx, kDef_rt, sSeq_k, kSeq_nx, kSeq_rt, kSeq_bk, kSeq_ct, sRet_k, kRet_k, sDrop_k, kDrop_k, sIf_k, kIf_t, kIf_f, sSet_k, kSet_k, sNext_k, sBreak_k, sCont_k, sAsg_k, kAsg_k, kAsg2_k, gSet_k, gItem_k, kGi1_k, kGi2_k, kGi3_k, gsCons_k, kGs_k, gsNil_k, gTup2, gTup3, sPar_k, kPar_k, sPar3_k, kPar3_k, sFldSet_k, kFs1_k, kFs2_k, kFs3_k, sRaise_k, kRaise_k, tst_k, kTst_k, tBl_k, kTBl_k, tAnd_k, kTAnd_t, kTAnd_f, tOr_k, kTOr_t, kTOr_f, tNot_k, kTNot_k, tYes_k, eC_k, eVar_k, kVar_k, eU1_k, kU1_k, eB2_k, kB2_k, kB2'_k, eCN_k, kCN_k, aNil_k, aCons_k, kAc_k, kAc2_k, hNew_k, kNew_0, kNew_1, kNew_4, eAnd_k, kAnd_t, kAnd_f, eOr_k, kOr_t, kOr_f, eNot_k, kNot_k, eIf_k, kIfE_t, kIfE_f, eChain_k, kCh1_k, kCh2_k, kCh3_t, kCh3_f, oNone_k, oSome_k, kOs_k, eSl_k, kSl1_k, kSl2_k, kSl3_k, eCall_k, kCall_1, kCall_2, kCall_3, kCall_4, eMeth_k, kMt2_1, kMt2_2, kMt2_3, eFrz_k, eGet_k, view_int', view_str', view_bl', view_non', view_con', addD_int, subD_int, negD_int, gtD_int, ltD_int, geD_int, leD_int, eqD_int, neD_int, eqD_str, neD_str, eqD_bl, isD_non, isntD_non, intC_int, min2_int, conD_0, conD_1, conD_2, conD_3, truD_bl, truD_lst, truD_tup, tupD_lst, lenD_lst, lenD_tup, lenD_scr, ixD_lst, ixD_tup, ixD_scr, startR, List.map_cons, List.map_nil, List.length_cons, List.length_nil, List.cons_append, List.nil_append, List.replicate, List.getElem?_cons_zero, List.getElem?_cons_succ, List.set_cons_zero, List.set_cons_succ, Nat.reduceAdd, Nat.reduceSub, Nat.zero_add, Bool.not_true, Bool.not_false, wipeR], rfl, fun _ => by simp only [R.bind_ok, bind_exc, lift_some, defM_k, kDef_nx, kDef_rt, sSeq_k, kSeq_nx, kSeq_rt, kSeq_bk, kSeq_ct, sRet_k, kRet_k, sDrop_k, kDrop_k, sIf_k, kIf_t, kIf_f, sSet_k, kSet_k, sNext_k, sBreak_k, sCont_k, sAsg_k, kAsg_k, kAsg2_k, gSet_k, gItem_k, kGi1_k, kGi2_k, kGi3_k, gsCons_k, kGs_k, gsNil_k, gTup2, gTup3, sPar_k, kPar_k, sPar3_k, kPar3_k, sFldSet_k, kFs1_k, kFs2_k, kFs3_k, sRaise_k, kRaise_k, tst_k, kTst_k, tBl_k, kTBl_k, tAnd_k, kTAnd_t, kTAnd_f, tOr_k, kTOr_t, kTOr_f, tNot_k, kTNot_k, tYes_k, eC_k, eVar_k, kVar_k, eU1_k, kU1_k, eB2_k, kB2_k, kB2'_k, eCN_k, kCN_k, aNil_k, aCons_k, kAc_k, kAc2_k, hNew_k, kNew_0, kNew_1, kNew_4, eAnd_k, kAnd_t, kAnd_f, eOr_k, kOr_t, kOr_f, eNot_k, kNot_k, eIf_k, kIfE_t, kIfE_f, eChain_k, kCh1_k, kCh2_k, kCh3_t, kCh3_f, oNone_k, oSome_k, kOs_k, eSl_k, kSl1_k, kSl2_k, kSl3_k, eCall_k, kCall_1, kCall_2, kCall_3, kCall_4, eMeth_k, kMt2_1, kMt2_2, kMt2_3, eFrz_k, eGet_k, view_int', view_str', view_bl', view_non', view_con', addD_int, subD_int, negD_int, gtD_int, ltD_int, geD_int, leD_int, eqD_int, neD_int, eqD_str, neD_str, eqD_bl, isD_non, isntD_non, intC_int, min2_int, conD_0, conD_1, conD_2, conD_3, truD_bl, truD_lst, truD_tup, tupD_lst, lenD_lst, lenD_tup, lenD_scr, ixD_lst, ixD_tup, ixD_scr, startR, List.map_cons, List.map_nil, List.length_cons, List.length_nil, List.cons_append, List.nil_append, List.replicate, List.getElem?_cons_zero, List.getElem?_cons_succ, List.set_cons_zero, List.set_cons_succ, Nat.reduceAdd, Nat.reduceSub, Nat.zero_add, Bool.not_true, Bool.not_false, i1]⟩
  have al : allD μ [.con .lst ((charsD (S b)).map fun _ => D.bl true)] = some (.bl true) := by
    have : ∀ l : List D, blsD (l.map fun _ => D.bl true) = some (l.map fun _ => true) := by
      intro l
      induction l with
      | nil => rfl
      | cons a l ih =>
        simp only [List.map_cons, blsD, ih, Option.map_some]
    unfold allD
    simp only [view_con', this, Option.map_some]
    congr 2
    rw [List.all_eq_true]
    intro x hx
    obtain ⟨_, _, rfl⟩ := List.mem_map.mp hx
    rfl
  unfold s_is_bits
  by_cases h1 : (b.length : Int) ≤ m
  · simp only [R.bind_ok, bind_exc, lift_some, defM_k, kDef_nx, kDef_rt, sSeq_k, kSeq_nx, kSeq_rt, kSeq_bk, kSeq_ct, sRet_k, kRet_k, sDrop_k, kDrop_k, sIf_k, kIf_t, kIf_f, sSet_k, kSet_k, sNext_k, sBreak_k, sCont_k, sAsg_k, kAsg_k, kAsg2_k, gSet_k, gItem_k, kGi1_k, kGi2_k, kGi3_k, gsCons_k, kGs_k, gsNil_k, gTup2, gTup3, sPar_k, kPar_k, sPar3_k, kPar3_k, sFldSet_k, kFs1_k, kFs2_k, kFs3_k, sRaise_k, kRaise_k, tst_k, kTst_k, tBl_k, kTBl_k, tAnd_k, kTAnd_t, kTAnd_f, tOr_k, kTOr_t, kTOr_f, tNot_k, kTNot_k, tYes_k, eC_k, eVar_k, kVar_k, eU1_k, kU1_k, eB2_k, kB2_k, kB2'_k, eCN_k, kCN_k, aNil_k, aCons_k, kAc_k, kAc2_k, hNew_k, kNew_0, kNew_1, kNew_4, eAnd_k, kAnd_t, kAnd_f, eOr_k, kOr_t, kOr_f, eNot_k, kNot_k, eIf_k, kIfE_t, kIfE_f, eChain_k, kCh1_k, kCh2_k, kCh3_t, kCh3_f, oNone_k, oSome_k, kOs_k, eSl_k, kSl1_k, kSl2_k, kSl3_k, eCall_k, kCall_1, kCall_2, kCall_3, kCall_4, eMeth_k, kMt2_1, kMt2_2, kMt2_3, eFrz_k, eGet_k, view_int', view_str', view_bl', view_non', view_con', addD_int, subD_int, negD_int, gtD_int, ltD_int, geD_int, leD_int, eqD_int, neD_int, eqD_str, neD_str, eqD_bl, isD_non, isntD_non, intC_int, min2_int, conD_0, conD_1, conD_2, conD_3, truD_bl, truD_lst, truD_tup, tupD_lst, lenD_lst, lenD_tup, lenD_scr, ixD_lst, ixD_tup, ixD_scr, startR, List.map_cons, List.map_nil, List.length_cons, List.length_nil, List.cons_append, List.nil_append, List.replicate, List.getElem?_cons_zero, List.getElem?_cons_succ, List.set_cons_zero, List.set_cons_succ, Nat.reduceAdd, Nat.reduceSub, Nat.zero_add, Bool.not_true, Bool.not_false, isi_str, lenD_S hb, h1, decide_true, cl, al]
  · simp only [R.bind_ok, bind_exc, lift_some, defM_k, kDef_nx, kDef_rt, sSeq_k, kSeq_nx, kSeq_rt, kSeq_bk, kSeq_ct, sRet_k, kRet_k, sDrop_k, kDrop_k, sIf_k, kIf_t, kIf_f, sSet_k, kSet_k, sNext_k, sBreak_k, sCont_k, sAsg_k, kAsg_k, kAsg2_k, gSet_k, gItem_k, kGi1_k, kGi2_k, kGi3_k, gsCons_k, kGs_k, gsNil_k, gTup2, gTup3, sPar_k, kPar_k, sPar3_k, kPar3_k, sFldSet_k, kFs1_k, kFs2_k, kFs3_k, sRaise_k, kRaise_k, tst_k, kTst_k, tBl_k, kTBl_k, tAnd_k, kTAnd_t, kTAnd_f, tOr_k, kTOr_t, kTOr_f, tNot_k, kTNot_k, tYes_k, eC_k, eVar_k, kVar_k, eU1_k, kU1_k, eB2_k, kB2_k, kB2'_k, eCN_k, kCN_k, aNil_k, aCons_k, kAc_k, kAc2_k, hNew_k, kNew_0, kNew_1, kNew_4, eAnd_k, kAnd_t, kAnd_f, eOr_k, kOr_t, kOr_f, eNot_k, kNot_k, eIf_k, kIfE_t, kIfE_f, eChain_k, kCh1_k, kCh2_k, kCh3_t, kCh3_f, oNone_k, oSome_k, kOs_k, eSl_k, kSl1_k, kSl2_k, kSl3_k, eCall_k, kCall_1, kCall_2, kCall_3, kCall_4, eMeth_k, kMt2_1, kMt2_2, kMt2_3, eFrz_k, eGet_k, view_int', view_str', view_bl', view_non', view_con', addD_int, subD_int, negD_int, gtD_int, ltD_int, geD_int, leD_int, eqD_int, neD_int, eqD_str, neD_str, eqD_bl, isD_non, isntD_non, intC_int, min2_int, conD_0, conD_1, conD_2, conD_3, truD_bl, truD_lst, truD_tup, tupD_lst, lenD_lst, lenD_tup, lenD_scr, ixD_lst, ixD_tup, ixD_scr, startR, List.map_cons, List.map_nil, List.length_cons, List.length_nil, List.cons_append, List.nil_append, List.replicate, List.getElem?_cons_zero, List.getElem?_cons_succ, List.set_cons_zero, List.set_cons_succ, Nat.reduceAdd, Nat.reduceSub, Nat.zero_add, Bool.not_true, Bool.not_false, isi_str, lenD_S hb, h1, decide_false]
theorem prefix_ok {b : Bits} (hb : b.length ≤ 1000000) : callF s_is_prefix [.str (S b)] μ = .ok (.bl (decide ((b.length : Int) ≤ 64))) μ := by
  refine call_ok ?_ rfl
  unfold s_is_prefix
  simp only [R.bind_ok, bind_exc, lift_some, defM_k, kDef_nx, kDef_rt, sSeq_k, kSeq_nx, kSeq_rt, kSeq_bk, kSeq_ct, sRet_k, kRet_k, sDrop_k, kDrop_k, sIf_k, kIf_t, kIf_f, sSet_k, kSet_k, sNext_k, sBreak_k, sCont_k, sAsg_k, kAsg_k, kAsg2_k, gSet_k, gItem_k, kGi1_k, kGi2_k, kGi3_k, gsCons_k, kGs_k, gsNil_k, gTup2, gTup3, sPar_k, kPar_k, sPar3_k, kPar3_k, sFldSet_k, kFs1_k, kFs2_k, kFs3_k, sRaise_k, kRaise_k, tst_k, kTst_k, tBl_k, kTBl_k, tAnd_k, kTAnd_t, kTAnd_f, tOr_k, kTOr_t, kTOr_f, tNot_k, kTNot_k, tYes_k, eC_k, eVar_k, kVar_k, eU1_k, kU1_k, eB2_k, kB2_k, kB2'_k, eCN_k, kCN_k, aNil_k, aCons_k, kAc_k, kAc2_k, hNew_k, kNew_0, kNew_1, kNew_4, eAnd_k, kAnd_t, kAnd_f, eOr_k, kOr_t, kOr_f, eNot_k, kNot_k, eIf_k, kIfE_t, kIfE_f, eChain_k, kCh1_k, kCh2_k, kCh3_t, kCh3_f, oNone_k, oSome_k, kOs_k, eSl_k, kSl1_k, kSl2_k, kSl3_k, eCall_k, kCall_1, kCall_2, kCall_3, kCall_4, eMeth_k, kMt2_1, kMt2_2, kMt2_3, eFrz_k, eGet_k, view_int', view_str', view_bl', view_non', view_con', addD_int, subD_int, negD_int, gtD_int, ltD_int, geD_int, leD_int, eqD_int, neD_int, eqD_str, neD_str, eqD_bl, isD_non, isntD_non, intC_int, min2_int, conD_0, conD_1, conD_2, conD_3, truD_bl, truD_lst, truD_tup, tupD_lst, lenD_lst, lenD_tup, lenD_scr, ixD_lst, ixD_tup, ixD_scr, startR, List.map_cons, List.map_nil, List.length_cons, List.length_nil, List.cons_append, List.nil_append, List.replicate, List.getElem?_cons_zero, List.getElem?_cons_succ, List.set_cons_zero, List.set_cons_succ, Nat.reduceAdd, Nat.reduceSub, Nat.zero_add, Bool.not_true, Bool.not_false, bits_ok hb]
end
end
end K18

namespace K18
open PySem PySem.Spec L2 MP
noncomputable section
section
variable {μ : Mu} {p o w : Nat} {B : List Bits} {vs : List D}
/-- the blocks behind a merging -/
def merge (B : List Bits) (b : Bits) : List Bits := ((B.filter fun a => decide (a ≠ b ++ [false])).filter fun a => decide (a ≠ b ++ [true])) ++ [b]
def mergeV (B : List Bits) (vs : List D) (b : Bits) (d : D) : List D := dropDs ((B.filter fun a => decide (a ≠ b ++ [false])).map kS) (dropDs (B.map kS) vs (kS (b ++ [false]))) (kS (b ++ [true])) ++ [d]
theorem merge_ok (h : PoolAt μ p o w B vs) (hne : p ≠ o) {b : Bits} (hlt : b.length < w) (hn : b ∉ B) {i : Int} (h0 : findD (B.map kS) vs (kS (b ++ [false])) = some (.int i)) (h1 : findD (B.map kS) vs (kS (b ++ [true])) = some (.int i)) :
    callF s_Pool_merge_block [.ptr p, .str (S b)] μ = .ok .non (μ.set o (.lv false (.dK ((merge B b).map kS)) (mergeV B vs b (.int i)))) := by
  have hw := h.hw
  have a0 : ∀ μ' : Mu, addD μ' (.str (S b)) (.str "0") = some (.str (S (b ++ [false]))) := fun _ => by rw [S_zero]; exact addD_S (by simp; omega)
  have a1 : ∀ μ' : Mu, addD μ' (.str (S b)) (.str "1") = some (.str (S (b ++ [true]))) := fun _ => by rw [S_one]; exact addD_S (by simp; omega)
  have ne : b ++ [true] ≠ b ++ [false] := by simp
  have ld := dropDs_len B vs (b ++ [false]) h.hl
  have f1 := find_drop (p := b ++ [true]) (q := b ++ [false]) h.hl ne
  rw [h1] at f1
  have fl : (B.filter fun a => decide (a ≠ b ++ [false])).length ≤ B.length := List.length_filter_le _ _
  have nC : b ∉ (B.filter fun a => decide (a ≠ b ++ [false])).filter fun a => decide (a ≠ b ++ [true]) := fun z => hn (List.mem_filter.mp (List.mem_filter.mp z).1).1
  generalize hC : (B.filter fun a => decide (a ≠ b ++ [false])) = C at ld f1 fl nC
  generalize hw0 : dropDs (B.map kS) vs (kS (b ++ [false])) = ws at ld f1
  have ld2 := dropDs_len C ws (b ++ [true]) ld
  have fl2 : (C.filter fun a => decide (a ≠ b ++ [true])).length ≤ C.length := List.length_filter_le _ _
  have hB := h.hB
  have fo : ∀ ob : Ob, fldD "owners" ["Pool"] (μ.set o ob) (.ptr p) = some (.ptr o) := fun ob => by
    refine (fldD_ptr (view_ptr (lk := false) (c := .ins "Pool" ["width", "owners"]) (l := [.int (w : Int), .ptr o]) ?_) (by decide)).trans (by rfl)
    rw [List.getElem?_set_ne fun z => hne z.symm]
    exact h.hp
  have g0 : ∀ x2 x3 : Option D, eGet (eU1 (fldD "owners" ["Pool"]) (eVar 0)) (eB2 addD (eVar 1) (eC (.str "0"))) (eC .non) [some (.ptr p), some (.str (S b)), x2, x3] μ = .ok (.int i) μ := fun x2 x3 => by
    rw [get_k (k := o) (u := .non) (kd := .str (S (b ++ [false]))) (by simp only [R.bind_ok, bind_exc, lift_some, defM_k, kDef_nx, kDef_rt, sSeq_k, kSeq_nx, kSeq_rt, kSeq_bk, kSeq_ct, sRet_k, kRet_k, sDrop_k, kDrop_k, sIf_k, kIf_t, kIf_f, sSet_k, kSet_k, sNext_k, sBreak_k, sCont_k, sAsg_k, kAsg_k, kAsg2_k, gSet_k, gItem_k, kGi1_k, kGi2_k, kGi3_k, gsCons_k, kGs_k, gsNil_k, gTup2, gTup3, sPar_k, kPar_k, sPar3_k, kPar3_k, sFldSet_k, kFs1_k, kFs2_k, kFs3_k, sRaise_k, kRaise_k, tst_k, kTst_k, tBl_k, kTBl_k, tAnd_k, kTAnd_t, kTAnd_f, tOr_k, kTOr_t, kTOr_f, tNot_k, kTNot_k, tYes_k, eC_k, eVar_k, kVar_k, eU1_k, kU1_k, eB2_k, kB2_k, kB2'_k, eCN_k, kCN_k, aNil_k, aCons_k, kAc_k, kAc2_k, hNew_k, kNew_0, kNew_1, kNew_4, eAnd_k, kAnd_t, kAnd_f, eOr_k, kOr_t, kOr_f, eNot_k, kNot_k, eIf_k, kIfE_t, kIfE_f, eChain_k, kCh1_k, kCh2_k, kCh3_t, kCh3_f, oNone_k, oSome_k, kOs_k, eSl_k, kSl1_k, kSl2_k, kSl3_k, eCall_k, kCall_1, kCall_2, kCall_3, kCall_4, eMeth_k, kMt2_1, kMt2_2, kMt2_3, eFrz_k, view_int', view_str', view_bl', view_non', view_con', addD_int, subD_int, negD_int, gtD_int, ltD_int, geD_int, leD_int, eqD_int, neD_int, eqD_str, neD_str, eqD_bl, isD_non, isntD_non, intC_int, min2_int, conD_0, conD_1, conD_2, conD_3, truD_bl, truD_lst, truD_tup, tupD_lst, lenD_lst, lenD_tup, lenD_scr, ixD_lst, ixD_tup, ixD_scr, startR, List.map_cons, List.map_nil, List.length_cons, List.length_nil, List.cons_append, List.nil_append, List.replicate, List.getElem?_cons_zero, List.getElem?_cons_succ, List.set_cons_zero, List.set_cons_succ, Nat.reduceAdd, Nat.reduceSub, Nat.zero_add, Bool.not_true, Bool.not_false, h.owners]) h.ho (by simp only [R.bind_ok, bind_exc, lift_some, defM_k, kDef_nx, kDef_rt, sSeq_k, kSeq_nx, kSeq_rt, kSeq_bk, kSeq_ct, sRet_k, kRet_k, sDrop_k, kDrop_k, sIf_k, kIf_t, kIf_f, sSet_k, kSet_k, sNext_k, sBreak_k, sCont_k, sAsg_k, kAsg_k, kAsg2_k, gSet_k, gItem_k, kGi1_k, kGi2_k, kGi3_k, gsCons_k, kGs_k, gsNil_k, gTup2, gTup3, sPar_k, kPar_k, sPar3_k, kPar3_k, sFldSet_k, kFs1_k, kFs2_k, kFs3_k, sRaise_k, kRaise_k, tst_k, kTst_k, tBl_k, kTBl_k, tAnd_k, kTAnd_t, kTAnd_f, tOr_k, kTOr_t, kTOr_f, tNot_k, kTNot_k, tYes_k, eC_k, eVar_k, kVar_k, eU1_k, kU1_k, eB2_k, kB2_k, kB2'_k, eCN_k, kCN_k, aNil_k, aCons_k, kAc_k, kAc2_k, hNew_k, kNew_0, kNew_1, kNew_4, eAnd_k, kAnd_t, kAnd_f, eOr_k, kOr_t, kOr_f, eNot_k, kNot_k, eIf_k, kIfE_t, kIfE_f, eChain_k, kCh1_k, kCh2_k, kCh3_t, kCh3_f, oNone_k, oSome_k, kOs_k, eSl_k, kSl1_k, kSl2_k, kSl3_k, eCall_k, kCall_1, kCall_2, kCall_3, kCall_4, eMeth_k, kMt2_1, kMt2_2, kMt2_3, eFrz_k, view_int', view_str', view_bl', view_non', view_con', addD_int, subD_int, negD_int, gtD_int, ltD_int, geD_int, leD_int, eqD_int, neD_int, eqD_str, neD_str, eqD_bl, isD_non, isntD_non, intC_int, min2_int, conD_0, conD_1, conD_2, conD_3, truD_bl, truD_lst, truD_tup, tupD_lst, lenD_lst, lenD_tup, lenD_scr, ixD_lst, ixD_tup, ixD_scr, startR, List.map_cons, List.map_nil, List.length_cons, List.length_nil, List.cons_append, List.nil_append, List.replicate, List.getElem?_cons_zero, List.getElem?_cons_succ, List.set_cons_zero, List.set_cons_succ, Nat.reduceAdd, Nat.reduceSub, Nat.zero_add, Bool.not_true, Bool.not_false, a0]) (keyD_S _) (by simp only [R.bind_ok, bind_exc, lift_some, defM_k, kDef_nx, kDef_rt, sSeq_k, kSeq_nx, kSeq_rt, kSeq_bk, kSeq_ct, sRet_k, kRet_k, sDrop_k, kDrop_k, sIf_k, kIf_t, kIf_f, sSet_k, kSet_k, sNext_k, sBreak_k, sCont_k, sAsg_k, kAsg_k, kAsg2_k, gSet_k, gItem_k, kGi1_k, kGi2_k, kGi3_k, gsCons_k, kGs_k, gsNil_k, gTup2, gTup3, sPar_k, kPar_k, sPar3_k, kPar3_k, sFldSet_k, kFs1_k, kFs2_k, kFs3_k, sRaise_k, kRaise_k, tst_k, kTst_k, tBl_k, kTBl_k, tAnd_k, kTAnd_t, kTAnd_f, tOr_k, kTOr_t, kTOr_f, tNot_k, kTNot_k, tYes_k, eC_k, eVar_k, kVar_k, eU1_k, kU1_k, eB2_k, kB2_k, kB2'_k, eCN_k, kCN_k, aNil_k, aCons_k, kAc_k, kAc2_k, hNew_k, kNew_0, kNew_1, kNew_4, eAnd_k, kAnd_t, kAnd_f, eOr_k, kOr_t, kOr_f, eNot_k, kNot_k, eIf_k, kIfE_t, kIfE_f, eChain_k, kCh1_k, kCh2_k, kCh3_t, kCh3_f, oNone_k, oSome_k, kOs_k, eSl_k, kSl1_k, kSl2_k, kSl3_k, eCall_k, kCall_1, kCall_2, kCall_3, kCall_4, eMeth_k, kMt2_1, kMt2_2, kMt2_3, eFrz_k, view_int', view_str', view_bl', view_non', view_con', addD_int, subD_int, negD_int, gtD_int, ltD_int, geD_int, leD_int, eqD_int, neD_int, eqD_str, neD_str, eqD_bl, isD_non, isntD_non, intC_int, min2_int, conD_0, conD_1, conD_2, conD_3, truD_bl, truD_lst, truD_tup, tupD_lst, lenD_lst, lenD_tup, lenD_scr, ixD_lst, ixD_tup, ixD_scr, startR, List.map_cons, List.map_nil, List.length_cons, List.length_nil, List.cons_append, List.nil_append, List.replicate, List.getElem?_cons_zero, List.getElem?_cons_succ, List.set_cons_zero, List.set_cons_succ, Nat.reduceAdd, Nat.reduceSub, Nat.zero_add, Bool.not_true, Bool.not_false]), h0]
    rfl
  have g1 : ∀ x2 x3 : Option D, eGet (eU1 (fldD "owners" ["Pool"]) (eVar 0)) (eB2 addD (eVar 1) (eC (.str "1"))) (eC .non) [some (.ptr p), some (.str (S b)), x2, x3] μ = .ok (.int i) μ := fun x2 x3 => by
    rw [get_k (k := o) (u := .non) (kd := .str (S (b ++ [true]))) (by simp only [R.bind_ok, bind_exc, lift_some, defM_k, kDef_nx, kDef_rt, sSeq_k, kSeq_nx, kSeq_rt, kSeq_bk, kSeq_ct, sRet_k, kRet_k, sDrop_k, kDrop_k, sIf_k, kIf_t, kIf_f, sSet_k, kSet_k, sNext_k, sBreak_k, sCont_k, sAsg_k, kAsg_k, kAsg2_k, gSet_k, gItem_k, kGi1_k, kGi2_k, kGi3_k, gsCons_k, kGs_k, gsNil_k, gTup2, gTup3, sPar_k, kPar_k, sPar3_k, kPar3_k, sFldSet_k, kFs1_k, kFs2_k, kFs3_k, sRaise_k, kRaise_k, tst_k, kTst_k, tBl_k, kTBl_k, tAnd_k, kTAnd_t, kTAnd_f, tOr_k, kTOr_t, kTOr_f, tNot_k, kTNot_k, tYes_k, eC_k, eVar_k, kVar_k, eU1_k, kU1_k, eB2_k, kB2_k, kB2'_k, eCN_k, kCN_k, aNil_k, aCons_k, kAc_k, kAc2_k, hNew_k, kNew_0, kNew_1, kNew_4, eAnd_k, kAnd_t, kAnd_f, eOr_k, kOr_t, kOr_f, eNot_k, kNot_k, eIf_k, kIfE_t, kIfE_f, eChain_k, kCh1_k, kCh2_k, kCh3_t, kCh3_f, oNone_k, oSome_k, kOs_k, eSl_k, kSl1_k, kSl2_k, kSl3_k, eCall_k, kCall_1, kCall_2, kCall_3, kCall_4, eMeth_k, kMt2_1, kMt2_2, kMt2_3, eFrz_k, view_int', view_str', view_bl', view_non', view_con', addD_int, subD_int, negD_int, gtD_int, ltD_int, geD_int, leD_int, eqD_int, neD_int, eqD_str, neD_str, eqD_bl, isD_non, isntD_non, intC_int, min2_int, conD_0, conD_1, conD_2, conD_3, truD_bl, truD_lst, truD_tup, tupD_lst, lenD_lst, lenD_tup, lenD_scr, ixD_lst, ixD_tup, ixD_scr, startR, List.map_cons, List.map_nil, List.length_cons, List.length_nil, List.cons_append, List.nil_append, List.replicate, List.getElem?_cons_zero, List.getElem?_cons_succ, List.set_cons_zero, List.set_cons_succ, Nat.reduceAdd, Nat.reduceSub, Nat.zero_add, Bool.not_true, Bool.not_false, h.owners]) h.ho (by simp only [R.bind_ok, bind_exc, lift_some, defM_k, kDef_nx, kDef_rt, sSeq_k, kSeq_nx, kSeq_rt, kSeq_bk, kSeq_ct, sRet_k, kRet_k, sDrop_k, kDrop_k, sIf_k, kIf_t, kIf_f, sSet_k, kSet_k, sNext_k, sBreak_k, sCont_k, sAsg_k, kAsg_k, kAsg2_k, gSet_k, gItem_k, kGi1_k, kGi2_k, kGi3_k, gsCons_k, kGs_k, gsNil_k, gTup2, gTup3, sPar_k, kPar_k, sPar3_k, kPar3_k, sFldSet_k, kFs1_k, kFs2_k, kFs3_k, sRaise_k, kRaise_k, tst_k, kTst_k, tBl_k, kTBl_k, tAnd_k, kTAnd_t, kTAnd_f, tOr_k, kTOr_t, kTOr_f, tNot_k, kTNot_k, tYes_k, eC_k, eVar_k, kVar_k, eU1_k, kU1_k, eB2_k, kB2_k, kB2'_k, eCN_k, kCN_k, aNil_k, aCons_k, kAc_k, kAc2_k, hNew_k, kNew_0, kNew_1, kNew_4, eAnd_k, kAnd_t, kAnd_f, eOr_k, kOr_t, kOr_f, eNot_k, kNot_k, eIf_k, kIfE_t, kIfE_f, eChain_k, kCh1_k, kCh2_k, kCh3_t, kCh3_f, oNone_k, oSome_k, kOs_k, eSl_k, kSl1_k, kSl2_k, kSl3_k, eCall_k, kCall_1, kCall_2, kCall_3, kCall_4, eMeth_k, kMt2_1, kMt2_2, kMt2_3, eFrz_k, view_int', view_str', view_bl', view_non', view_con', addD_int, subD_int, negD_int, gtD_int, ltD_int, geD_int, leD_int, eqD_int, neD_int, eqD_str, neD_str, eqD_bl, isD_non, isntD_non, intC_int, min2_int, conD_0, conD_1, conD_2, conD_3, truD_bl, truD_lst, truD_tup, tupD_lst, lenD_lst, lenD_tup, lenD_scr, ixD_lst, ixD_tup, ixD_scr, startR, List.map_cons, List.map_nil, List.length_cons, List.length_nil, List.cons_append, List.nil_append, List.replicate, List.getElem?_cons_zero, List.getElem?_cons_succ, List.set_cons_zero, List.set_cons_succ, Nat.reduceAdd, Nat.reduceSub, Nat.zero_add, Bool.not_true, Bool.not_false, a1]) (keyD_S _) (by simp only [R.bind_ok, bind_exc, lift_some, defM_k, kDef_nx, kDef_rt, sSeq_k, kSeq_nx, kSeq_rt, kSeq_bk, kSeq_ct, sRet_k, kRet_k, sDrop_k, kDrop_k, sIf_k, kIf_t, kIf_f, sSet_k, kSet_k, sNext_k, sBreak_k, sCont_k, sAsg_k, kAsg_k, kAsg2_k, gSet_k, gItem_k, kGi1_k, kGi2_k, kGi3_k, gsCons_k, kGs_k, gsNil_k, gTup2, gTup3, sPar_k, kPar_k, sPar3_k, kPar3_k, sFldSet_k, kFs1_k, kFs2_k, kFs3_k, sRaise_k, kRaise_k, tst_k, kTst_k, tBl_k, kTBl_k, tAnd_k, kTAnd_t, kTAnd_f, tOr_k, kTOr_t, kTOr_f, tNot_k, kTNot_k, tYes_k, eC_k, eVar_k, kVar_k, eU1_k, kU1_k, eB2_k, kB2_k, kB2'_k, eCN_k, kCN_k, aNil_k, aCons_k, kAc_k, kAc2_k, hNew_k, kNew_0, kNew_1, kNew_4, eAnd_k, kAnd_t, kAnd_f, eOr_k, kOr_t, kOr_f, eNot_k, kNot_k, eIf_k, kIfE_t, kIfE_f, eChain_k, kCh1_k, kCh2_k, kCh3_t, kCh3_f, oNone_k, oSome_k, kOs_k, eSl_k, kSl1_k, kSl2_k, kSl3_k, eCall_k, kCall_1, kCall_2, kCall_3, kCall_4, eMeth_k, kMt2_1, kMt2_2, kMt2_3, eFrz_k, view_int', view_str', view_bl', view_non', view_con', addD_int, subD_int, negD_int, gtD_int, ltD_int, geD_int, leD_int, eqD_int, neD_int, eqD_str, neD_str, eqD_bl, isD_non, isntD_non, intC_int, min2_int, conD_0, conD_1, conD_2, conD_3, truD_bl, truD_lst, truD_tup, tupD_lst, lenD_lst, lenD_tup, lenD_scr, ixD_lst, ixD_tup, ixD_scr, startR, List.map_cons, List.map_nil, List.length_cons, List.length_nil, List.cons_append, List.nil_append, List.replicate, List.getElem?_cons_zero, List.getElem?_cons_succ, List.set_cons_zero, List.set_cons_succ, Nat.reduceAdd, Nat.reduceSub, Nat.zero_add, Bool.not_true, Bool.not_false]), h1]
    rfl
  have p0 : eDPop (eU1 (fldD "owners" ["Pool"]) (eVar 0)) (eB2 addD (eVar 1) (eC (.str "0"))) [some (.ptr p), some (.str (S b)), some (.int i), some (.int i)] μ = .ok (.int i) (μ.set o (.lv false (.dK (C.map kS)) ws)) := by
    rw [dpop_k (k := o) (kd := .str (S (b ++ [false]))) (by simp only [R.bind_ok, bind_exc, lift_some, defM_k, kDef_nx, kDef_rt, sSeq_k, kSeq_nx, kSeq_rt, kSeq_bk, kSeq_ct, sRet_k, kRet_k, sDrop_k, kDrop_k, sIf_k, kIf_t, kIf_f, sSet_k, kSet_k, sNext_k, sBreak_k, sCont_k, sAsg_k, kAsg_k, kAsg2_k, gSet_k, gItem_k, kGi1_k, kGi2_k, kGi3_k, gsCons_k, kGs_k, gsNil_k, gTup2, gTup3, sPar_k, kPar_k, sPar3_k, kPar3_k, sFldSet_k, kFs1_k, kFs2_k, kFs3_k, sRaise_k, kRaise_k, tst_k, kTst_k, tBl_k, kTBl_k, tAnd_k, kTAnd_t, kTAnd_f, tOr_k, kTOr_t, kTOr_f, tNot_k, kTNot_k, tYes_k, eC_k, eVar_k, kVar_k, eU1_k, kU1_k, eB2_k, kB2_k, kB2'_k, eCN_k, kCN_k, aNil_k, aCons_k, kAc_k, kAc2_k, hNew_k, kNew_0, kNew_1, kNew_4, eAnd_k, kAnd_t, kAnd_f, eOr_k, kOr_t, kOr_f, eNot_k, kNot_k, eIf_k, kIfE_t, kIfE_f, eChain_k, kCh1_k, kCh2_k, kCh3_t, kCh3_f, oNone_k, oSome_k, kOs_k, eSl_k, kSl1_k, kSl2_k, kSl3_k, eCall_k, kCall_1, kCall_2, kCall_3, kCall_4, eMeth_k, kMt2_1, kMt2_2, kMt2_3, eFrz_k, view_int', view_str', view_bl', view_non', view_con', addD_int, subD_int, negD_int, gtD_int, ltD_int, geD_int, leD_int, eqD_int, neD_int, eqD_str, neD_str, eqD_bl, isD_non, isntD_non, intC_int, min2_int, conD_0, conD_1, conD_2, conD_3, truD_bl, truD_lst, truD_tup, tupD_lst, lenD_lst, lenD_tup, lenD_scr, ixD_lst, ixD_tup, ixD_scr, startR, List.map_cons, List.map_nil, List.length_cons, List.length_nil, List.cons_append, List.nil_append, List.replicate, List.getElem?_cons_zero, List.getElem?_cons_succ, List.set_cons_zero, List.set_cons_succ, Nat.reduceAdd, Nat.reduceSub, Nat.zero_add, Bool.not_true, Bool.not_false, h.owners]) h.ho (by simp only [R.bind_ok, bind_exc, lift_some, defM_k, kDef_nx, kDef_rt, sSeq_k, kSeq_nx, kSeq_rt, kSeq_bk, kSeq_ct, sRet_k, kRet_k, sDrop_k, kDrop_k, sIf_k, kIf_t, kIf_f, sSet_k, kSet_k, sNext_k, sBreak_k, sCont_k, sAsg_k, kAsg_k, kAsg2_k, gSet_k, gItem_k, kGi1_k, kGi2_k, kGi3_k, gsCons_k, kGs_k, gsNil_k, gTup2, gTup3, sPar_k, kPar_k, sPar3_k, kPar3_k, sFldSet_k, kFs1_k, kFs2_k, kFs3_k, sRaise_k, kRaise_k, tst_k, kTst_k, tBl_k, kTBl_k, tAnd_k, kTAnd_t, kTAnd_f, tOr_k, kTOr_t, kTOr_f, tNot_k, kTNot_k, tYes_k, eC_k, eVar_k, kVar_k, eU1_k, kU1_k, eB2_k, kB2_k, kB2'_k, eCN_k, kCN_k, aNil_k, aCons_k, kAc_k, kAc2_k, hNew_k, kNew_0, kNew_1, kNew_4, eAnd_k, kAnd_t, kAnd_f, eOr_k, kOr_t, kOr_f, eNot_k, kNot_k, eIf_k, kIfE_t, kIfE_f, eChain_k, kCh1_k, kCh2_k, kCh3_t, kCh3_f, oNone_k, oSome_k, kOs_k, eSl_k, kSl1_k, kSl2_k, kSl3_k, eCall_k, kCall_1, kCall_2, kCall_3, kCall_4, eMeth_k, kMt2_1, kMt2_2, kMt2_3, eFrz_k, view_int', view_str', view_bl', view_non', view_con', addD_int, subD_int, negD_int, gtD_int, ltD_int, geD_int, leD_int, eqD_int, neD_int, eqD_str, neD_str, eqD_bl, isD_non, isntD_non, intC_int, min2_int, conD_0, conD_1, conD_2, conD_3, truD_bl, truD_lst, truD_tup, tupD_lst, lenD_lst, lenD_tup, lenD_scr, ixD_lst, ixD_tup, ixD_scr, startR, List.map_cons, List.map_nil, List.length_cons, List.length_nil, List.cons_append, List.nil_append, List.replicate, List.getElem?_cons_zero, List.getElem?_cons_succ, List.set_cons_zero, List.set_cons_succ, Nat.reduceAdd, Nat.reduceSub, Nat.zero_add, Bool.not_true, Bool.not_false, a0]) (keyD_S _) h0, dropKs_S, hC, hw0]
  have s1 := set_get (ob' := Ob.lv false (.dK (C.map kS)) ws) h.ho
  have p1 : eDPop (eU1 (fldD "owners" ["Pool"]) (eVar 0)) (eB2 addD (eVar 1) (eC (.str "1"))) [some (.ptr p), some (.str (S b)), some (.int i), some (.int i)] (μ.set o (.lv false (.dK (C.map kS)) ws)) =
      .ok (.int i) (μ.set o (.lv false (.dK ((C.filter fun a => decide (a ≠ b ++ [true])).map kS)) (dropDs (C.map kS) ws (kS (b ++ [true]))))) := by
    rw [dpop_k (k := o) (kd := .str (S (b ++ [true]))) (by simp only [R.bind_ok, bind_exc, lift_some, defM_k, kDef_nx, kDef_rt, sSeq_k, kSeq_nx, kSeq_rt, kSeq_bk, kSeq_ct, sRet_k, kRet_k, sDrop_k, kDrop_k, sIf_k, kIf_t, kIf_f, sSet_k, kSet_k, sNext_k, sBreak_k, sCont_k, sAsg_k, kAsg_k, kAsg2_k, gSet_k, gItem_k, kGi1_k, kGi2_k, kGi3_k, gsCons_k, kGs_k, gsNil_k, gTup2, gTup3, sPar_k, kPar_k, sPar3_k, kPar3_k, sFldSet_k, kFs1_k, kFs2_k, kFs3_k, sRaise_k, kRaise_k, tst_k, kTst_k, tBl_k, kTBl_k, tAnd_k, kTAnd_t, kTAnd_f, tOr_k, kTOr_t, kTOr_f, tNot_k, kTNot_k, tYes_k, eC_k, eVar_k, kVar_k, eU1_k, kU1_k, eB2_k, kB2_k, kB2'_k, eCN_k, kCN_k, aNil_k, aCons_k, kAc_k, kAc2_k, hNew_k, kNew_0, kNew_1, kNew_4, eAnd_k, kAnd_t, kAnd_f, eOr_k, kOr_t, kOr_f, eNot_k, kNot_k, eIf_k, kIfE_t, kIfE_f, eChain_k, kCh1_k, kCh2_k, kCh3_t, kCh3_f, oNone_k, oSome_k, kOs_k, eSl_k, kSl1_k, kSl2_k, kSl3_k, eCall_k, kCall_1, kCall_2, kCall_3, kCall_4, eMeth_k, kMt2_1, kMt2_2, kMt2_3, eFrz_k, view_int', view_str', view_bl', view_non', view_con', addD_int, subD_int, negD_int, gtD_int, ltD_int, geD_int, leD_int, eqD_int, neD_int, eqD_str, neD_str, eqD_bl, isD_non, isntD_non, intC_int, min2_int, conD_0, conD_1, conD_2, conD_3, truD_bl, truD_lst, truD_tup, tupD_lst, lenD_lst, lenD_tup, lenD_scr, ixD_lst, ixD_tup, ixD_scr, startR, List.map_cons, List.map_nil, List.length_cons, List.length_nil, List.cons_append, List.nil_append, List.replicate, List.getElem?_cons_zero, List.getElem?_cons_succ, List.set_cons_zero, List.set_cons_succ, Nat.reduceAdd, Nat.reduceSub, Nat.zero_add, Bool.not_true, Bool.not_false, fo]) s1 (by simp only [R.bind_ok, bind_exc, lift_some, defM_k, kDef_nx, kDef_rt, sSeq_k, kSeq_nx, kSeq_rt, kSeq_bk, kSeq_ct, sRet_k, kRet_k, sDrop_k, kDrop_k, sIf_k, kIf_t, kIf_f, sSet_k, kSet_k, sNext_k, sBreak_k, sCont_k, sAsg_k, kAsg_k, kAsg2_k, gSet_k, gItem_k, kGi1_k, kGi2_k, kGi3_k, gsCons_k, kGs_k, gsNil_k, gTup2, gTup3, sPar_k, kPar_k, sPar3_k, kPar3_k, sFldSet_k, kFs1_k, kFs2_k, kFs3_k, sRaise_k, kRaise_k, tst_k, kTst_k, tBl_k, kTBl_k, tAnd_k, kTAnd_t, kTAnd_f, tOr_k, kTOr_t, kTOr_f, tNot_k, kTNot_k, tYes_k, eC_k, eVar_k, kVar_k, eU1_k, kU1_k, eB2_k, kB2_k, kB2'_k, eCN_k, kCN_k, aNil_k, aCons_k, kAc_k, kAc2_k, hNew_k, kNew_0, kNew_1, kNew_4, eAnd_k, kAnd_t, kAnd_f, eOr_k, kOr_t, kOr_f, eNot_k, kNot_k, eIf_k, kIfE_t, kIfE_f, eChain_k, kCh1_k, kCh2_k, kCh3_t, kCh3_f, oNone_k, oSome_k, kOs_k, eSl_k, kSl1_k, kSl2_k, kSl3_k, eCall_k, kCall_1, kCall_2, kCall_3, kCall_4, eMeth_k, kMt2_1, kMt2_2, kMt2_3, eFrz_k, view_int', view_str', view_bl', view_non', view_con', addD_int, subD_int, negD_int, gtD_int, ltD_int, geD_int, leD_int, eqD_int, neD_int, eqD_str, neD_str, eqD_bl, isD_non, isntD_non, intC_int, min2_int, conD_0, conD_1, conD_2, conD_3, truD_bl, truD_lst, truD_tup, tupD_lst, lenD_lst, lenD_tup, lenD_scr, ixD_lst, ixD_tup, ixD_scr, startR, List.map_cons, List.map_nil, List.length_cons, List.length_nil, List.cons_append, List.nil_append, List.replicate, List.getElem?_cons_zero, List.getElem?_cons_succ, List.set_cons_zero, List.set_cons_succ, Nat.reduceAdd, Nat.reduceSub, Nat.zero_add, Bool.not_true, Bool.not_false, a1]) (keyD_S _) f1, dropKs_S, List.set_set]
  have s2 := set_get (ob' := Ob.lv false (.dK ((C.filter fun a => decide (a ≠ b ++ [true])).map kS)) (dropDs (C.map kS) ws (kS (b ++ [true])))) h.ho
  have e2 : setItemD (μ.set o (.lv false (.dK ((C.filter fun a => decide (a ≠ b ++ [true])).map kS)) (dropDs (C.map kS) ws (kS (b ++ [true]))))) (.ptr o) (.str (S b)) (.int i) =
      some (μ.set o (.lv false (.dK (((C.filter fun a => decide (a ≠ b ++ [true])) ++ [b]).map kS)) (dropDs (C.map kS) ws (kS (b ++ [true])) ++ [.int i]))) := by
    rw [setItem_dct s2 (keyD_S _) (by omega), putKs_new nC, putDs_new nC, List.set_set]
  unfold merge mergeV
  rw [hC, hw0]
  refine call_ok ?_ (by simp)
  have hb64 : decide ((b.length : Int) ≤ 64) = true := decide_eq_true (by omega)
  unfold s_Pool_merge_block
  simp only [R.bind_ok, bind_exc, lift_some, defM_k, kDef_nx, kDef_rt, sSeq_k, kSeq_nx, kSeq_rt, kSeq_bk, kSeq_ct, sRet_k, kRet_k, sDrop_k, kDrop_k, sIf_k, kIf_t, kIf_f, sSet_k, kSet_k, sNext_k, sBreak_k, sCont_k, sAsg_k, kAsg_k, kAsg2_k, gSet_k, gItem_k, kGi1_k, kGi2_k, kGi3_k, gsCons_k, kGs_k, gsNil_k, gTup2, gTup3, sPar_k, kPar_k, sPar3_k, kPar3_k, sFldSet_k, kFs1_k, kFs2_k, kFs3_k, sRaise_k, kRaise_k, tst_k, kTst_k, tBl_k, kTBl_k, tAnd_k, kTAnd_t, kTAnd_f, tOr_k, kTOr_t, kTOr_f, tNot_k, kTNot_k, tYes_k, eC_k, eVar_k, kVar_k, eU1_k, kU1_k, eB2_k, kB2_k, kB2'_k, eCN_k, kCN_k, aNil_k, aCons_k, kAc_k, kAc2_k, hNew_k, kNew_0, kNew_1, kNew_4, eAnd_k, kAnd_t, kAnd_f, eOr_k, kOr_t, kOr_f, eNot_k, kNot_k, eIf_k, kIfE_t, kIfE_f, eChain_k, kCh1_k, kCh2_k, kCh3_t, kCh3_f, oNone_k, oSome_k, kOs_k, eSl_k, kSl1_k, kSl2_k, kSl3_k, eCall_k, kCall_1, kCall_2, kCall_3, kCall_4, eMeth_k, kMt2_1, kMt2_2, kMt2_3, eFrz_k, view_int', view_str', view_bl', view_non', view_con', addD_int, subD_int, negD_int, gtD_int, ltD_int, geD_int, leD_int, eqD_int, neD_int, eqD_str, neD_str, eqD_bl, isD_non, isntD_non, intC_int, min2_int, conD_0, conD_1, conD_2, conD_3, truD_bl, truD_lst, truD_tup, tupD_lst, lenD_lst, lenD_tup, lenD_scr, ixD_lst, ixD_tup, ixD_scr, startR, List.map_cons, List.map_nil, List.length_cons, List.length_nil, List.cons_append, List.nil_append, List.replicate, List.getElem?_cons_zero, List.getElem?_cons_succ, List.set_cons_zero, List.set_cons_succ, Nat.reduceAdd, Nat.reduceSub, Nat.zero_add, Bool.not_true, Bool.not_false, prefix_ok (show b.length ≤ 1000000 by omega), hb64, g0, g1, isNonD, decide_true, p0, p1, fo, e2]
theorem free_blocks_ok (h : PoolAt μ p o w B vs) : callF s_free_blocks [.ptr p] μ = .ok (.con .tup (txs (freeL B 70 []))) μ := by
  have np : callF s_need_pool [.ptr p] μ = .ok .non μ := by
    refine call_ok ?_ rfl
    have i1 : isiD ["Pool"] (.own "Pool") μ (.ptr p) = some (.bl true) := by
      unfold isiD tyD
      rw [view_ptr h.hp]
      rfl
    unfold s_need_pool
    simp only [R.bind_ok, bind_exc, lift_some, defM_k, kDef_nx, kDef_rt, sSeq_k, kSeq_nx, kSeq_rt, kSeq_bk, kSeq_ct, sRet_k, kRet_k, sDrop_k, kDrop_k, sIf_k, kIf_t, kIf_f, sSet_k, kSet_k, sNext_k, sBreak_k, sCont_k, sAsg_k, kAsg_k, kAsg2_k, gSet_k, gItem_k, kGi1_k, kGi2_k, kGi3_k, gsCons_k, kGs_k, gsNil_k, gTup2, gTup3, sPar_k, kPar_k, sPar3_k, kPar3_k, sFldSet_k, kFs1_k, kFs2_k, kFs3_k, sRaise_k, kRaise_k, tst_k, kTst_k, tBl_k, kTBl_k, tAnd_k, kTAnd_t, kTAnd_f, tOr_k, kTOr_t, kTOr_f, tNot_k, kTNot_k, tYes_k, eC_k, eVar_k, kVar_k, eU1_k, kU1_k, eB2_k, kB2_k, kB2'_k, eCN_k, kCN_k, aNil_k, aCons_k, kAc_k, kAc2_k, hNew_k, kNew_0, kNew_1, kNew_4, eAnd_k, kAnd_t, kAnd_f, eOr_k, kOr_t, kOr_f, eNot_k, kNot_k, eIf_k, kIfE_t, kIfE_f, eChain_k, kCh1_k, kCh2_k, kCh3_t, kCh3_f, oNone_k, oSome_k, kOs_k, eSl_k, kSl1_k, kSl2_k, kSl3_k, eCall_k, kCall_1, kCall_2, kCall_3, kCall_4, eMeth_k, kMt2_1, kMt2_2, kMt2_3, eFrz_k, view_int', view_str', view_bl', view_non', view_con', addD_int, subD_int, negD_int, gtD_int, ltD_int, geD_int, leD_int, eqD_int, neD_int, eqD_str, neD_str, eqD_bl, isD_non, isntD_non, intC_int, min2_int, conD_0, conD_1, conD_2, conD_3, truD_bl, truD_lst, truD_tup, tupD_lst, lenD_lst, lenD_tup, lenD_scr, ixD_lst, ixD_tup, ixD_scr, startR, List.map_cons, List.map_nil, List.length_cons, List.length_nil, List.cons_append, List.nil_append, List.replicate, List.getElem?_cons_zero, List.getElem?_cons_succ, List.set_cons_zero, List.set_cons_succ, Nat.reduceAdd, Nat.reduceSub, Nat.zero_add, Bool.not_true, Bool.not_false, i1]
  refine call_ok ?_ rfl
  unfold s_free_blocks
  simp only [R.bind_ok, bind_exc, lift_some, defM_k, kDef_nx, kDef_rt, sSeq_k, kSeq_nx, kSeq_rt, kSeq_bk, kSeq_ct, sRet_k, kRet_k, sDrop_k, kDrop_k, sIf_k, kIf_t, kIf_f, sSet_k, kSet_k, sNext_k, sBreak_k, sCont_k, sAsg_k, kAsg_k, kAsg2_k, gSet_k, gItem_k, kGi1_k, kGi2_k, kGi3_k, gsCons_k, kGs_k, gsNil_k, gTup2, gTup3, sPar_k, kPar_k, sPar3_k, kPar3_k, sFldSet_k, kFs1_k, kFs2_k, kFs3_k, sRaise_k, kRaise_k, tst_k, kTst_k, tBl_k, kTBl_k, tAnd_k, kTAnd_t, kTAnd_f, tOr_k, kTOr_t, kTOr_f, tNot_k, kTNot_k, tYes_k, eC_k, eVar_k, kVar_k, eU1_k, kU1_k, eB2_k, kB2_k, kB2'_k, eCN_k, kCN_k, aNil_k, aCons_k, kAc_k, kAc2_k, hNew_k, kNew_0, kNew_1, kNew_4, eAnd_k, kAnd_t, kAnd_f, eOr_k, kOr_t, kOr_f, eNot_k, kNot_k, eIf_k, kIfE_t, kIfE_f, eChain_k, kCh1_k, kCh2_k, kCh3_t, kCh3_f, oNone_k, oSome_k, kOs_k, eSl_k, kSl1_k, kSl2_k, kSl3_k, eCall_k, kCall_1, kCall_2, kCall_3, kCall_4, eMeth_k, kMt2_1, kMt2_2, kMt2_3, eFrz_k, view_int', view_str', view_bl', view_non', view_con', addD_int, subD_int, negD_int, gtD_int, ltD_int, geD_int, leD_int, eqD_int, neD_int, eqD_str, neD_str, eqD_bl, isD_non, isntD_non, intC_int, min2_int, conD_0, conD_1, conD_2, conD_3, truD_bl, truD_lst, truD_tup, tupD_lst, lenD_lst, lenD_tup, lenD_scr, ixD_lst, ixD_tup, ixD_scr, startR, List.map_cons, List.map_nil, List.length_cons, List.length_nil, List.cons_append, List.nil_append, List.replicate, List.getElem?_cons_zero, List.getElem?_cons_succ, List.set_cons_zero, List.set_cons_succ, Nat.reduceAdd, Nat.reduceSub, Nat.zero_add, Bool.not_true, Bool.not_false, np, h.owners, h.free]
theorem sumD_ints {l : List Bits} (k : Bits → Int) : sumD μ [.con .lst (l.map fun x => .int (k x))] = some (.int (l.map k).sum) := by
  have : ∀ l : List Bits, intsD (l.map fun x => .int (k x)) = some (l.map k) := by
    intro l
    induction l with
    | nil => rfl
    | cons a l ih => simp only [List.map_cons, intsD, ih, Option.map_some]
  unfold sumD
  simp only [view_con', this, Option.map_some]
theorem shlD_1 {n : Nat} (h : n ≤ 1000) : shlD μ (.int 1) (.int (n : Int)) = some (.int ((2 ^ n : Nat) : Int)) := by
  unfold shlD intD powOk
  simp only [decide_eq_true_eq]
  rw [if_pos ⟨by omega, by omega, by decide⟩]
  simp
theorem wts_int (W : Nat) (l : List Bits) : (l.map fun x => ((wt W x : Nat) : Int)).sum = ((wts W l : Nat) : Int) := by
  unfold wts
  induction l with
  | nil => rfl
  | cons a l ih =>
    simp only [List.map_cons, List.sum_cons, ih]
    omega
theorem count_ok (h : PoolAt μ p o w B vs) : callF s_count_free [.ptr p] μ = .ok (.int ((wts w (freeL B 70 []) : Nat) : Int)) μ := by
  have np : callF s_need_pool [.ptr p] μ = .ok .non μ := by
    refine call_ok ?_ rfl
    have i1 : isiD ["Pool"] (.own "Pool") μ (.ptr p) = some (.bl true) := by
      unfold isiD tyD
      rw [view_ptr h.hp]
      rfl
    unfold s_need_pool
    simp only [R.bind_ok, bind_exc, lift_some, defM_k, kDef_nx, kDef_rt, sSeq_k, kSeq_nx, kSeq_rt, kSeq_bk, kSeq_ct, sRet_k, kRet_k, sDrop_k, kDrop_k, sIf_k, kIf_t, kIf_f, sSet_k, kSet_k, sNext_k, sBreak_k, sCont_k, sAsg_k, kAsg_k, kAsg2_k, gSet_k, gItem_k, kGi1_k, kGi2_k, kGi3_k, gsCons_k, kGs_k, gsNil_k, gTup2, gTup3, sPar_k, kPar_k, sPar3_k, kPar3_k, sFldSet_k, kFs1_k, kFs2_k, kFs3_k, sRaise_k, kRaise_k, tst_k, kTst_k, tBl_k, kTBl_k, tAnd_k, kTAnd_t, kTAnd_f, tOr_k, kTOr_t, kTOr_f, tNot_k, kTNot_k, tYes_k, eC_k, eVar_k, kVar_k, eU1_k, kU1_k, eB2_k, kB2_k, kB2'_k, eCN_k, kCN_k, aNil_k, aCons_k, kAc_k, kAc2_k, hNew_k, kNew_0, kNew_1, kNew_4, eAnd_k, kAnd_t, kAnd_f, eOr_k, kOr_t, kOr_f, eNot_k, kNot_k, eIf_k, kIfE_t, kIfE_f, eChain_k, kCh1_k, kCh2_k, kCh3_t, kCh3_f, oNone_k, oSome_k, kOs_k, eSl_k, kSl1_k, kSl2_k, kSl3_k, eCall_k, kCall_1, kCall_2, kCall_3, kCall_4, eMeth_k, kMt2_1, kMt2_2, kMt2_3, eFrz_k, view_int', view_str', view_bl', view_non', view_con', addD_int, subD_int, negD_int, gtD_int, ltD_int, geD_int, leD_int, eqD_int, neD_int, eqD_str, neD_str, eqD_bl, isD_non, isntD_non, intC_int, min2_int, conD_0, conD_1, conD_2, conD_3, truD_bl, truD_lst, truD_tup, tupD_lst, lenD_lst, lenD_tup, lenD_scr, ixD_lst, ixD_tup, ixD_scr, startR, List.map_cons, List.map_nil, List.length_cons, List.length_nil, List.cons_append, List.nil_append, List.replicate, List.getElem?_cons_zero, List.getElem?_cons_succ, List.set_cons_zero, List.set_cons_succ, Nat.reduceAdd, Nat.reduceSub, Nat.zero_add, Bool.not_true, Bool.not_false, i1]
  have hi : iSeq (eCall s_free_of 1 (aCons (eU1 (fldD "owners" ["Pool"]) (eVar 0)) aNil)) [some (.ptr p), none] μ = .ok (fun _ => some (txs (freeL B 70 []))) μ :=
    iSeq_l (by simp only [R.bind_ok, bind_exc, lift_some, defM_k, kDef_nx, kDef_rt, sSeq_k, kSeq_nx, kSeq_rt, kSeq_bk, kSeq_ct, sRet_k, kRet_k, sDrop_k, kDrop_k, sIf_k, kIf_t, kIf_f, sSet_k, kSet_k, sNext_k, sBreak_k, sCont_k, sAsg_k, kAsg_k, kAsg2_k, gSet_k, gItem_k, kGi1_k, kGi2_k, kGi3_k, gsCons_k, kGs_k, gsNil_k, gTup2, gTup3, sPar_k, kPar_k, sPar3_k, kPar3_k, sFldSet_k, kFs1_k, kFs2_k, kFs3_k, sRaise_k, kRaise_k, tst_k, kTst_k, tBl_k, kTBl_k, tAnd_k, kTAnd_t, kTAnd_f, tOr_k, kTOr_t, kTOr_f, tNot_k, kTNot_k, tYes_k, eC_k, eVar_k, kVar_k, eU1_k, kU1_k, eB2_k, kB2_k, kB2'_k, eCN_k, kCN_k, aNil_k, aCons_k, kAc_k, kAc2_k, hNew_k, kNew_0, kNew_1, kNew_4, eAnd_k, kAnd_t, kAnd_f, eOr_k, kOr_t, kOr_f, eNot_k, kNot_k, eIf_k, kIfE_t, kIfE_f, eChain_k, kCh1_k, kCh2_k, kCh3_t, kCh3_f, oNone_k, oSome_k, kOs_k, eSl_k, kSl1_k, kSl2_k, kSl3_k, eCall_k, kCall_1, kCall_2, kCall_3, kCall_4, eMeth_k, kMt2_1, kMt2_2, kMt2_3, eFrz_k, view_int', view_str', view_bl', view_non', view_con', addD_int, subD_int, negD_int, gtD_int, ltD_int, geD_int, leD_int, eqD_int, neD_int, eqD_str, neD_str, eqD_bl, isD_non, isntD_non, intC_int, min2_int, conD_0, conD_1, conD_2, conD_3, truD_bl, truD_lst, truD_tup, tupD_lst, lenD_lst, lenD_tup, lenD_scr, ixD_lst, ixD_tup, ixD_scr, startR, List.map_cons, List.map_nil, List.length_cons, List.length_nil, List.cons_append, List.nil_append, List.replicate, List.getElem?_cons_zero, List.getElem?_cons_succ, List.set_cons_zero, List.set_cons_succ, Nat.reduceAdd, Nat.reduceSub, Nat.zero_add, Bool.not_true, Bool.not_false, h.owners, h.free])
  have hm := h.many
  have hw := h.hw
  have cl : eLc [1] (iSeq (eCall s_free_of 1 (aCons (eU1 (fldD "owners" ["Pool"]) (eVar 0)) aNil))) (gSet 1) tYesD (eB2 shlD (eC (.int 1)) (eB2 subD (eU1 (fldD "width" ["Pool"]) (eVar 0)) (eCN lenD (aCons (eVar 1) aNil)))) [some (.ptr p), none] μ =
      .ok (.lst ((freeL B 70 []).map fun x => .int ((wt w x : Nat) : Int))) μ := by
    rw [lcRun_pure (l := txs (freeL B 70 [])) (fun _ => true) (fun d => match d with | .str s => .int ((2 ^ (w - s.length) : Nat) : Int) | _ => .non) hi (by rw [List.length_map, sizeLine_eq]; omega) fun x hx => ?_]
    · rw [List.filter_eq_self.mpr fun _ _ => rfl, List.map_map]
      congr 3
      funext x
      simp [S_len, wt]
    · obtain ⟨b, hb, rfl⟩ := List.mem_map.mp hx
      have hbl := h.le ((h.mem b).mp hb)
      have e1 : (w : Int) - (b.length : Int) = ((w - b.length : Nat) : Int) := by omega
      exact ⟨[some (.ptr p), some (.str (S b))], by simp only [R.bind_ok, bind_exc, lift_some, defM_k, kDef_nx, kDef_rt, sSeq_k, kSeq_nx, kSeq_rt, kSeq_bk, kSeq_ct, sRet_k, kRet_k, sDrop_k, kDrop_k, sIf_k, kIf_t, kIf_f, sSet_k, kSet_k, sNext_k, sBreak_k, sCont_k, sAsg_k, kAsg_k, kAsg2_k, gSet_k, gItem_k, kGi1_k, kGi2_k, kGi3_k, gsCons_k, kGs_k, gsNil_k, gTup2, gTup3, sPar_k, kPar_k, sPar3_k, kPar3_k, sFldSet_k, kFs1_k, kFs2_k, kFs3_k, sRaise_k, kRaise_k, tst_k, kTst_k, tBl_k, kTBl_k, tAnd_k, kTAnd_t, kTAnd_f, tOr_k, kTOr_t, kTOr_f, tNot_k, kTNot_k, tYes_k, eC_k, eVar_k, kVar_k, eU1_k, kU1_k, eB2_k, kB2_k, kB2'_k, eCN_k, kCN_k, aNil_k, aCons_k, kAc_k, kAc2_k, hNew_k, kNew_0, kNew_1, kNew_4, eAnd_k, kAnd_t, kAnd_f, eOr_k, kOr_t, kOr_f, eNot_k, kNot_k, eIf_k, kIfE_t, kIfE_f, eChain_k, kCh1_k, kCh2_k, kCh3_t, kCh3_f, oNone_k, oSome_k, kOs_k, eSl_k, kSl1_k, kSl2_k, kSl3_k, eCall_k, kCall_1, kCall_2, kCall_3, kCall_4, eMeth_k, kMt2_1, kMt2_2, kMt2_3, eFrz_k, view_int', view_str', view_bl', view_non', view_con', addD_int, subD_int, negD_int, gtD_int, ltD_int, geD_int, leD_int, eqD_int, neD_int, eqD_str, neD_str, eqD_bl, isD_non, isntD_non, intC_int, min2_int, conD_0, conD_1, conD_2, conD_3, truD_bl, truD_lst, truD_tup, tupD_lst, lenD_lst, lenD_tup, lenD_scr, ixD_lst, ixD_tup, ixD_scr, startR, List.map_cons, List.map_nil, List.length_cons, List.length_nil, List.cons_append, List.nil_append, List.replicate, List.getElem?_cons_zero, List.getElem?_cons_succ, List.set_cons_zero, List.set_cons_succ, Nat.reduceAdd, Nat.reduceSub, Nat.zero_add, Bool.not_true, Bool.not_false, wipeR], rfl, fun _ => by simp only [R.bind_ok, bind_exc, lift_some, defM_k, kDef_nx, kDef_rt, sSeq_k, kSeq_nx, kSeq_rt, kSeq_bk, kSeq_ct, sRet_k, kRet_k, sDrop_k, kDrop_k, sIf_k, kIf_t, kIf_f, sSet_k, kSet_k, sNext_k, sBreak_k, sCont_k, sAsg_k, kAsg_k, kAsg2_k, gSet_k, gItem_k, kGi1_k, kGi2_k, kGi3_k, gsCons_k, kGs_k, gsNil_k, gTup2, gTup3, sPar_k, kPar_k, sPar3_k, kPar3_k, sFldSet_k, kFs1_k, kFs2_k, kFs3_k, sRaise_k, kRaise_k, tst_k, kTst_k, tBl_k, kTBl_k, tAnd_k, kTAnd_t, kTAnd_f, tOr_k, kTOr_t, kTOr_f, tNot_k, kTNot_k, tYes_k, eC_k, eVar_k, kVar_k, eU1_k, kU1_k, eB2_k, kB2_k, kB2'_k, eCN_k, kCN_k, aNil_k, aCons_k, kAc_k, kAc2_k, hNew_k, kNew_0, kNew_1, kNew_4, eAnd_k, kAnd_t, kAnd_f, eOr_k, kOr_t, kOr_f, eNot_k, kNot_k, eIf_k, kIfE_t, kIfE_f, eChain_k, kCh1_k, kCh2_k, kCh3_t, kCh3_f, oNone_k, oSome_k, kOs_k, eSl_k, kSl1_k, kSl2_k, kSl3_k, eCall_k, kCall_1, kCall_2, kCall_3, kCall_4, eMeth_k, kMt2_1, kMt2_2, kMt2_3, eFrz_k, view_int', view_str', view_bl', view_non', view_con', addD_int, subD_int, negD_int, gtD_int, ltD_int, geD_int, leD_int, eqD_int, neD_int, eqD_str, neD_str, eqD_bl, isD_non, isntD_non, intC_int, min2_int, conD_0, conD_1, conD_2, conD_3, truD_bl, truD_lst, truD_tup, tupD_lst, lenD_lst, lenD_tup, lenD_scr, ixD_lst, ixD_tup, ixD_scr, startR, List.map_cons, List.map_nil, List.length_cons, List.length_nil, List.cons_append, List.nil_append, List.replicate, List.getElem?_cons_zero, List.getElem?_cons_succ, List.set_cons_zero, List.set_cons_succ, Nat.reduceAdd, Nat.reduceSub, Nat.zero_add, Bool.not_true, Bool.not_false, h.width, lenD_S (show b.length ≤ 1000000 by omega), e1, shlD_1 (show w - b.length ≤ 1000 by omega), S_len]⟩
  refine call_ok ?_ rfl
  unfold s_count_free
  simp only [R.bind_ok, bind_exc, lift_some, defM_k, kDef_nx, kDef_rt, sSeq_k, kSeq_nx, kSeq_rt, kSeq_bk, kSeq_ct, sRet_k, kRet_k, sDrop_k, kDrop_k, sIf_k, kIf_t, kIf_f, sSet_k, kSet_k, sNext_k, sBreak_k, sCont_k, sAsg_k, kAsg_k, kAsg2_k, gSet_k, gItem_k, kGi1_k, kGi2_k, kGi3_k, gsCons_k, kGs_k, gsNil_k, gTup2, gTup3, sPar_k, kPar_k, sPar3_k, kPar3_k, sFldSet_k, kFs1_k, kFs2_k, kFs3_k, sRaise_k, kRaise_k, tst_k, kTst_k, tBl_k, kTBl_k, tAnd_k, kTAnd_t, kTAnd_f, tOr_k, kTOr_t, kTOr_f, tNot_k, kTNot_k, tYes_k, eC_k, eVar_k, kVar_k, eU1_k, kU1_k, eB2_k, kB2_k, kB2'_k, eCN_k, kCN_k, aNil_k, aCons_k, kAc_k, kAc2_k, hNew_k, kNew_0, kNew_1, kNew_4, eAnd_k, kAnd_t, kAnd_f, eOr_k, kOr_t, kOr_f, eNot_k, kNot_k, eIf_k, kIfE_t, kIfE_f, eChain_k, kCh1_k, kCh2_k, kCh3_t, kCh3_f, oNone_k, oSome_k, kOs_k, eSl_k, kSl1_k, kSl2_k, kSl3_k, eCall_k, kCall_1, kCall_2, kCall_3, kCall_4, eMeth_k, kMt2_1, kMt2_2, kMt2_3, eFrz_k, view_int', view_str', view_bl', view_non', view_con', addD_int, subD_int, negD_int, gtD_int, ltD_int, geD_int, leD_int, eqD_int, neD_int, eqD_str, neD_str, eqD_bl, isD_non, isntD_non, intC_int, min2_int, conD_0, conD_1, conD_2, conD_3, truD_bl, truD_lst, truD_tup, tupD_lst, lenD_lst, lenD_tup, lenD_scr, ixD_lst, ixD_tup, ixD_scr, startR, List.map_cons, List.map_nil, List.length_cons, List.length_nil, List.cons_append, List.nil_append, List.replicate, List.getElem?_cons_zero, List.getElem?_cons_succ, List.set_cons_zero, List.set_cons_succ, Nat.reduceAdd, Nat.reduceSub, Nat.zero_add, Bool.not_true, Bool.not_false, np, cl, sumD_ints, wts_int]
end
end
end K18

namespace K18
open PySem PySem.Spec L2 MP
noncomputable section
/-! ### small things -/
theorem conD_k {μ : Mu} {c : Con} {l : List D} (h : l.length ≤ 1000) : conD c μ l = some (.con c l) := by
  unfold conD
  rw [if_pos (by rw [sizeLine_eq]; omega)]
theorem taken_eq : s__law_taken = takenM := rfl
theorem pick_ok {μ : Mu} {r : Nat} {ob : Ob} {l : List D} (hr : μ[r]? = some ob) (ho : IsRow ob) (h0 : 0 < l.length) (h1 : l.length ≤ 1000) : ∃ (k : Nat) (d : D) (ob' : Ob), l[k]? = some d ∧ callF s__law_pick [.ptr r, .con .lst l] μ = .ok d (μ.set r ob') ∧ IsRow ob' := by
  obtain ⟨v, ob', e, v0, v1, ho'⟩ := taken_ok hr ho (show (0 : Int) < (l.length : Int) by omega) (by omega)
  obtain ⟨k, rfl⟩ := Int.eq_ofNat_of_zero_le v0
  have hk : k < l.length := by omega
  refine ⟨k, l[k], ob', List.getElem?_eq_getElem hk, call_ok ?_ (by simp), ho'⟩
  have a1 : atI l (k : Int) = some l[k] := by rw [MP.atI_nat, List.getElem?_eq_getElem hk]
  unfold s__law_pick
  rw [taken_eq]
  simp only [R.bind_ok, bind_exc, lift_some, defM_k, kDef_nx, kDef_rt, sSeq_k, kSeq_nx, kSeq_rt, kSeq_bk, kSeq_ct, sRet_k, kRet_k, sDrop_k, kDrop_k, sIf_k, kIf_t, kIf_f, sSet_k, kSet_k, sNext_k, sBreak_k, sCont_k, sAsg_k, kAsg_k, kAsg2_k, gSet_k, gItem_k, kGi1_k, kGi2_k, kGi3_k, gsCons_k, kGs_k, gsNil_k, gTup2, gTup3, sPar_k, kPar_k, sPar3_k, kPar3_k, sFldSet_k, kFs1_k, kFs2_k, kFs3_k, sRaise_k, kRaise_k, tst_k, kTst_k, tBl_k, kTBl_k, tAnd_k, kTAnd_t, kTAnd_f, tOr_k, kTOr_t, kTOr_f, tNot_k, kTNot_k, tYes_k, eC_k, eVar_k, kVar_k, eU1_k, kU1_k, eB2_k, kB2_k, kB2'_k, eCN_k, kCN_k, aNil_k, aCons_k, kAc_k, kAc2_k, hNew_k, kNew_0, kNew_1, kNew_4, eAnd_k, kAnd_t, kAnd_f, eOr_k, kOr_t, kOr_f, eNot_k, kNot_k, eIf_k, kIfE_t, kIfE_f, eChain_k, kCh1_k, kCh2_k, kCh3_t, kCh3_f, oNone_k, oSome_k, kOs_k, eSl_k, kSl1_k, kSl2_k, kSl3_k, eCall_k, kCall_1, kCall_2, kCall_3, kCall_4, eMeth_k, kMt2_1, kMt2_2, kMt2_3, eFrz_k, view_int', view_str', view_bl', view_non', view_con', addD_int, subD_int, negD_int, gtD_int, ltD_int, geD_int, leD_int, eqD_int, neD_int, eqD_str, neD_str, eqD_bl, isD_non, isntD_non, intC_int, min2_int, conD_0, conD_1, conD_2, conD_3, truD_bl, truD_lst, truD_tup, tupD_lst, lenD_lst, lenD_tup, lenD_scr, ixD_lst, ixD_tup, ixD_scr, startR, List.map_cons, List.map_nil, List.length_cons, List.length_nil, List.cons_append, List.nil_append, List.replicate, List.getElem?_cons_zero, List.getElem?_cons_succ, List.set_cons_zero, List.set_cons_succ, Nat.reduceAdd, Nat.reduceSub, Nat.zero_add, Bool.not_true, Bool.not_false, e, a1]
theorem block_ok {μ : Mu} {r w : Nat} {ob : Ob} (hr : μ[r]? = some ob) (ho : IsRow ob) (hw : w ≤ 64) : ∃ (L : Nat) (ob' : Ob), L ≤ w ∧ callF s__law_block [.ptr r, .int (w : Int)] μ = .ok (.int (L : Int)) (μ.set r ob') ∧ IsRow ob' := by
  obtain ⟨v, ob1, e, v0, v1, h1⟩ := taken_ok hr ho (show (0 : Int) < 2 by decide) (by decide)
  have hr1 := set_get (ob' := ob1) hr
  have fd : fdivD (μ.set r ob1) (.int (w : Int)) (.int 2) = some (.int ((w : Int) / 2)) := fdivD_int (by decide) (by decide)
  by_cases hv : v = 0
  · obtain ⟨x, ob2, e2, x0, x1, h2⟩ := taken_ok hr1 h1 (show (0 : Int) < 3 + (w : Int) / 2 by omega) (by omega)
    rw [List.set_set] at e2
    obtain ⟨k, rfl⟩ := Int.eq_ofNat_of_zero_le x0
    refine ⟨w - min w k, ob2, by omega, call_ok ?_ (by simp), h2⟩
    have em : (w : Int) - (if (k : Int) < (w : Int) then (k : Int) else (w : Int)) = ((w - min w k : Nat) : Int) := by split <;> omega
    unfold s__law_block
    rw [taken_eq]
    simp only [R.bind_ok, bind_exc, lift_some, defM_k, kDef_nx, kDef_rt, sSeq_k, kSeq_nx, kSeq_rt, kSeq_bk, kSeq_ct, sRet_k, kRet_k, sDrop_k, kDrop_k, sIf_k, kIf_t, kIf_f, sSet_k, kSet_k, sNext_k, sBreak_k, sCont_k, sAsg_k, kAsg_k, kAsg2_k, gSet_k, gItem_k, kGi1_k, kGi2_k, kGi3_k, gsCons_k, kGs_k, gsNil_k, gTup2, gTup3, sPar_k, kPar_k, sPar3_k, kPar3_k, sFldSet_k, kFs1_k, kFs2_k, kFs3_k, sRaise_k, kRaise_k, tst_k, kTst_k, tBl_k, kTBl_k, tAnd_k, kTAnd_t, kTAnd_f, tOr_k, kTOr_t, kTOr_f, tNot_k, kTNot_k, tYes_k, eC_k, eVar_k, kVar_k, eU1_k, kU1_k, eB2_k, kB2_k, kB2'_k, eCN_k, kCN_k, aNil_k, aCons_k, kAc_k, kAc2_k, hNew_k, kNew_0, kNew_1, kNew_4, eAnd_k, kAnd_t, kAnd_f, eOr_k, kOr_t, kOr_f, eNot_k, kNot_k, eIf_k, kIfE_t, kIfE_f, eChain_k, kCh1_k, kCh2_k, kCh3_t, kCh3_f, oNone_k, oSome_k, kOs_k, eSl_k, kSl1_k, kSl2_k, kSl3_k, eCall_k, kCall_1, kCall_2, kCall_3, kCall_4, eMeth_k, kMt2_1, kMt2_2, kMt2_3, eFrz_k, view_int', view_str', view_bl', view_non', view_con', addD_int, subD_int, negD_int, gtD_int, ltD_int, geD_int, leD_int, eqD_int, neD_int, eqD_str, neD_str, eqD_bl, isD_non, isntD_non, intC_int, min2_int, conD_0, conD_1, conD_2, conD_3, truD_bl, truD_lst, truD_tup, tupD_lst, lenD_lst, lenD_tup, lenD_scr, ixD_lst, ixD_tup, ixD_scr, startR, List.map_cons, List.map_nil, List.length_cons, List.length_nil, List.cons_append, List.nil_append, List.replicate, List.getElem?_cons_zero, List.getElem?_cons_succ, List.set_cons_zero, List.set_cons_succ, Nat.reduceAdd, Nat.reduceSub, Nat.zero_add, Bool.not_true, Bool.not_false, e, hv, decide_true, fd, e2, em]
  · obtain ⟨x, ob2, e2, x0, x1, h2⟩ := taken_ok hr1 h1 (show (0 : Int) < 4 by decide) (by decide)
    rw [List.set_set] at e2
    obtain ⟨k, rfl⟩ := Int.eq_ofNat_of_zero_le x0
    refine ⟨w - min w k, ob2, by omega, call_ok ?_ (by simp), h2⟩
    have em : (w : Int) - (if (k : Int) < (w : Int) then (k : Int) else (w : Int)) = ((w - min w k : Nat) : Int) := by split <;> omega
    unfold s__law_block
    rw [taken_eq]
    simp only [R.bind_ok, bind_exc, lift_some, defM_k, kDef_nx, kDef_rt, sSeq_k, kSeq_nx, kSeq_rt, kSeq_bk, kSeq_ct, sRet_k, kRet_k, sDrop_k, kDrop_k, sIf_k, kIf_t, kIf_f, sSet_k, kSet_k, sNext_k, sBreak_k, sCont_k, sAsg_k, kAsg_k, kAsg2_k, gSet_k, gItem_k, kGi1_k, kGi2_k, kGi3_k, gsCons_k, kGs_k, gsNil_k, gTup2, gTup3, sPar_k, kPar_k, sPar3_k, kPar3_k, sFldSet_k, kFs1_k, kFs2_k, kFs3_k, sRaise_k, kRaise_k, tst_k, kTst_k, tBl_k, kTBl_k, tAnd_k, kTAnd_t, kTAnd_f, tOr_k, kTOr_t, kTOr_f, tNot_k, kTNot_k, tYes_k, eC_k, eVar_k, kVar_k, eU1_k, kU1_k, eB2_k, kB2_k, kB2'_k, eCN_k, kCN_k, aNil_k, aCons_k, kAc_k, kAc2_k, hNew_k, kNew_0, kNew_1, kNew_4, eAnd_k, kAnd_t, kAnd_f, eOr_k, kOr_t, kOr_f, eNot_k, kNot_k, eIf_k, kIfE_t, kIfE_f, eChain_k, kCh1_k, kCh2_k, kCh3_t, kCh3_f, oNone_k, oSome_k, kOs_k, eSl_k, kSl1_k, kSl2_k, kSl3_k, eCall_k, kCall_1, kCall_2, kCall_3, kCall_4, eMeth_k, kMt2_1, kMt2_2, kMt2_3, eFrz_k, view_int', view_str', view_bl', view_non', view_con', addD_int, subD_int, negD_int, gtD_int, ltD_int, geD_int, leD_int, eqD_int, neD_int, eqD_str, neD_str, eqD_bl, isD_non, isntD_non, intC_int, min2_int, conD_0, conD_1, conD_2, conD_3, truD_bl, truD_lst, truD_tup, tupD_lst, lenD_lst, lenD_tup, lenD_scr, ixD_lst, ixD_tup, ixD_scr, startR, List.map_cons, List.map_nil, List.length_cons, List.length_nil, List.cons_append, List.nil_append, List.replicate, List.getElem?_cons_zero, List.getElem?_cons_succ, List.set_cons_zero, List.set_cons_succ, Nat.reduceAdd, Nat.reduceSub, Nat.zero_add, Bool.not_true, Bool.not_false, e, hv, decide_false, e2, em]
theorem repr_room {μ : Mu} {L : Nat} (h : L ≤ 64) : ∃ s, reprD μ [.con .tup [.str "room", .int (L : Int)]] = some (.str s) := by
  have h1 : ∀ L : Fin 65, reprOk (.tuple [.str "room", .int ((L : Nat) : Int)]) = true := by decide +kernel
  have h2 := h1 ⟨L, by omega⟩
  have e : reprP μ (.con .tup [.str "room", .int (L : Int)]) = some (.tuple [.str "room", .int (L : Int)]) := by rfl
  refine ⟨(PyData.tuple [.str "room", .int (L : Int)]).shown, ?_⟩
  unfold reprD
  simp only [e]
  rw [if_pos h2]
theorem nodup_len : ∀ (n : Nat) (l : List Nat), l.Nodup → (∀ x ∈ l, x < n) → l.length ≤ n
  | 0, l, _, h => by
    cases l with
    | nil => exact Nat.le_refl _
    | cons a l => exact absurd (h a (List.mem_cons_self ..)) (Nat.not_lt_zero _)
  | n + 1, l, hn, h => by
    by_cases hm : n ∈ l
    · have h1 := nodup_len n (l.erase n) (hn.erase _) fun x hx => by
        have h1 := h x (List.mem_of_mem_erase hx)
        have h2 : x ≠ n := fun z => by
          subst z
          exact (List.Nodup.not_mem_erase hn) hx
        omega
      rw [List.length_erase_of_mem hm] at h1
      have := List.length_pos_of_mem hm
      omega
    · have h1 := nodup_len n l hn fun x hx => by
        have h1 := h x hx
        have h2 : x ≠ n := fun z => hm (z ▸ hx)
        omega
      omega
/-! ### the law's state -/
def mu3 (ob : Ob) (w : Nat) (B : List Bits) (vs : List D) : Mu := [ob, .lv false (.ins "Pool" ["width", "owners"]) [.int (w : Int), .ptr 2], .lv false (.dK (B.map kS)) vs]
structure Gd (w : Nat) (B : List Bits) (vs : List D) (left : Nat) : Prop where
  hw : w ≤ 64
  hW : ∀ b ∈ B, b.length ≤ w
  nd : B.Nodup
  an : anti B
  ap : apart B
  hl : vs.length = B.length
  on : ∀ v ∈ vs, v = .int 1
  sm : wts w B + left = 2 ^ w
theorem row_np {ob : Ob} (h : IsRow ob) (n : Nat) : noPtrOb n ob = true := by
  obtain ⟨ns, k, sd, rest, rfl, _, _⟩ := h
  have : noPtrs n (ns.map D.int) = true := noPtrs_iff.mpr fun d hd => by
    obtain ⟨i, _, rfl⟩ := List.mem_map.mp hd
    rfl
  show (noPtrs n (ns.map D.int) && true) = true
  rw [this]
  rfl
theorem Gd.pool {ob : Ob} {w : Nat} {B : List Bits} {vs : List D} {left : Nat} (g : Gd w B vs left) (ho : IsRow ob) (hB : B.length ≤ 400) : PoolAt (mu3 ob w B vs) 1 2 w B vs := by
  refine ⟨rfl, rfl, g.hl, g.hw, g.hW, hB, ?_⟩
  have h1 := row_np ho 3
  have h2 : noPtrs 3 vs = true := noPtrs_iff.mpr fun d hd => by
    rw [g.on d hd]
    rfl
  show (noPtrOb 3 ob && (true && (noPtrs 3 vs && true))) = true
  rw [h1, h2]
  rfl
section
variable {w : Nat} {B : List Bits} {vs : List D} {left : Nat}
theorem Gd.free (g : Gd w B vs left) : wts w (freeL B 70 []) = left := by
  have h := free_sum g.hW g.an g.nd 70 [] (by decide) (by have := g.hw; simp; omega) (Nat.zero_le _)
  have e : B.filter (fun b => ([] : Bits).isPrefixOf b) = B := List.filter_eq_self.mpr fun x _ => rfl
  rw [e] at h
  have := g.sm
  simp at h
  omega
theorem Gd.mem (g : Gd w B vs left) (x : Bits) : x ∈ freeL B 70 [] ↔ Fr0 B x := free_mem g.hW 70 [] (by decide) (by have := g.hw; simp; omega) x
theorem Gd.nodup (g : Gd w B vs left) : (freeL B 70 []).Nodup := free_nodup g.hW 70 [] (by decide) (by have := g.hw; simp; omega)
theorem pow_le {w a b : Nat} (h : a ≤ b) (hb : b ≤ w) : 2 ^ (w - b) ≤ 2 ^ (w - a) := Nat.pow_le_pow_right (by decide) (by omega)
/-- nothing that long is free -/
theorem Gd.none (g : Gd w B vs left) {L : Nat} (hL : L ≤ w) (h : left < 2 ^ (w - L)) {x : Bits} (hx : Fr0 B x) : L < x.length := by
  refine Classical.byContradiction fun hn => ?_
  have h1 : wt w x ≤ wts w (freeL B 70 []) := wts_mem ((g.mem x).mpr hx)
  have h2 := pow_le (w := w) (show x.length ≤ L by omega) hL
  rw [g.free] at h1
  unfold wt at h1
  omega
/-- something is -/
theorem Gd.some (g : Gd w B vs left) {L : Nat} (hL : L ≤ w) (h : 2 ^ (w - L) ≤ left) : ∃ x, Fr0 B x ∧ x.length ≤ L := by
  refine Classical.byContradiction fun hn => ?_
  have h1 := apart_small g.hW g.ap hL (freeL B 70 []) g.nodup fun x hx => by
    have hf := (g.mem x).mp hx
    refine ⟨hf, ?_, free_le g.hW hf⟩
    exact Nat.lt_of_not_le fun z => hn ⟨x, hf, z⟩
  rw [g.free] at h1
  omega
theorem Gd.give (g : Gd w B vs left) {L : Nat} (hL : L ≤ w) (h : 2 ^ (w - L) ≤ left) {f : Bits} (hf : Fr0 B f) (hfl : f.length ≤ L) (hm : ∀ x, Fr0 B x → x.length ≤ L → x.length ≤ f.length) :
    Gd w (B ++ [f ++ List.replicate (L - f.length) false]) (vs ++ [.int 1]) (left - 2 ^ (w - L)) := by
  have hb : (f ++ List.replicate (L - f.length) false).length = L := by simp; omega
  refine ⟨g.hw, fun b hb' => ?_, ?_, give_anti g.an hf, give_apart g.ap hf fun x hx hxl => hm x hx (by omega), by simp [g.hl], fun v hv => ?_, ?_⟩
  · rcases List.mem_append.mp hb' with h1 | h1
    · exact g.hW b h1
    · rw [List.mem_singleton.mp h1, hb]
      exact hL
  · rw [List.nodup_append]
    refine ⟨g.nd, by simp, fun a ha b hb e => ?_⟩
    rw [List.mem_singleton.mp hb] at e
    exact give_new hf (e ▸ ha)
  · rcases List.mem_append.mp hv with h1 | h1
    · exact g.on v h1
    · exact List.mem_singleton.mp h1
  · rw [wts_app]
    have : wts w [f ++ List.replicate (L - f.length) false] = 2 ^ (w - L) := by
      unfold wts wt
      simp only [List.map_cons, List.map_nil, List.sum_cons, List.sum_nil, hb]
      omega
    have := g.sm
    omega
theorem Gd.split (g : Gd w B vs left) {b : Bits} (hb : b ∈ B) (hlt : b.length < w) : Gd w (split B b) (splitV B vs b (.int 1)) left := by
  refine ⟨g.hw, fun a ha => ?_, split_nodup hb g.nd g.an, split_anti hb g.an, split_apart hb g.ap, ?_, fun v hv => ?_, by rw [split_wts hb g.nd hlt]; exact g.sm⟩
  · unfold MP.split at ha
    simp only [List.mem_append, List.mem_singleton] at ha
    rcases ha with (ha | rfl) | rfl
    · exact g.hW a (List.mem_filter.mp ha).1
    · simp; omega
    · simp; omega
  · unfold splitV MP.split
    simp only [List.length_append, List.length_singleton, dropDs_len B vs b g.hl]
  · unfold splitV at hv
    simp only [List.mem_append, List.mem_singleton] at hv
    rcases hv with (hv | rfl) | rfl
    · exact g.on v (dropDs_sub _ _ _ v hv)
    · rfl
    · rfl
theorem Gd.same {C : List Bits} {ws : List D} (g : Gd w B vs left) (hp : C.Perm B) (hl : ws.length = C.length) (on : ∀ v ∈ ws, v = .int 1) : Gd w C ws left :=
  ⟨g.hw, fun b hb => g.hW b (hp.mem_iff.mp hb), hp.nodup_iff.mpr g.nd, fun a ha b hb h => g.an a (hp.mem_iff.mp ha) b (hp.mem_iff.mp hb) h, apart_same (fun b => (hp.mem_iff).symm) g.ap, hl, on, by rw [wts_perm hp]; exact g.sm⟩
theorem merge_perm (hn : B.Nodup) (ha : anti B) {b : Bits} (hb : b ∈ B) : (merge (split B b) b).Perm B := by
  have ne : ∀ c, b ++ [c] ∉ B := fun c h => by
    have := congrArg List.length (ha b hb _ h ⟨[c], rfl⟩)
    simp at this
  have nb : b ∉ (split B b).filter fun a => decide (a ≠ b ++ [false]) := fun z => by
    have := (List.mem_filter.mp z).1
    unfold split at this
    simp at this
  have hs := split_nodup hb hn ha
  rw [List.perm_ext_iff_of_nodup _ hn]
  · intro a
    unfold merge split
    simp only [List.mem_append, List.mem_filter, List.mem_singleton, decide_eq_true_eq]
    constructor
    · rintro (⟨⟨((⟨h1, _⟩ | h1) | h1), h2⟩, h3⟩ | rfl)
      · exact h1
      · exact absurd h1 h2
      · exact absurd h1 h3
      · exact hb
    · intro h
      by_cases e : a = b
      · exact .inr e
      · exact .inl ⟨⟨.inl (.inl ⟨h, e⟩), fun z => ne _ (z ▸ h)⟩, fun z => ne _ (z ▸ h)⟩
  · unfold merge
    rw [List.nodup_append]
    refine ⟨(hs.filter _).filter _, by simp, fun x hx y hy e => ?_⟩
    rw [List.mem_singleton.mp hy] at e
    exact nb (e ▸ (List.mem_filter.mp hx).1)
end
end
end K18

namespace K18
open PySem PySem.Spec L2 MP
noncomputable section
section
variable {w : Nat} {B : List Bits} {vs : List D} {left : Nat} {ob : Ob} {y0 y1 y5 y6 y7 y8 y9 y10 y11 : Option D}
abbrev rh (y0 : Option D) (w left : Nat) (y5 y6 y7 y8 y9 y10 y11 : Option D) : Rho := [y0, some (.ptr 0), some (.int (w : Int)), some (.ptr 1), some (.int (left : Int)), y5, y6, y7, y8, y9, y10, y11]
theorem set0 {ob' : Ob} : (mu3 ob w B vs).set 0 ob' = mu3 ob' w B vs := rfl
theorem set2 {C : List Bits} {ws : List D} : (mu3 ob w B vs).set 2 (.lv false (.dK (C.map kS)) ws) = mu3 ob w C ws := rfl
/-- the end of a turn: what is free -/
theorem end_ok (g : Gd w B vs left) (ho : IsRow ob) (hB : B.length ≤ 400) : sSeq s_law_17 s_law_19 (rh y0 w left y5 y6 y7 y8 y9 y10 y11) (mu3 ob w B vs) =
    .ok (.nx, rh y0 w left y5 y6 y7 y8 (some (.lst ((freeL B 70 []).map fun x => .int (x.length : Int)))) y10 y11) (mu3 ob w B vs) := by
  have P := g.pool ho hB
  have hm := P.many
  have hi : iSeq (eCall s_free_blocks 1 (aCons (eVar 3) aNil)) (rh y0 w left y5 y6 y7 y8 y9 y10 y11) (mu3 ob w B vs) = .ok (fun _ => some (txs (freeL B 70 []))) (mu3 ob w B vs) :=
    iSeq_t (by simp only [R.bind_ok, bind_exc, lift_some, defM_k, kDef_nx, kDef_rt, sSeq_k, kSeq_nx, kSeq_rt, kSeq_bk, kSeq_ct, sRet_k, kRet_k, sDrop_k, kDrop_k, sIf_k, kIf_t, kIf_f, sSet_k, kSet_k, sNext_k, sBreak_k, sCont_k, sAsg_k, kAsg_k, kAsg2_k, gSet_k, gItem_k, kGi1_k, kGi2_k, kGi3_k, gsCons_k, kGs_k, gsNil_k, gTup2, gTup3, sPar_k, kPar_k, sPar3_k, kPar3_k, sFldSet_k, kFs1_k, kFs2_k, kFs3_k, sRaise_k, kRaise_k, tst_k, kTst_k, tBl_k, kTBl_k, tAnd_k, kTAnd_t, kTAnd_f, tOr_k, kTOr_t, kTOr_f, tNot_k, kTNot_k, tYes_k, eC_k, eVar_k, kVar_k, eU1_k, kU1_k, eB2_k, kB2_k, kB2'_k, eCN_k, kCN_k, aNil_k, aCons_k, kAc_k, kAc2_k, hNew_k, kNew_0, kNew_1, kNew_4, eAnd_k, kAnd_t, kAnd_f, eOr_k, kOr_t, kOr_f, eNot_k, kNot_k, eIf_k, kIfE_t, kIfE_f, eChain_k, kCh1_k, kCh2_k, kCh3_t, kCh3_f, oNone_k, oSome_k, kOs_k, eSl_k, kSl1_k, kSl2_k, kSl3_k, eCall_k, kCall_1, kCall_2, kCall_3, kCall_4, eMeth_k, kMt2_1, kMt2_2, kMt2_3, eFrz_k, view_int', view_str', view_bl', view_non', view_con', addD_int, subD_int, negD_int, gtD_int, ltD_int, geD_int, leD_int, eqD_int, neD_int, eqD_str, neD_str, eqD_bl, isD_non, isntD_non, intC_int, min2_int, conD_0, conD_1, conD_2, conD_3, truD_bl, truD_lst, truD_tup, tupD_lst, lenD_lst, lenD_tup, lenD_scr, ixD_lst, ixD_tup, ixD_scr, startR, List.map_cons, List.map_nil, List.length_cons, List.length_nil, List.cons_append, List.nil_append, List.replicate, List.getElem?_cons_zero, List.getElem?_cons_succ, List.set_cons_zero, List.set_cons_succ, Nat.reduceAdd, Nat.reduceSub, Nat.zero_add, Bool.not_true, Bool.not_false, free_blocks_ok P])
  have cl : eLc [10] (iSeq (eCall s_free_blocks 1 (aCons (eVar 3) aNil))) (gSet 10) tYesD (eCN lenD (aCons (eVar 10) aNil)) (rh y0 w left y5 y6 y7 y8 y9 y10 y11) (mu3 ob w B vs) =
      .ok (.lst ((freeL B 70 []).map fun x => .int (x.length : Int))) (mu3 ob w B vs) := by
    rw [lcRun_pure (l := txs (freeL B 70 [])) (fun _ => true) (fun d => match d with | .str s => .int (s.length : Int) | _ => .non) hi (by rw [List.length_map, sizeLine_eq]; omega) fun x hx => ?_]
    · rw [List.filter_eq_self.mpr fun _ _ => rfl, List.map_map]
      congr 3
      funext x
      simp [S_len]
    · obtain ⟨b, hb, rfl⟩ := List.mem_map.mp hx
      have hbl := P.le ((P.mem b).mp hb)
      have hw := g.hw
      exact ⟨rh y0 w left y5 y6 y7 y8 y9 (some (.str (S b))) y11, by simp only [R.bind_ok, bind_exc, lift_some, defM_k, kDef_nx, kDef_rt, sSeq_k, kSeq_nx, kSeq_rt, kSeq_bk, kSeq_ct, sRet_k, kRet_k, sDrop_k, kDrop_k, sIf_k, kIf_t, kIf_f, sSet_k, kSet_k, sNext_k, sBreak_k, sCont_k, sAsg_k, kAsg_k, kAsg2_k, gSet_k, gItem_k, kGi1_k, kGi2_k, kGi3_k, gsCons_k, kGs_k, gsNil_k, gTup2, gTup3, sPar_k, kPar_k, sPar3_k, kPar3_k, sFldSet_k, kFs1_k, kFs2_k, kFs3_k, sRaise_k, kRaise_k, tst_k, kTst_k, tBl_k, kTBl_k, tAnd_k, kTAnd_t, kTAnd_f, tOr_k, kTOr_t, kTOr_f, tNot_k, kTNot_k, tYes_k, eC_k, eVar_k, kVar_k, eU1_k, kU1_k, eB2_k, kB2_k, kB2'_k, eCN_k, kCN_k, aNil_k, aCons_k, kAc_k, kAc2_k, hNew_k, kNew_0, kNew_1, kNew_4, eAnd_k, kAnd_t, kAnd_f, eOr_k, kOr_t, kOr_f, eNot_k, kNot_k, eIf_k, kIfE_t, kIfE_f, eChain_k, kCh1_k, kCh2_k, kCh3_t, kCh3_f, oNone_k, oSome_k, kOs_k, eSl_k, kSl1_k, kSl2_k, kSl3_k, eCall_k, kCall_1, kCall_2, kCall_3, kCall_4, eMeth_k, kMt2_1, kMt2_2, kMt2_3, eFrz_k, view_int', view_str', view_bl', view_non', view_con', addD_int, subD_int, negD_int, gtD_int, ltD_int, geD_int, leD_int, eqD_int, neD_int, eqD_str, neD_str, eqD_bl, isD_non, isntD_non, intC_int, min2_int, conD_0, conD_1, conD_2, conD_3, truD_bl, truD_lst, truD_tup, tupD_lst, lenD_lst, lenD_tup, lenD_scr, ixD_lst, ixD_tup, ixD_scr, startR, List.map_cons, List.map_nil, List.length_cons, List.length_nil, List.cons_append, List.nil_append, List.replicate, List.getElem?_cons_zero, List.getElem?_cons_succ, List.set_cons_zero, List.set_cons_succ, Nat.reduceAdd, Nat.reduceSub, Nat.zero_add, Bool.not_true, Bool.not_false, wipeR], rfl, fun _ => by simp only [R.bind_ok, bind_exc, lift_some, defM_k, kDef_nx, kDef_rt, sSeq_k, kSeq_nx, kSeq_rt, kSeq_bk, kSeq_ct, sRet_k, kRet_k, sDrop_k, kDrop_k, sIf_k, kIf_t, kIf_f, sSet_k, kSet_k, sNext_k, sBreak_k, sCont_k, sAsg_k, kAsg_k, kAsg2_k, gSet_k, gItem_k, kGi1_k, kGi2_k, kGi3_k, gsCons_k, kGs_k, gsNil_k, gTup2, gTup3, sPar_k, kPar_k, sPar3_k, kPar3_k, sFldSet_k, kFs1_k, kFs2_k, kFs3_k, sRaise_k, kRaise_k, tst_k, kTst_k, tBl_k, kTBl_k, tAnd_k, kTAnd_t, kTAnd_f, tOr_k, kTOr_t, kTOr_f, tNot_k, kTNot_k, tYes_k, eC_k, eVar_k, kVar_k, eU1_k, kU1_k, eB2_k, kB2_k, kB2'_k, eCN_k, kCN_k, aNil_k, aCons_k, kAc_k, kAc2_k, hNew_k, kNew_0, kNew_1, kNew_4, eAnd_k, kAnd_t, kAnd_f, eOr_k, kOr_t, kOr_f, eNot_k, kNot_k, eIf_k, kIfE_t, kIfE_f, eChain_k, kCh1_k, kCh2_k, kCh3_t, kCh3_f, oNone_k, oSome_k, kOs_k, eSl_k, kSl1_k, kSl2_k, kSl3_k, eCall_k, kCall_1, kCall_2, kCall_3, kCall_4, eMeth_k, kMt2_1, kMt2_2, kMt2_3, eFrz_k, view_int', view_str', view_bl', view_non', view_con', addD_int, subD_int, negD_int, gtD_int, ltD_int, geD_int, leD_int, eqD_int, neD_int, eqD_str, neD_str, eqD_bl, isD_non, isntD_non, intC_int, min2_int, conD_0, conD_1, conD_2, conD_3, truD_bl, truD_lst, truD_tup, tupD_lst, lenD_lst, lenD_tup, lenD_scr, ixD_lst, ixD_tup, ixD_scr, startR, List.map_cons, List.map_nil, List.length_cons, List.length_nil, List.cons_append, List.nil_append, List.replicate, List.getElem?_cons_zero, List.getElem?_cons_succ, List.set_cons_zero, List.set_cons_succ, Nat.reduceAdd, Nat.reduceSub, Nat.zero_add, Bool.not_true, Bool.not_false, lenD_S (show b.length ≤ 1000000 by omega), S_len]⟩
  have hc : decide (((wts w (freeL B 70 []) : Nat) : Int) = (left : Int)) = true := by
    rw [g.free]
    exact decide_eq_true rfl
  have hnd : ((freeL B 70 []).map List.length).Nodup := by
    refine List.nodup_iff_pairwise_ne.mpr (List.pairwise_map.mpr ?_)
    exact (List.nodup_iff_pairwise_ne.mp g.nodup).imp_of_mem fun {a b} ha hb hne e => hne (g.ap a b ((g.mem a).mp ha) ((g.mem b).mp hb) e)
  have hlen := nodup_len 65 _ hnd fun l hl => by
    obtain ⟨x, hx, rfl⟩ := List.mem_map.mp hl
    have := free_le g.hW ((g.mem x).mp hx)
    have := g.hw
    omega
  rw [List.length_map] at hlen
  have hints : ∀ l : List Bits, intsD (l.map fun x => D.int (x.length : Int)) = some (l.map fun x => (x.length : Int)) := by
    intro l
    induction l with
    | nil => rfl
    | cons a l ih => simp only [List.map_cons, intsD, ih, Option.map_some]
  have hndI : ((freeL B 70 []).map fun x => (x.length : Int)).Nodup := by
    refine List.nodup_iff_pairwise_ne.mpr (List.pairwise_map.mpr ?_)
    exact (List.pairwise_map.mp (List.nodup_iff_pairwise_ne.mp hnd)).imp fun {a b} h e => h (by omega)
  have ls : eLenSet (eVar 9) (rh y0 w left y5 y6 y7 y8 (some (.lst ((freeL B 70 []).map fun x => .int (x.length : Int)))) y10 y11) (mu3 ob w B vs) = .ok (.int ((freeL B 70 []).length : Int)) (mu3 ob w B vs) := by
    unfold eLenSet
    simp only [R.bind_ok, bind_exc, lift_some, defM_k, kDef_nx, kDef_rt, sSeq_k, kSeq_nx, kSeq_rt, kSeq_bk, kSeq_ct, sRet_k, kRet_k, sDrop_k, kDrop_k, sIf_k, kIf_t, kIf_f, sSet_k, kSet_k, sNext_k, sBreak_k, sCont_k, sAsg_k, kAsg_k, kAsg2_k, gSet_k, gItem_k, kGi1_k, kGi2_k, kGi3_k, gsCons_k, kGs_k, gsNil_k, gTup2, gTup3, sPar_k, kPar_k, sPar3_k, kPar3_k, sFldSet_k, kFs1_k, kFs2_k, kFs3_k, sRaise_k, kRaise_k, tst_k, kTst_k, tBl_k, kTBl_k, tAnd_k, kTAnd_t, kTAnd_f, tOr_k, kTOr_t, kTOr_f, tNot_k, kTNot_k, tYes_k, eC_k, eVar_k, kVar_k, eU1_k, kU1_k, eB2_k, kB2_k, kB2'_k, eCN_k, kCN_k, aNil_k, aCons_k, kAc_k, kAc2_k, hNew_k, kNew_0, kNew_1, kNew_4, eAnd_k, kAnd_t, kAnd_f, eOr_k, kOr_t, kOr_f, eNot_k, kNot_k, eIf_k, kIfE_t, kIfE_f, eChain_k, kCh1_k, kCh2_k, kCh3_t, kCh3_f, oNone_k, oSome_k, kOs_k, eSl_k, kSl1_k, kSl2_k, kSl3_k, eCall_k, kCall_1, kCall_2, kCall_3, kCall_4, eMeth_k, kMt2_1, kMt2_2, kMt2_3, eFrz_k, view_int', view_str', view_bl', view_non', view_con', addD_int, subD_int, negD_int, gtD_int, ltD_int, geD_int, leD_int, eqD_int, neD_int, eqD_str, neD_str, eqD_bl, isD_non, isntD_non, intC_int, min2_int, conD_0, conD_1, conD_2, conD_3, truD_bl, truD_lst, truD_tup, tupD_lst, lenD_lst, lenD_tup, lenD_scr, ixD_lst, ixD_tup, ixD_scr, startR, List.map_cons, List.map_nil, List.length_cons, List.length_nil, List.cons_append, List.nil_append, List.replicate, List.getElem?_cons_zero, List.getElem?_cons_succ, List.set_cons_zero, List.set_cons_succ, Nat.reduceAdd, Nat.reduceSub, Nat.zero_add, Bool.not_true, Bool.not_false, hints]
    rw [if_pos ⟨hndI, by rw [List.length_map]; omega⟩, List.length_map]
  have hl : decide (((freeL B 70 []).length : Int) = (((freeL B 70 []).map fun x => D.int (x.length : Int)).length : Int)) = true := by
    rw [List.length_map]
    exact decide_eq_true rfl
  unfold s_law_17 s_law_19
  simp only [R.bind_ok, bind_exc, lift_some, defM_k, kDef_nx, kDef_rt, sSeq_k, kSeq_nx, kSeq_rt, kSeq_bk, kSeq_ct, sRet_k, kRet_k, sDrop_k, kDrop_k, sIf_k, kIf_t, kIf_f, sSet_k, kSet_k, sNext_k, sBreak_k, sCont_k, sAsg_k, kAsg_k, kAsg2_k, gSet_k, gItem_k, kGi1_k, kGi2_k, kGi3_k, gsCons_k, kGs_k, gsNil_k, gTup2, gTup3, sPar_k, kPar_k, sPar3_k, kPar3_k, sFldSet_k, kFs1_k, kFs2_k, kFs3_k, sRaise_k, kRaise_k, tst_k, kTst_k, tBl_k, kTBl_k, tAnd_k, kTAnd_t, kTAnd_f, tOr_k, kTOr_t, kTOr_f, tNot_k, kTNot_k, tYes_k, eC_k, eVar_k, kVar_k, eU1_k, kU1_k, eB2_k, kB2_k, kB2'_k, eCN_k, kCN_k, aNil_k, aCons_k, kAc_k, kAc2_k, hNew_k, kNew_0, kNew_1, kNew_4, eAnd_k, kAnd_t, kAnd_f, eOr_k, kOr_t, kOr_f, eNot_k, kNot_k, eIf_k, kIfE_t, kIfE_f, eChain_k, kCh1_k, kCh2_k, kCh3_t, kCh3_f, oNone_k, oSome_k, kOs_k, eSl_k, kSl1_k, kSl2_k, kSl3_k, eCall_k, kCall_1, kCall_2, kCall_3, kCall_4, eMeth_k, kMt2_1, kMt2_2, kMt2_3, eFrz_k, view_int', view_str', view_bl', view_non', view_con', addD_int, subD_int, negD_int, gtD_int, ltD_int, geD_int, leD_int, eqD_int, neD_int, eqD_str, neD_str, eqD_bl, isD_non, isntD_non, intC_int, min2_int, conD_0, conD_1, conD_2, conD_3, truD_bl, truD_lst, truD_tup, tupD_lst, lenD_lst, lenD_tup, lenD_scr, ixD_lst, ixD_tup, ixD_scr, startR, List.map_cons, List.map_nil, List.length_cons, List.length_nil, List.cons_append, List.nil_append, List.replicate, List.getElem?_cons_zero, List.getElem?_cons_succ, List.set_cons_zero, List.set_cons_succ, Nat.reduceAdd, Nat.reduceSub, Nat.zero_add, Bool.not_true, Bool.not_false, cl, count_ok P, hc, ls, hl]
/-- giving -/
theorem turn_give (g : Gd w B vs left) (ho : IsRow ob) (hB : B.length ≤ 300) {L : Nat} (hL : L ≤ w) (hs : 2 ^ (w - L) ≤ left) : ∃ (ob' : Ob) (C : List Bits) (ws : List D) (y8' : Option D), IsRow ob' ∧ Gd w C ws (left - 2 ^ (w - L)) ∧ C.length ≤ B.length + 2 ∧
    sSeq s_law_8 (sSeq s_law_9 (sSeq s_law_11 s_law_15)) (rh y0 w left y5 (some (.int (L : Int))) (some (.int ((2 ^ (w - L) : Nat) : Int))) y8 y9 y10 y11) (mu3 ob w B vs) =
      .ok (.nx, rh y0 w (left - 2 ^ (w - L)) y5 (some (.int (L : Int))) (some (.int ((2 ^ (w - L) : Nat) : Int))) y8' y9 y10 y11) (mu3 ob' w C ws) := by
  have P := g.pool ho (show B.length ≤ 400 by omega)
  have hw := g.hw
  obtain ⟨x0, hx0, hl0⟩ := g.some hL hs
  obtain ⟨f, hf, hfl, hm, e⟩ := give_ok P hL hx0 hl0 (ow := 1) (by decide)
  rw [set2] at e
  have g1 := g.give hL hs hf hfl hm
  have hbl : (f ++ List.replicate (L - f.length) false).length = L := by simp; omega
  have anB := g.an
  generalize hb : f ++ List.replicate (L - f.length) false = b at e g1 hbl
  have P1 := g1.pool ho (show (B ++ [b]).length ≤ 400 by simp; omega)
  have e4 : (left : Int) - ((2 ^ (w - L) : Nat) : Int) = ((left - 2 ^ (w - L) : Nat) : Int) := by omega
  have e5 : decide ((b.length : Int) = (L : Int)) = true := decide_eq_true (by omega)
  have e8 := P.meth (mn := "give_block") (f := s_Pool_give_block) (n := 3) (a := aCons (eVar 6) (aCons (eC (.int 1)) aNil)) (ρ := rh y0 w left y5 (some (.int (L : Int))) (some (.int ((2 ^ (w - L) : Nat) : Int))) y8 y9 y10 y11) (by decide)
  have head : ∀ s : MS, sSeq s_law_8 (sSeq s_law_9 (sSeq s_law_11 s)) (rh y0 w left y5 (some (.int (L : Int))) (some (.int ((2 ^ (w - L) : Nat) : Int))) y8 y9 y10 y11) (mu3 ob w B vs) =
      s (rh y0 w (left - 2 ^ (w - L)) y5 (some (.int (L : Int))) (some (.int ((2 ^ (w - L) : Nat) : Int))) (some (.str (S b))) y9 y10 y11) (mu3 ob w (B ++ [b]) (vs ++ [.int 1])) := fun s => by
    unfold s_law_8 s_law_9 s_law_11
    simp only [R.bind_ok, bind_exc, lift_some, defM_k, kDef_nx, kDef_rt, sSeq_k, kSeq_nx, kSeq_rt, kSeq_bk, kSeq_ct, sRet_k, kRet_k, sDrop_k, kDrop_k, sIf_k, kIf_t, kIf_f, sSet_k, kSet_k, sNext_k, sBreak_k, sCont_k, sAsg_k, kAsg_k, kAsg2_k, gSet_k, gItem_k, kGi1_k, kGi2_k, kGi3_k, gsCons_k, kGs_k, gsNil_k, gTup2, gTup3, sPar_k, kPar_k, sPar3_k, kPar3_k, sFldSet_k, kFs1_k, kFs2_k, kFs3_k, sRaise_k, kRaise_k, tst_k, kTst_k, tBl_k, kTBl_k, tAnd_k, kTAnd_t, kTAnd_f, tOr_k, kTOr_t, kTOr_f, tNot_k, kTNot_k, tYes_k, eC_k, eVar_k, kVar_k, eU1_k, kU1_k, eB2_k, kB2_k, kB2'_k, eCN_k, kCN_k, aNil_k, aCons_k, kAc_k, kAc2_k, hNew_k, kNew_0, kNew_1, kNew_4, eAnd_k, kAnd_t, kAnd_f, eOr_k, kOr_t, kOr_f, eNot_k, kNot_k, eIf_k, kIfE_t, kIfE_f, eChain_k, kCh1_k, kCh2_k, kCh3_t, kCh3_f, oNone_k, oSome_k, kOs_k, eSl_k, kSl1_k, kSl2_k, kSl3_k, eCall_k, kCall_1, kCall_2, kCall_3, kCall_4, eMeth_k, kMt2_1, kMt2_2, kMt2_3, eFrz_k, view_int', view_str', view_bl', view_non', view_con', addD_int, subD_int, negD_int, gtD_int, ltD_int, geD_int, leD_int, eqD_int, neD_int, eqD_str, neD_str, eqD_bl, isD_non, isntD_non, intC_int, min2_int, conD_0, conD_1, conD_2, conD_3, truD_bl, truD_lst, truD_tup, tupD_lst, lenD_lst, lenD_tup, lenD_scr, ixD_lst, ixD_tup, ixD_scr, startR, List.map_cons, List.map_nil, List.length_cons, List.length_nil, List.cons_append, List.nil_append, List.replicate, List.getElem?_cons_zero, List.getElem?_cons_succ, List.set_cons_zero, List.set_cons_succ, Nat.reduceAdd, Nat.reduceSub, Nat.zero_add, Bool.not_true, Bool.not_false, e8, e, e4, lenD_S (show b.length ≤ 1000000 by omega), e5]
  rw [head]
  by_cases hlt : L < w
  · have hlt' : decide ((L : Int) < (w : Int)) = true := decide_eq_true (by omega)
    obtain ⟨v, ob1, t1, v0, v1, ho1⟩ := taken_ok (μ := mu3 ob w (B ++ [b]) (vs ++ [.int 1])) (r := 0) rfl ho (show (0 : Int) < 3 by decide) (by decide)
    rw [set0] at t1
    by_cases hv : v = 0
    · have hbm : b ∈ B ++ [b] := by simp
      obtain ⟨d, hd, hf1⟩ := find_some (vs := vs ++ [.int 1]) g1.hl hbm
      have hd1 := g1.on d hd
      subst hd1
      have P2 := g1.pool ho1 (show (B ++ [b]).length ≤ 400 by simp; omega)
      have sp := split_ok P2 (by decide) hbm (by omega) g1.an g1.nd (by simp; omega) hf1
      rw [set2] at sp
      have g2 := g1.split hbm (by omega)
      have lC : (split (B ++ [b]) b).length ≤ B.length + 2 := by
        unfold split
        have := List.length_filter_le (fun a => decide (a ≠ b)) (B ++ [b])
        simp only [List.length_append, List.length_singleton] at this ⊢
        have hlt2 : ((B ++ [b]).filter fun a => decide (a ≠ b)).length < (B ++ [b]).length := by
          refine List.length_filter_lt_length_iff_exists.mpr ⟨b, hbm, by simp⟩
        simp only [List.length_append, List.length_singleton] at hlt2
        omega
      generalize hC : split (B ++ [b]) b = C at sp g2 lC
      generalize hws : splitV (B ++ [b]) (vs ++ [.int 1]) b (.int 1) = ws at sp g2
      have P3 := g2.pool ho1 (show C.length ≤ 400 by omega)
      obtain ⟨u, ob2, t2, u0, u1, ho2⟩ := taken_ok (μ := mu3 ob1 w C ws) (r := 0) rfl ho1 (show (0 : Int) < 2 by decide) (by decide)
      rw [set0] at t2
      have ms := P2.meth (mn := "split_block") (f := s_Pool_split_block) (n := 2) (a := aCons (eVar 8) aNil) (ρ := rh y0 w (left - 2 ^ (w - L)) y5 (some (.int (L : Int))) (some (.int ((2 ^ (w - L) : Nat) : Int))) (some (.str (S b))) y9 y10 y11) (by decide)
      by_cases hu : u = 0
      · have P4 := g2.pool ho2 (show C.length ≤ 400 by omega)
        have mm := P4.meth (mn := "merge_block") (f := s_Pool_merge_block) (n := 2) (a := aCons (eVar 8) aNil) (ρ := rh y0 w (left - 2 ^ (w - L)) y5 (some (.int (L : Int))) (some (.int ((2 ^ (w - L) : Nat) : Int))) (some (.str (S b))) y9 y10 y11) (by decide)
        have m0 : b ++ [false] ∈ C := by rw [← hC]; unfold split; simp
        have m1 : b ++ [true] ∈ C := by rw [← hC]; unfold split; simp
        have mb : b ∉ C := by rw [← hC]; unfold split; simp
        obtain ⟨d0, hd0, f0⟩ := find_some g2.hl m0
        obtain ⟨d1, hd1, f1⟩ := find_some g2.hl m1
        have := g2.on d0 hd0
        subst this
        have := g2.on d1 hd1
        subst this
        have me := merge_ok P4 (by decide) (b := b) (by omega) mb f0 f1
        rw [set2] at me
        have hp : (merge C b).Perm (B ++ [b]) := by
          rw [← hC]
          exact merge_perm g1.nd g1.an hbm
        have g3 := g1.same (C := merge C b) (ws := mergeV C ws b (.int 1)) hp (by
          unfold mergeV merge
          rw [List.length_append, List.length_append, dropDs_len _ _ _ (dropDs_len C ws _ g2.hl)]
          rfl) (fun v hv => by
          unfold mergeV at hv
          rcases List.mem_append.mp hv with hv | hv
          · exact g2.on v (dropDs_sub _ _ _ v (dropDs_sub _ _ _ v hv))
          · exact List.mem_singleton.mp hv)
        refine ⟨ob2, _, _, some (.str (S b)), ho2, g3, by rw [hp.length_eq]; simp, ?_⟩
        unfold s_law_15 s_law_12 s_law_14 s_law_13
        rw [taken_eq]
        simp only [R.bind_ok, bind_exc, lift_some, defM_k, kDef_nx, kDef_rt, sSeq_k, kSeq_nx, kSeq_rt, kSeq_bk, kSeq_ct, sRet_k, kRet_k, sDrop_k, kDrop_k, sIf_k, kIf_t, kIf_f, sSet_k, kSet_k, sNext_k, sBreak_k, sCont_k, sAsg_k, kAsg_k, kAsg2_k, gSet_k, gItem_k, kGi1_k, kGi2_k, kGi3_k, gsCons_k, kGs_k, gsNil_k, gTup2, gTup3, sPar_k, kPar_k, sPar3_k, kPar3_k, sFldSet_k, kFs1_k, kFs2_k, kFs3_k, sRaise_k, kRaise_k, tst_k, kTst_k, tBl_k, kTBl_k, tAnd_k, kTAnd_t, kTAnd_f, tOr_k, kTOr_t, kTOr_f, tNot_k, kTNot_k, tYes_k, eC_k, eVar_k, kVar_k, eU1_k, kU1_k, eB2_k, kB2_k, kB2'_k, eCN_k, kCN_k, aNil_k, aCons_k, kAc_k, kAc2_k, hNew_k, kNew_0, kNew_1, kNew_4, eAnd_k, kAnd_t, kAnd_f, eOr_k, kOr_t, kOr_f, eNot_k, kNot_k, eIf_k, kIfE_t, kIfE_f, eChain_k, kCh1_k, kCh2_k, kCh3_t, kCh3_f, oNone_k, oSome_k, kOs_k, eSl_k, kSl1_k, kSl2_k, kSl3_k, eCall_k, kCall_1, kCall_2, kCall_3, kCall_4, eMeth_k, kMt2_1, kMt2_2, kMt2_3, eFrz_k, view_int', view_str', view_bl', view_non', view_con', addD_int, subD_int, negD_int, gtD_int, ltD_int, geD_int, leD_int, eqD_int, neD_int, eqD_str, neD_str, eqD_bl, isD_non, isntD_non, intC_int, min2_int, conD_0, conD_1, conD_2, conD_3, truD_bl, truD_lst, truD_tup, tupD_lst, lenD_lst, lenD_tup, lenD_scr, ixD_lst, ixD_tup, ixD_scr, startR, List.map_cons, List.map_nil, List.length_cons, List.length_nil, List.cons_append, List.nil_append, List.replicate, List.getElem?_cons_zero, List.getElem?_cons_succ, List.set_cons_zero, List.set_cons_succ, Nat.reduceAdd, Nat.reduceSub, Nat.zero_add, Bool.not_true, Bool.not_false, hlt', t1, hv, decide_true, ms, sp, t2, hu, mm, me]
      · refine ⟨ob2, C, ws, some (.str (S b)), ho2, g2, lC, ?_⟩
        unfold s_law_15 s_law_12 s_law_14 s_law_13
        rw [taken_eq]
        simp only [R.bind_ok, bind_exc, lift_some, defM_k, kDef_nx, kDef_rt, sSeq_k, kSeq_nx, kSeq_rt, kSeq_bk, kSeq_ct, sRet_k, kRet_k, sDrop_k, kDrop_k, sIf_k, kIf_t, kIf_f, sSet_k, kSet_k, sNext_k, sBreak_k, sCont_k, sAsg_k, kAsg_k, kAsg2_k, gSet_k, gItem_k, kGi1_k, kGi2_k, kGi3_k, gsCons_k, kGs_k, gsNil_k, gTup2, gTup3, sPar_k, kPar_k, sPar3_k, kPar3_k, sFldSet_k, kFs1_k, kFs2_k, kFs3_k, sRaise_k, kRaise_k, tst_k, kTst_k, tBl_k, kTBl_k, tAnd_k, kTAnd_t, kTAnd_f, tOr_k, kTOr_t, kTOr_f, tNot_k, kTNot_k, tYes_k, eC_k, eVar_k, kVar_k, eU1_k, kU1_k, eB2_k, kB2_k, kB2'_k, eCN_k, kCN_k, aNil_k, aCons_k, kAc_k, kAc2_k, hNew_k, kNew_0, kNew_1, kNew_4, eAnd_k, kAnd_t, kAnd_f, eOr_k, kOr_t, kOr_f, eNot_k, kNot_k, eIf_k, kIfE_t, kIfE_f, eChain_k, kCh1_k, kCh2_k, kCh3_t, kCh3_f, oNone_k, oSome_k, kOs_k, eSl_k, kSl1_k, kSl2_k, kSl3_k, eCall_k, kCall_1, kCall_2, kCall_3, kCall_4, eMeth_k, kMt2_1, kMt2_2, kMt2_3, eFrz_k, view_int', view_str', view_bl', view_non', view_con', addD_int, subD_int, negD_int, gtD_int, ltD_int, geD_int, leD_int, eqD_int, neD_int, eqD_str, neD_str, eqD_bl, isD_non, isntD_non, intC_int, min2_int, conD_0, conD_1, conD_2, conD_3, truD_bl, truD_lst, truD_tup, tupD_lst, lenD_lst, lenD_tup, lenD_scr, ixD_lst, ixD_tup, ixD_scr, startR, List.map_cons, List.map_nil, List.length_cons, List.length_nil, List.cons_append, List.nil_append, List.replicate, List.getElem?_cons_zero, List.getElem?_cons_succ, List.set_cons_zero, List.set_cons_succ, Nat.reduceAdd, Nat.reduceSub, Nat.zero_add, Bool.not_true, Bool.not_false, hlt', t1, hv, decide_true, ms, sp, t2, hu, decide_false]
    · refine ⟨ob1, _, _, some (.str (S b)), ho1, g1, by simp, ?_⟩
      unfold s_law_15
      rw [taken_eq]
      simp only [R.bind_ok, bind_exc, lift_some, defM_k, kDef_nx, kDef_rt, sSeq_k, kSeq_nx, kSeq_rt, kSeq_bk, kSeq_ct, sRet_k, kRet_k, sDrop_k, kDrop_k, sIf_k, kIf_t, kIf_f, sSet_k, kSet_k, sNext_k, sBreak_k, sCont_k, sAsg_k, kAsg_k, kAsg2_k, gSet_k, gItem_k, kGi1_k, kGi2_k, kGi3_k, gsCons_k, kGs_k, gsNil_k, gTup2, gTup3, sPar_k, kPar_k, sPar3_k, kPar3_k, sFldSet_k, kFs1_k, kFs2_k, kFs3_k, sRaise_k, kRaise_k, tst_k, kTst_k, tBl_k, kTBl_k, tAnd_k, kTAnd_t, kTAnd_f, tOr_k, kTOr_t, kTOr_f, tNot_k, kTNot_k, tYes_k, eC_k, eVar_k, kVar_k, eU1_k, kU1_k, eB2_k, kB2_k, kB2'_k, eCN_k, kCN_k, aNil_k, aCons_k, kAc_k, kAc2_k, hNew_k, kNew_0, kNew_1, kNew_4, eAnd_k, kAnd_t, kAnd_f, eOr_k, kOr_t, kOr_f, eNot_k, kNot_k, eIf_k, kIfE_t, kIfE_f, eChain_k, kCh1_k, kCh2_k, kCh3_t, kCh3_f, oNone_k, oSome_k, kOs_k, eSl_k, kSl1_k, kSl2_k, kSl3_k, eCall_k, kCall_1, kCall_2, kCall_3, kCall_4, eMeth_k, kMt2_1, kMt2_2, kMt2_3, eFrz_k, view_int', view_str', view_bl', view_non', view_con', addD_int, subD_int, negD_int, gtD_int, ltD_int, geD_int, leD_int, eqD_int, neD_int, eqD_str, neD_str, eqD_bl, isD_non, isntD_non, intC_int, min2_int, conD_0, conD_1, conD_2, conD_3, truD_bl, truD_lst, truD_tup, tupD_lst, lenD_lst, lenD_tup, lenD_scr, ixD_lst, ixD_tup, ixD_scr, startR, List.map_cons, List.map_nil, List.length_cons, List.length_nil, List.cons_append, List.nil_append, List.replicate, List.getElem?_cons_zero, List.getElem?_cons_succ, List.set_cons_zero, List.set_cons_succ, Nat.reduceAdd, Nat.reduceSub, Nat.zero_add, Bool.not_true, Bool.not_false, hlt', t1, hv, decide_true, decide_false]
  · have hlt' : decide ((L : Int) < (w : Int)) = false := decide_eq_false (by omega)
    refine ⟨ob, _, _, some (.str (S b)), ho, g1, by simp, ?_⟩
    unfold s_law_15
    simp only [R.bind_ok, bind_exc, lift_some, defM_k, kDef_nx, kDef_rt, sSeq_k, kSeq_nx, kSeq_rt, kSeq_bk, kSeq_ct, sRet_k, kRet_k, sDrop_k, kDrop_k, sIf_k, kIf_t, kIf_f, sSet_k, kSet_k, sNext_k, sBreak_k, sCont_k, sAsg_k, kAsg_k, kAsg2_k, gSet_k, gItem_k, kGi1_k, kGi2_k, kGi3_k, gsCons_k, kGs_k, gsNil_k, gTup2, gTup3, sPar_k, kPar_k, sPar3_k, kPar3_k, sFldSet_k, kFs1_k, kFs2_k, kFs3_k, sRaise_k, kRaise_k, tst_k, kTst_k, tBl_k, kTBl_k, tAnd_k, kTAnd_t, kTAnd_f, tOr_k, kTOr_t, kTOr_f, tNot_k, kTNot_k, tYes_k, eC_k, eVar_k, kVar_k, eU1_k, kU1_k, eB2_k, kB2_k, kB2'_k, eCN_k, kCN_k, aNil_k, aCons_k, kAc_k, kAc2_k, hNew_k, kNew_0, kNew_1, kNew_4, eAnd_k, kAnd_t, kAnd_f, eOr_k, kOr_t, kOr_f, eNot_k, kNot_k, eIf_k, kIfE_t, kIfE_f, eChain_k, kCh1_k, kCh2_k, kCh3_t, kCh3_f, oNone_k, oSome_k, kOs_k, eSl_k, kSl1_k, kSl2_k, kSl3_k, eCall_k, kCall_1, kCall_2, kCall_3, kCall_4, eMeth_k, kMt2_1, kMt2_2, kMt2_3, eFrz_k, view_int', view_str', view_bl', view_non', view_con', addD_int, subD_int, negD_int, gtD_int, ltD_int, geD_int, leD_int, eqD_int, neD_int, eqD_str, neD_str, eqD_bl, isD_non, isntD_non, intC_int, min2_int, conD_0, conD_1, conD_2, conD_3, truD_bl, truD_lst, truD_tup, tupD_lst, lenD_lst, lenD_tup, lenD_scr, ixD_lst, ixD_tup, ixD_scr, startR, List.map_cons, List.map_nil, List.length_cons, List.length_nil, List.cons_append, List.nil_append, List.replicate, List.getElem?_cons_zero, List.getElem?_cons_succ, List.set_cons_zero, List.set_cons_succ, Nat.reduceAdd, Nat.reduceSub, Nat.zero_add, Bool.not_true, Bool.not_false, hlt']
theorem turn_ok (g : Gd w B vs left) (ho : IsRow ob) (hB : B.length ≤ 300) : ∃ (ob' : Ob) (C : List Bits) (ws : List D) (left' : Nat) (y6' y7' y8' y9' : Option D), IsRow ob' ∧ Gd w C ws left' ∧ C.length ≤ B.length + 2 ∧
    sSeq s_law_4 (sSeq s_law_5 (sSeq s_law_16 (sSeq s_law_17 s_law_19))) (rh y0 w left y5 y6 y7 y8 y9 y10 y11) (mu3 ob w B vs) = .ok (.nx, rh y0 w left' y5 y6' y7' y8' y9' y10 y11) (mu3 ob' w C ws) := by
  have hw := g.hw
  obtain ⟨L, ob1, hL, e1, ho1⟩ := block_ok (μ := mu3 ob w B vs) (r := 0) rfl ho hw
  rw [set0] at e1
  have e2 : (w : Int) - (L : Int) = ((w - L : Nat) : Int) := by omega
  have e3 : ∀ μ : Mu, shlD μ (.int 1) (.int ((w - L : Nat) : Int)) = some (.int ((2 ^ (w - L) : Nat) : Int)) := fun μ => shlD_1 (by omega)
  have head : ∀ s : MS, sSeq s_law_4 (sSeq s_law_5 s) (rh y0 w left y5 y6 y7 y8 y9 y10 y11) (mu3 ob w B vs) = s (rh y0 w left y5 (some (.int (L : Int))) (some (.int ((2 ^ (w - L) : Nat) : Int))) y8 y9 y10 y11) (mu3 ob1 w B vs) := fun s => by
    unfold s_law_4 s_law_5
    simp only [R.bind_ok, bind_exc, lift_some, defM_k, kDef_nx, kDef_rt, sSeq_k, kSeq_nx, kSeq_rt, kSeq_bk, kSeq_ct, sRet_k, kRet_k, sDrop_k, kDrop_k, sIf_k, kIf_t, kIf_f, sSet_k, kSet_k, sNext_k, sBreak_k, sCont_k, sAsg_k, kAsg_k, kAsg2_k, gSet_k, gItem_k, kGi1_k, kGi2_k, kGi3_k, gsCons_k, kGs_k, gsNil_k, gTup2, gTup3, sPar_k, kPar_k, sPar3_k, kPar3_k, sFldSet_k, kFs1_k, kFs2_k, kFs3_k, sRaise_k, kRaise_k, tst_k, kTst_k, tBl_k, kTBl_k, tAnd_k, kTAnd_t, kTAnd_f, tOr_k, kTOr_t, kTOr_f, tNot_k, kTNot_k, tYes_k, eC_k, eVar_k, kVar_k, eU1_k, kU1_k, eB2_k, kB2_k, kB2'_k, eCN_k, kCN_k, aNil_k, aCons_k, kAc_k, kAc2_k, hNew_k, kNew_0, kNew_1, kNew_4, eAnd_k, kAnd_t, kAnd_f, eOr_k, kOr_t, kOr_f, eNot_k, kNot_k, eIf_k, kIfE_t, kIfE_f, eChain_k, kCh1_k, kCh2_k, kCh3_t, kCh3_f, oNone_k, oSome_k, kOs_k, eSl_k, kSl1_k, kSl2_k, kSl3_k, eCall_k, kCall_1, kCall_2, kCall_3, kCall_4, eMeth_k, kMt2_1, kMt2_2, kMt2_3, eFrz_k, view_int', view_str', view_bl', view_non', view_con', addD_int, subD_int, negD_int, gtD_int, ltD_int, geD_int, leD_int, eqD_int, neD_int, eqD_str, neD_str, eqD_bl, isD_non, isntD_non, intC_int, min2_int, conD_0, conD_1, conD_2, conD_3, truD_bl, truD_lst, truD_tup, tupD_lst, lenD_lst, lenD_tup, lenD_scr, ixD_lst, ixD_tup, ixD_scr, startR, List.map_cons, List.map_nil, List.length_cons, List.length_nil, List.cons_append, List.nil_append, List.replicate, List.getElem?_cons_zero, List.getElem?_cons_succ, List.set_cons_zero, List.set_cons_succ, Nat.reduceAdd, Nat.reduceSub, Nat.zero_add, Bool.not_true, Bool.not_false, e1, e2, e3]
  rw [head]
  by_cases hs : 2 ^ (w - L) ≤ left
  · obtain ⟨ob2, C, ws, y8', ho2, g2, lC, e4⟩ := turn_give (y0 := y0) (y5 := y5) (y8 := y8) (y9 := y9) (y10 := y10) (y11 := y11) g ho1 hB hL hs
    have e5 := end_ok (y0 := y0) (y5 := y5) (y6 := some (.int (L : Int))) (y7 := some (.int ((2 ^ (w - L) : Nat) : Int))) (y8 := y8') (y9 := y9) (y10 := y10) (y11 := y11) g2 ho2 (by omega)
    have gt : decide ((left : Int) < ((2 ^ (w - L) : Nat) : Int)) = false := decide_eq_false (by omega)
    have e6 : s_law_16 (rh y0 w left y5 (some (.int (L : Int))) (some (.int ((2 ^ (w - L) : Nat) : Int))) y8 y9 y10 y11) (mu3 ob1 w B vs) = .ok (.nx, rh y0 w (left - 2 ^ (w - L)) y5 (some (.int (L : Int))) (some (.int ((2 ^ (w - L) : Nat) : Int))) y8' y9 y10 y11) (mu3 ob2 w C ws) := by
      rw [← e4]
      unfold s_law_16
      rw [sIf_k]
      simp only [tBl_k, eB2_k, eVar_k, kVar_k, R.bind_ok, kB2_k, kB2'_k, gtD_int, lift_some, kTBl_k, gt, kIf_f, List.getElem?_cons_zero, List.getElem?_cons_succ]
    have e7 : sSeq s_law_16 (sSeq s_law_17 s_law_19) (rh y0 w left y5 (some (.int (L : Int))) (some (.int ((2 ^ (w - L) : Nat) : Int))) y8 y9 y10 y11) (mu3 ob1 w B vs) =
        sSeq s_law_17 s_law_19 (rh y0 w (left - 2 ^ (w - L)) y5 (some (.int (L : Int))) (some (.int ((2 ^ (w - L) : Nat) : Int))) y8' y9 y10 y11) (mu3 ob2 w C ws) := by
      rw [sSeq_k, e6]
      rfl
    exact ⟨ob2, C, ws, _, _, _, _, _, ho2, g2, lC, e7.trans e5⟩
  · have P1 := g.pool ho1 (show B.length ≤ 400 by omega)
    have gt : decide ((left : Int) < ((2 ^ (w - L) : Nat) : Int)) = true := decide_eq_true (by omega)
    have gn := give_none P1 hL (fun x hx => g.none hL (by omega) hx) (ow := 1) (by decide)
    obtain ⟨s, rs⟩ := repr_room (μ := mu3 ob1 w B vs) (L := L) (by omega)
    have e5 := end_ok (y0 := y0) (y5 := y5) (y6 := some (.int (L : Int))) (y7 := some (.int ((2 ^ (w - L) : Nat) : Int))) (y8 := y8) (y9 := y9) (y10 := y10) (y11 := y11) g ho1 (by omega)
    have mt := P1.meth (mn := "give_block") (f := s_Pool_give_block) (n := 3) (a := aCons (eVar 6) (aCons (eC (.int 1)) aNil)) (ρ := rh y0 w left y5 (some (.int (L : Int))) (some (.int ((2 ^ (w - L) : Nat) : Int))) y8 y9 y10 y11) (by decide)
    have rf : eRef refL (eMeth "Pool" "give_block" s_Pool_give_block 3 (eVar 3) (aCons (eVar 6) (aCons (eC (.int 1)) aNil))) (rh y0 w left y5 (some (.int (L : Int))) (some (.int ((2 ^ (w - L) : Nat) : Int))) y8 y9 y10 y11) (mu3 ob1 w B vs) = .ok (.con .tup [.str "room", .int (L : Int)]) (mu3 ob1 w B vs) := by
      unfold eRef
      simp only [R.bind_ok, bind_exc, lift_some, defM_k, kDef_nx, kDef_rt, sSeq_k, kSeq_nx, kSeq_rt, kSeq_bk, kSeq_ct, sRet_k, kRet_k, sDrop_k, kDrop_k, sIf_k, kIf_t, kIf_f, sSet_k, kSet_k, sNext_k, sBreak_k, sCont_k, sAsg_k, kAsg_k, kAsg2_k, gSet_k, gItem_k, kGi1_k, kGi2_k, kGi3_k, gsCons_k, kGs_k, gsNil_k, gTup2, gTup3, sPar_k, kPar_k, sPar3_k, kPar3_k, sFldSet_k, kFs1_k, kFs2_k, kFs3_k, sRaise_k, kRaise_k, tst_k, kTst_k, tBl_k, kTBl_k, tAnd_k, kTAnd_t, kTAnd_f, tOr_k, kTOr_t, kTOr_f, tNot_k, kTNot_k, tYes_k, eC_k, eVar_k, kVar_k, eU1_k, kU1_k, eB2_k, kB2_k, kB2'_k, eCN_k, kCN_k, aNil_k, aCons_k, kAc_k, kAc2_k, hNew_k, kNew_0, kNew_1, kNew_4, eAnd_k, kAnd_t, kAnd_f, eOr_k, kOr_t, kOr_f, eNot_k, kNot_k, eIf_k, kIfE_t, kIfE_f, eChain_k, kCh1_k, kCh2_k, kCh3_t, kCh3_f, oNone_k, oSome_k, kOs_k, eSl_k, kSl1_k, kSl2_k, kSl3_k, eCall_k, kCall_1, kCall_2, kCall_3, kCall_4, eMeth_k, kMt2_1, kMt2_2, kMt2_3, eFrz_k, view_int', view_str', view_bl', view_non', view_con', addD_int, subD_int, negD_int, gtD_int, ltD_int, geD_int, leD_int, eqD_int, neD_int, eqD_str, neD_str, eqD_bl, isD_non, isntD_non, intC_int, min2_int, conD_0, conD_1, conD_2, conD_3, truD_bl, truD_lst, truD_tup, tupD_lst, lenD_lst, lenD_tup, lenD_scr, ixD_lst, ixD_tup, ixD_scr, startR, List.map_cons, List.map_nil, List.length_cons, List.length_nil, List.cons_append, List.nil_append, List.replicate, List.getElem?_cons_zero, List.getElem?_cons_succ, List.set_cons_zero, List.set_cons_succ, Nat.reduceAdd, Nat.reduceSub, Nat.zero_add, Bool.not_true, Bool.not_false, mt, gn]
      exact trunc_same
    have e6 : s_law_16 (rh y0 w left y5 (some (.int (L : Int))) (some (.int ((2 ^ (w - L) : Nat) : Int))) y8 y9 y10 y11) (mu3 ob1 w B vs) = .ok (.nx, rh y0 w left y5 (some (.int (L : Int))) (some (.int ((2 ^ (w - L) : Nat) : Int))) y8 y9 y10 y11) (mu3 ob1 w B vs) := by
      unfold s_law_16 s_law_7
      simp only [R.bind_ok, bind_exc, lift_some, defM_k, kDef_nx, kDef_rt, sSeq_k, kSeq_nx, kSeq_rt, kSeq_bk, kSeq_ct, sRet_k, kRet_k, sDrop_k, kDrop_k, sIf_k, kIf_t, kIf_f, sSet_k, kSet_k, sNext_k, sBreak_k, sCont_k, sAsg_k, kAsg_k, kAsg2_k, gSet_k, gItem_k, kGi1_k, kGi2_k, kGi3_k, gsCons_k, kGs_k, gsNil_k, gTup2, gTup3, sPar_k, kPar_k, sPar3_k, kPar3_k, sFldSet_k, kFs1_k, kFs2_k, kFs3_k, sRaise_k, kRaise_k, tst_k, kTst_k, tBl_k, kTBl_k, tAnd_k, kTAnd_t, kTAnd_f, tOr_k, kTOr_t, kTOr_f, tNot_k, kTNot_k, tYes_k, eC_k, eVar_k, kVar_k, eU1_k, kU1_k, eB2_k, kB2_k, kB2'_k, eCN_k, kCN_k, aNil_k, aCons_k, kAc_k, kAc2_k, hNew_k, kNew_0, kNew_1, kNew_4, eAnd_k, kAnd_t, kAnd_f, eOr_k, kOr_t, kOr_f, eNot_k, kNot_k, eIf_k, kIfE_t, kIfE_f, eChain_k, kCh1_k, kCh2_k, kCh3_t, kCh3_f, oNone_k, oSome_k, kOs_k, eSl_k, kSl1_k, kSl2_k, kSl3_k, eCall_k, kCall_1, kCall_2, kCall_3, kCall_4, eMeth_k, kMt2_1, kMt2_2, kMt2_3, eFrz_k, view_int', view_str', view_bl', view_non', view_con', addD_int, subD_int, negD_int, gtD_int, ltD_int, geD_int, leD_int, eqD_int, neD_int, eqD_str, neD_str, eqD_bl, isD_non, isntD_non, intC_int, min2_int, conD_0, conD_1, conD_2, conD_3, truD_bl, truD_lst, truD_tup, tupD_lst, lenD_lst, lenD_tup, lenD_scr, ixD_lst, ixD_tup, ixD_scr, startR, List.map_cons, List.map_nil, List.length_cons, List.length_nil, List.cons_append, List.nil_append, List.replicate, List.getElem?_cons_zero, List.getElem?_cons_succ, List.set_cons_zero, List.set_cons_succ, Nat.reduceAdd, Nat.reduceSub, Nat.zero_add, Bool.not_true, Bool.not_false, gt, rf, rs, decide_true]
    have e7 : sSeq s_law_16 (sSeq s_law_17 s_law_19) (rh y0 w left y5 (some (.int (L : Int))) (some (.int ((2 ^ (w - L) : Nat) : Int))) y8 y9 y10 y11) (mu3 ob1 w B vs) =
        sSeq s_law_17 s_law_19 (rh y0 w left y5 (some (.int (L : Int))) (some (.int ((2 ^ (w - L) : Nat) : Int))) y8 y9 y10 y11) (mu3 ob1 w B vs) := by
      rw [sSeq_k, e6]
      rfl
    exact ⟨ob1, B, vs, left, _, _, _, _, ho1, g, by omega, e7.trans e5⟩
end
end
end K18

namespace K18
open PySem PySem.Spec L2 MP
open PySem.W (dataLe AllAlike Sortable alike)
noncomputable section
theorem strs_py : ∀ l : List Bits, toPyL (txs l) = some (l.map fun b => PyData.str (S b))
  | [] => rfl
  | a :: l => by
    have ih := strs_py l
    unfold txs at ih ⊢
    rw [List.map_cons, List.map_cons]
    unfold toPyL
    rw [ih]
    rfl
theorem strs_cond {l : List Bits} (h : l.length ≤ 100000) : pyCond (l.map fun b => PyData.str (S b)) := by
  refine ⟨fun x hx y hy => ?_, .inr fun x hx => ?_, by rw [List.length_map, sizeLine_eq]; omega, fun x hx => ?_⟩
  · obtain ⟨a, _, rfl⟩ := List.mem_map.mp hx
    obtain ⟨b, _, rfl⟩ := List.mem_map.mp hy
    simp [alike]
  · obtain ⟨a, _, rfl⟩ := List.mem_map.mp hx
    simp
  · obtain ⟨a, _, rfl⟩ := List.mem_map.mp hx
    simp [PyData.depth]
def sortB (l : List Bits) : List Bits := l.mergeSort (dataLe false fun b => PyData.str (S b))
theorem sortB_perm (l : List Bits) : (sortB l).Perm l := List.mergeSort_perm _ _
theorem sort_strs {l : List Bits} (h : l.length ≤ 100000) : sortL (txs l) = some (txs (sortB l)) := by
  unfold sortL
  rw [strs_py l]
  simp only
  rw [if_pos (strs_cond h)]
  congr 1
  have e : (txs l).zip (l.map fun b => PyData.str (S b)) = l.map fun b => (D.str (S b), PyData.str (S b)) := by
    unfold txs
    rw [List.zip_map']
  have m := List.map_mergeSort (r := dataLe false fun b => PyData.str (S b)) (s := dataLe false fun p : D × PyData => p.2) (f := fun b : Bits => (D.str (S b), PyData.str (S b))) (l := l) (fun a _ b _ => rfl)
  rw [e, ← m, List.map_map]
  rfl
section
variable {μ : Mu} {p o w : Nat} {B : List Bits} {vs : List D}
theorem blocks_ok (h : PoolAt μ p o w B vs) (on : ∀ v ∈ vs, v = .int 1) : callF s_Pool_blocks [.ptr p] μ = .ok (.con .tup ((sortB B).map fun b => .con .tup [.str (S b), .int 1])) μ := by
  have hB := h.hB
  have so : sortedD μ [.ptr o] = some (.con .lst (txs (sortB B))) := by
    unfold sortedD sortsD seqL
    simp only [view_ptr h.ho, Option.bind_some]
    have : (B.map kS).map dKey = txs B := by
      rw [List.map_map]
      rfl
    rw [this, sort_strs (by omega)]
    rfl
  have hi : iSeq (eCN sortedD (aCons (eU1 (fldD "owners" ["Pool"]) (eVar 0)) aNil)) [some (.ptr p), none] μ = .ok (fun _ => some (txs (sortB B))) μ :=
    iSeq_l (by simp only [R.bind_ok, bind_exc, lift_some, defM_k, kDef_nx, kDef_rt, sSeq_k, kSeq_nx, kSeq_rt, kSeq_bk, kSeq_ct, sRet_k, kRet_k, sDrop_k, kDrop_k, sIf_k, kIf_t, kIf_f, sSet_k, kSet_k, sNext_k, sBreak_k, sCont_k, sAsg_k, kAsg_k, kAsg2_k, gSet_k, gItem_k, kGi1_k, kGi2_k, kGi3_k, gsCons_k, kGs_k, gsNil_k, gTup2, gTup3, sPar_k, kPar_k, sPar3_k, kPar3_k, sFldSet_k, kFs1_k, kFs2_k, kFs3_k, sRaise_k, kRaise_k, tst_k, kTst_k, tBl_k, kTBl_k, tAnd_k, kTAnd_t, kTAnd_f, tOr_k, kTOr_t, kTOr_f, tNot_k, kTNot_k, tYes_k, eC_k, eVar_k, kVar_k, eU1_k, kU1_k, eB2_k, kB2_k, kB2'_k, eCN_k, kCN_k, aNil_k, aCons_k, kAc_k, kAc2_k, hNew_k, kNew_0, kNew_1, kNew_4, eAnd_k, kAnd_t, kAnd_f, eOr_k, kOr_t, kOr_f, eNot_k, kNot_k, eIf_k, kIfE_t, kIfE_f, eChain_k, kCh1_k, kCh2_k, kCh3_t, kCh3_f, oNone_k, oSome_k, kOs_k, eSl_k, kSl1_k, kSl2_k, kSl3_k, eCall_k, kCall_1, kCall_2, kCall_3, kCall_4, eMeth_k, kMt2_1, kMt2_2, kMt2_3, eFrz_k, view_int', view_str', view_bl', view_non', view_con', addD_int, subD_int, negD_int, gtD_int, ltD_int, geD_int, leD_int, eqD_int, neD_int, eqD_str, neD_str, eqD_bl, isD_non, isntD_non, intC_int, min2_int, conD_0, conD_1, conD_2, conD_3, truD_bl, truD_lst, truD_tup, tupD_lst, lenD_lst, lenD_tup, lenD_scr, ixD_lst, ixD_tup, ixD_scr, startR, List.map_cons, List.map_nil, List.length_cons, List.length_nil, List.cons_append, List.nil_append, List.replicate, List.getElem?_cons_zero, List.getElem?_cons_succ, List.set_cons_zero, List.set_cons_succ, Nat.reduceAdd, Nat.reduceSub, Nat.zero_add, Bool.not_true, Bool.not_false, h.owners, so])
  have lsB := (sortB_perm B).length_eq
  have cl : eLc [1] (iSeq (eCN sortedD (aCons (eU1 (fldD "owners" ["Pool"]) (eVar 0)) aNil))) (gSet 1) tYesD (eCN (conD .tup) (aCons (eVar 1) (aCons (eB2 ixD (eU1 (fldD "owners" ["Pool"]) (eVar 0)) (eVar 1)) aNil))) [some (.ptr p), none] μ =
      .ok (.lst ((sortB B).map fun b => .con .tup [.str (S b), .int 1])) μ := by
    rw [lcRun_pure (l := txs (sortB B)) (fun _ => true) (fun d => .con .tup [d, .int 1]) hi (by rw [List.length_map, sizeLine_eq]; omega) fun x hx => ?_]
    · rw [List.filter_eq_self.mpr fun _ _ => rfl, List.map_map]
      rfl
    · obtain ⟨b, hb, rfl⟩ := List.mem_map.mp hx
      obtain ⟨d, hd, hf⟩ := find_some h.hl ((sortB_perm B).mem_iff.mp hb)
      have := on d hd
      subst this
      have i1 : ixD μ (.ptr o) (.str (S b)) = some (.int 1) := by rw [ixD_dct (view_ptr h.ho) (keyD_S b), hf]
      exact ⟨[some (.ptr p), some (.str (S b))], by simp only [R.bind_ok, bind_exc, lift_some, defM_k, kDef_nx, kDef_rt, sSeq_k, kSeq_nx, kSeq_rt, kSeq_bk, kSeq_ct, sRet_k, kRet_k, sDrop_k, kDrop_k, sIf_k, kIf_t, kIf_f, sSet_k, kSet_k, sNext_k, sBreak_k, sCont_k, sAsg_k, kAsg_k, kAsg2_k, gSet_k, gItem_k, kGi1_k, kGi2_k, kGi3_k, gsCons_k, kGs_k, gsNil_k, gTup2, gTup3, sPar_k, kPar_k, sPar3_k, kPar3_k, sFldSet_k, kFs1_k, kFs2_k, kFs3_k, sRaise_k, kRaise_k, tst_k, kTst_k, tBl_k, kTBl_k, tAnd_k, kTAnd_t, kTAnd_f, tOr_k, kTOr_t, kTOr_f, tNot_k, kTNot_k, tYes_k, eC_k, eVar_k, kVar_k, eU1_k, kU1_k, eB2_k, kB2_k, kB2'_k, eCN_k, kCN_k, aNil_k, aCons_k, kAc_k, kAc2_k, hNew_k, kNew_0, kNew_1, kNew_4, eAnd_k, kAnd_t, kAnd_f, eOr_k, kOr_t, kOr_f, eNot_k, kNot_k, eIf_k, kIfE_t, kIfE_f, eChain_k, kCh1_k, kCh2_k, kCh3_t, kCh3_f, oNone_k, oSome_k, kOs_k, eSl_k, kSl1_k, kSl2_k, kSl3_k, eCall_k, kCall_1, kCall_2, kCall_3, kCall_4, eMeth_k, kMt2_1, kMt2_2, kMt2_3, eFrz_k, view_int', view_str', view_bl', view_non', view_con', addD_int, subD_int, negD_int, gtD_int, ltD_int, geD_int, leD_int, eqD_int, neD_int, eqD_str, neD_str, eqD_bl, isD_non, isntD_non, intC_int, min2_int, conD_0, conD_1, conD_2, conD_3, truD_bl, truD_lst, truD_tup, tupD_lst, lenD_lst, lenD_tup, lenD_scr, ixD_lst, ixD_tup, ixD_scr, startR, List.map_cons, List.map_nil, List.length_cons, List.length_nil, List.cons_append, List.nil_append, List.replicate, List.getElem?_cons_zero, List.getElem?_cons_succ, List.set_cons_zero, List.set_cons_succ, Nat.reduceAdd, Nat.reduceSub, Nat.zero_add, Bool.not_true, Bool.not_false, wipeR], rfl, fun _ => by simp only [R.bind_ok, bind_exc, lift_some, defM_k, kDef_nx, kDef_rt, sSeq_k, kSeq_nx, kSeq_rt, kSeq_bk, kSeq_ct, sRet_k, kRet_k, sDrop_k, kDrop_k, sIf_k, kIf_t, kIf_f, sSet_k, kSet_k, sNext_k, sBreak_k, sCont_k, sAsg_k, kAsg_k, kAsg2_k, gSet_k, gItem_k, kGi1_k, kGi2_k, kGi3_k, gsCons_k, kGs_k, gsNil_k, gTup2, gTup3, sPar_k, kPar_k, sPar3_k, kPar3_k, sFldSet_k, kFs1_k, kFs2_k, kFs3_k, sRaise_k, kRaise_k, tst_k, kTst_k, tBl_k, kTBl_k, tAnd_k, kTAnd_t, kTAnd_f, tOr_k, kTOr_t, kTOr_f, tNot_k, kTNot_k, tYes_k, eC_k, eVar_k, kVar_k, eU1_k, kU1_k, eB2_k, kB2_k, kB2'_k, eCN_k, kCN_k, aNil_k, aCons_k, kAc_k, kAc2_k, hNew_k, kNew_0, kNew_1, kNew_4, eAnd_k, kAnd_t, kAnd_f, eOr_k, kOr_t, kOr_f, eNot_k, kNot_k, eIf_k, kIfE_t, kIfE_f, eChain_k, kCh1_k, kCh2_k, kCh3_t, kCh3_f, oNone_k, oSome_k, kOs_k, eSl_k, kSl1_k, kSl2_k, kSl3_k, eCall_k, kCall_1, kCall_2, kCall_3, kCall_4, eMeth_k, kMt2_1, kMt2_2, kMt2_3, eFrz_k, view_int', view_str', view_bl', view_non', view_con', addD_int, subD_int, negD_int, gtD_int, ltD_int, geD_int, leD_int, eqD_int, neD_int, eqD_str, neD_str, eqD_bl, isD_non, isntD_non, intC_int, min2_int, conD_0, conD_1, conD_2, conD_3, truD_bl, truD_lst, truD_tup, tupD_lst, lenD_lst, lenD_tup, lenD_scr, ixD_lst, ixD_tup, ixD_scr, startR, List.map_cons, List.map_nil, List.length_cons, List.length_nil, List.cons_append, List.nil_append, List.replicate, List.getElem?_cons_zero, List.getElem?_cons_succ, List.set_cons_zero, List.set_cons_succ, Nat.reduceAdd, Nat.reduceSub, Nat.zero_add, Bool.not_true, Bool.not_false, h.owners, i1]⟩
  refine call_ok ?_ rfl
  unfold s_Pool_blocks
  simp only [R.bind_ok, bind_exc, lift_some, defM_k, kDef_nx, kDef_rt, sSeq_k, kSeq_nx, kSeq_rt, kSeq_bk, kSeq_ct, sRet_k, kRet_k, sDrop_k, kDrop_k, sIf_k, kIf_t, kIf_f, sSet_k, kSet_k, sNext_k, sBreak_k, sCont_k, sAsg_k, kAsg_k, kAsg2_k, gSet_k, gItem_k, kGi1_k, kGi2_k, kGi3_k, gsCons_k, kGs_k, gsNil_k, gTup2, gTup3, sPar_k, kPar_k, sPar3_k, kPar3_k, sFldSet_k, kFs1_k, kFs2_k, kFs3_k, sRaise_k, kRaise_k, tst_k, kTst_k, tBl_k, kTBl_k, tAnd_k, kTAnd_t, kTAnd_f, tOr_k, kTOr_t, kTOr_f, tNot_k, kTNot_k, tYes_k, eC_k, eVar_k, kVar_k, eU1_k, kU1_k, eB2_k, kB2_k, kB2'_k, eCN_k, kCN_k, aNil_k, aCons_k, kAc_k, kAc2_k, hNew_k, kNew_0, kNew_1, kNew_4, eAnd_k, kAnd_t, kAnd_f, eOr_k, kOr_t, kOr_f, eNot_k, kNot_k, eIf_k, kIfE_t, kIfE_f, eChain_k, kCh1_k, kCh2_k, kCh3_t, kCh3_f, oNone_k, oSome_k, kOs_k, eSl_k, kSl1_k, kSl2_k, kSl3_k, eCall_k, kCall_1, kCall_2, kCall_3, kCall_4, eMeth_k, kMt2_1, kMt2_2, kMt2_3, eFrz_k, view_int', view_str', view_bl', view_non', view_con', addD_int, subD_int, negD_int, gtD_int, ltD_int, geD_int, leD_int, eqD_int, neD_int, eqD_str, neD_str, eqD_bl, isD_non, isntD_non, intC_int, min2_int, conD_0, conD_1, conD_2, conD_3, truD_bl, truD_lst, truD_tup, tupD_lst, lenD_lst, lenD_tup, lenD_scr, ixD_lst, ixD_tup, ixD_scr, startR, List.map_cons, List.map_nil, List.length_cons, List.length_nil, List.cons_append, List.nil_append, List.replicate, List.getElem?_cons_zero, List.getElem?_cons_succ, List.set_cons_zero, List.set_cons_succ, Nat.reduceAdd, Nat.reduceSub, Nat.zero_add, Bool.not_true, Bool.not_false, cl]
end
section
variable {w : Nat} {B : List Bits} {vs : List D} {left : Nat} {ob : Ob} {y0 y1 y5 y6 y7 y8 y9 y10 y11 : Option D}
theorem last_ok (g : Gd w B vs left) (ho : IsRow ob) (hB : B.length ≤ 400) : s_law_21 (rh y0 w left y5 y6 y7 y8 y9 y10 y11) (mu3 ob w B vs) = .ok (.rt (.bl true), rh y0 w left y5 y6 y7 y8 y9 y10 y11) (mu3 ob w B vs) := by
  have P := g.pool ho hB
  have hw := g.hw
  have mt := P.meth (mn := "blocks") (f := s_Pool_blocks) (n := 1) (a := aNil) (ρ := rh y0 w left y5 y6 y7 y8 y9 y10 y11) (by decide)
  have hi : iSeq (eMeth "Pool" "blocks" s_Pool_blocks 1 (eVar 3) aNil) (rh y0 w left y5 y6 y7 y8 y9 y10 y11) (mu3 ob w B vs) = .ok (fun _ => some ((sortB B).map fun b => .con .tup [.str (S b), .int 1])) (mu3 ob w B vs) :=
    iSeq_t (by simp only [R.bind_ok, bind_exc, lift_some, defM_k, kDef_nx, kDef_rt, sSeq_k, kSeq_nx, kSeq_rt, kSeq_bk, kSeq_ct, sRet_k, kRet_k, sDrop_k, kDrop_k, sIf_k, kIf_t, kIf_f, sSet_k, kSet_k, sNext_k, sBreak_k, sCont_k, sAsg_k, kAsg_k, kAsg2_k, gSet_k, gItem_k, kGi1_k, kGi2_k, kGi3_k, gsCons_k, kGs_k, gsNil_k, gTup2, gTup3, sPar_k, kPar_k, sPar3_k, kPar3_k, sFldSet_k, kFs1_k, kFs2_k, kFs3_k, sRaise_k, kRaise_k, tst_k, kTst_k, tBl_k, kTBl_k, tAnd_k, kTAnd_t, kTAnd_f, tOr_k, kTOr_t, kTOr_f, tNot_k, kTNot_k, tYes_k, eC_k, eVar_k, kVar_k, eU1_k, kU1_k, eB2_k, kB2_k, kB2'_k, eCN_k, kCN_k, aNil_k, aCons_k, kAc_k, kAc2_k, hNew_k, kNew_0, kNew_1, kNew_4, eAnd_k, kAnd_t, kAnd_f, eOr_k, kOr_t, kOr_f, eNot_k, kNot_k, eIf_k, kIfE_t, kIfE_f, eChain_k, kCh1_k, kCh2_k, kCh3_t, kCh3_f, oNone_k, oSome_k, kOs_k, eSl_k, kSl1_k, kSl2_k, kSl3_k, eCall_k, kCall_1, kCall_2, kCall_3, kCall_4, eMeth_k, kMt2_1, kMt2_2, kMt2_3, eFrz_k, view_int', view_str', view_bl', view_non', view_con', addD_int, subD_int, negD_int, gtD_int, ltD_int, geD_int, leD_int, eqD_int, neD_int, eqD_str, neD_str, eqD_bl, isD_non, isntD_non, intC_int, min2_int, conD_0, conD_1, conD_2, conD_3, truD_bl, truD_lst, truD_tup, tupD_lst, lenD_lst, lenD_tup, lenD_scr, ixD_lst, ixD_tup, ixD_scr, startR, List.map_cons, List.map_nil, List.length_cons, List.length_nil, List.cons_append, List.nil_append, List.replicate, List.getElem?_cons_zero, List.getElem?_cons_succ, List.set_cons_zero, List.set_cons_succ, Nat.reduceAdd, Nat.reduceSub, Nat.zero_add, Bool.not_true, Bool.not_false, mt, blocks_ok P g.on])
  have lsB := (sortB_perm B).length_eq
  have cl : eLc [8, 11] (iSeq (eMeth "Pool" "blocks" s_Pool_blocks 1 (eVar 3) aNil)) (gTupD 2 (gsCons (gSet 8) (gsCons (gSet 11) gsNil))) tYesD (eB2 shlD (eC (.int 1)) (eB2 subD (eVar 2) (eCN lenD (aCons (eVar 8) aNil)))) (rh y0 w left y5 y6 y7 y8 y9 y10 y11) (mu3 ob w B vs) =
      .ok (.lst ((sortB B).map fun x => .int ((wt w x : Nat) : Int))) (mu3 ob w B vs) := by
    rw [lcRun_pure (l := (sortB B).map fun b => D.con .tup [.str (S b), .int 1]) (fun _ => true) (fun d => match d with | .con .tup [.str s, _] => .int ((2 ^ (w - s.length) : Nat) : Int) | _ => .non) hi (by rw [List.length_map, sizeLine_eq]; omega) fun x hx => ?_]
    · rw [List.filter_eq_self.mpr fun _ _ => rfl, List.map_map]
      congr 3
      funext x
      simp [S_len, wt]
    · obtain ⟨b, hb, rfl⟩ := List.mem_map.mp hx
      have hbl := g.hW b ((sortB_perm B).mem_iff.mp hb)
      have e1 : (w : Int) - (b.length : Int) = ((w - b.length : Nat) : Int) := by omega
      exact ⟨rh y0 w left y5 y6 y7 (some (.str (S b))) y9 y10 (some (.int 1)), by simp only [R.bind_ok, bind_exc, lift_some, defM_k, kDef_nx, kDef_rt, sSeq_k, kSeq_nx, kSeq_rt, kSeq_bk, kSeq_ct, sRet_k, kRet_k, sDrop_k, kDrop_k, sIf_k, kIf_t, kIf_f, sSet_k, kSet_k, sNext_k, sBreak_k, sCont_k, sAsg_k, kAsg_k, kAsg2_k, gSet_k, gItem_k, kGi1_k, kGi2_k, kGi3_k, gsCons_k, kGs_k, gsNil_k, gTup2, gTup3, sPar_k, kPar_k, sPar3_k, kPar3_k, sFldSet_k, kFs1_k, kFs2_k, kFs3_k, sRaise_k, kRaise_k, tst_k, kTst_k, tBl_k, kTBl_k, tAnd_k, kTAnd_t, kTAnd_f, tOr_k, kTOr_t, kTOr_f, tNot_k, kTNot_k, tYes_k, eC_k, eVar_k, kVar_k, eU1_k, kU1_k, eB2_k, kB2_k, kB2'_k, eCN_k, kCN_k, aNil_k, aCons_k, kAc_k, kAc2_k, hNew_k, kNew_0, kNew_1, kNew_4, eAnd_k, kAnd_t, kAnd_f, eOr_k, kOr_t, kOr_f, eNot_k, kNot_k, eIf_k, kIfE_t, kIfE_f, eChain_k, kCh1_k, kCh2_k, kCh3_t, kCh3_f, oNone_k, oSome_k, kOs_k, eSl_k, kSl1_k, kSl2_k, kSl3_k, eCall_k, kCall_1, kCall_2, kCall_3, kCall_4, eMeth_k, kMt2_1, kMt2_2, kMt2_3, eFrz_k, view_int', view_str', view_bl', view_non', view_con', addD_int, subD_int, negD_int, gtD_int, ltD_int, geD_int, leD_int, eqD_int, neD_int, eqD_str, neD_str, eqD_bl, isD_non, isntD_non, intC_int, min2_int, conD_0, conD_1, conD_2, conD_3, truD_bl, truD_lst, truD_tup, tupD_lst, lenD_lst, lenD_tup, lenD_scr, ixD_lst, ixD_tup, ixD_scr, startR, List.map_cons, List.map_nil, List.length_cons, List.length_nil, List.cons_append, List.nil_append, List.replicate, List.getElem?_cons_zero, List.getElem?_cons_succ, List.set_cons_zero, List.set_cons_succ, Nat.reduceAdd, Nat.reduceSub, Nat.zero_add, Bool.not_true, Bool.not_false, wipeR], rfl, fun _ => by simp only [R.bind_ok, bind_exc, lift_some, defM_k, kDef_nx, kDef_rt, sSeq_k, kSeq_nx, kSeq_rt, kSeq_bk, kSeq_ct, sRet_k, kRet_k, sDrop_k, kDrop_k, sIf_k, kIf_t, kIf_f, sSet_k, kSet_k, sNext_k, sBreak_k, sCont_k, sAsg_k, kAsg_k, kAsg2_k, gSet_k, gItem_k, kGi1_k, kGi2_k, kGi3_k, gsCons_k, kGs_k, gsNil_k, gTup2, gTup3, sPar_k, kPar_k, sPar3_k, kPar3_k, sFldSet_k, kFs1_k, kFs2_k, kFs3_k, sRaise_k, kRaise_k, tst_k, kTst_k, tBl_k, kTBl_k, tAnd_k, kTAnd_t, kTAnd_f, tOr_k, kTOr_t, kTOr_f, tNot_k, kTNot_k, tYes_k, eC_k, eVar_k, kVar_k, eU1_k, kU1_k, eB2_k, kB2_k, kB2'_k, eCN_k, kCN_k, aNil_k, aCons_k, kAc_k, kAc2_k, hNew_k, kNew_0, kNew_1, kNew_4, eAnd_k, kAnd_t, kAnd_f, eOr_k, kOr_t, kOr_f, eNot_k, kNot_k, eIf_k, kIfE_t, kIfE_f, eChain_k, kCh1_k, kCh2_k, kCh3_t, kCh3_f, oNone_k, oSome_k, kOs_k, eSl_k, kSl1_k, kSl2_k, kSl3_k, eCall_k, kCall_1, kCall_2, kCall_3, kCall_4, eMeth_k, kMt2_1, kMt2_2, kMt2_3, eFrz_k, view_int', view_str', view_bl', view_non', view_con', addD_int, subD_int, negD_int, gtD_int, ltD_int, geD_int, leD_int, eqD_int, neD_int, eqD_str, neD_str, eqD_bl, isD_non, isntD_non, intC_int, min2_int, conD_0, conD_1, conD_2, conD_3, truD_bl, truD_lst, truD_tup, tupD_lst, lenD_lst, lenD_tup, lenD_scr, ixD_lst, ixD_tup, ixD_scr, startR, List.map_cons, List.map_nil, List.length_cons, List.length_nil, List.cons_append, List.nil_append, List.replicate, List.getElem?_cons_zero, List.getElem?_cons_succ, List.set_cons_zero, List.set_cons_succ, Nat.reduceAdd, Nat.reduceSub, Nat.zero_add, Bool.not_true, Bool.not_false, lenD_S (show b.length ≤ 1000000 by omega), e1, shlD_1 (show w - b.length ≤ 1000 by omega), S_len]⟩
  have e2 : decide ((((wts w (sortB B) : Nat) : Int) + (left : Int)) = ((2 ^ w : Nat) : Int)) = true := by
    rw [wts_perm (sortB_perm B)]
    have := g.sm
    exact decide_eq_true (by omega)
  unfold s_law_21
  simp only [R.bind_ok, bind_exc, lift_some, defM_k, kDef_nx, kDef_rt, sSeq_k, kSeq_nx, kSeq_rt, kSeq_bk, kSeq_ct, sRet_k, kRet_k, sDrop_k, kDrop_k, sIf_k, kIf_t, kIf_f, sSet_k, kSet_k, sNext_k, sBreak_k, sCont_k, sAsg_k, kAsg_k, kAsg2_k, gSet_k, gItem_k, kGi1_k, kGi2_k, kGi3_k, gsCons_k, kGs_k, gsNil_k, gTup2, gTup3, sPar_k, kPar_k, sPar3_k, kPar3_k, sFldSet_k, kFs1_k, kFs2_k, kFs3_k, sRaise_k, kRaise_k, tst_k, kTst_k, tBl_k, kTBl_k, tAnd_k, kTAnd_t, kTAnd_f, tOr_k, kTOr_t, kTOr_f, tNot_k, kTNot_k, tYes_k, eC_k, eVar_k, kVar_k, eU1_k, kU1_k, eB2_k, kB2_k, kB2'_k, eCN_k, kCN_k, aNil_k, aCons_k, kAc_k, kAc2_k, hNew_k, kNew_0, kNew_1, kNew_4, eAnd_k, kAnd_t, kAnd_f, eOr_k, kOr_t, kOr_f, eNot_k, kNot_k, eIf_k, kIfE_t, kIfE_f, eChain_k, kCh1_k, kCh2_k, kCh3_t, kCh3_f, oNone_k, oSome_k, kOs_k, eSl_k, kSl1_k, kSl2_k, kSl3_k, eCall_k, kCall_1, kCall_2, kCall_3, kCall_4, eMeth_k, kMt2_1, kMt2_2, kMt2_3, eFrz_k, view_int', view_str', view_bl', view_non', view_con', addD_int, subD_int, negD_int, gtD_int, ltD_int, geD_int, leD_int, eqD_int, neD_int, eqD_str, neD_str, eqD_bl, isD_non, isntD_non, intC_int, min2_int, conD_0, conD_1, conD_2, conD_3, truD_bl, truD_lst, truD_tup, tupD_lst, lenD_lst, lenD_tup, lenD_scr, ixD_lst, ixD_tup, ixD_scr, startR, List.map_cons, List.map_nil, List.length_cons, List.length_nil, List.cons_append, List.nil_append, List.replicate, List.getElem?_cons_zero, List.getElem?_cons_succ, List.set_cons_zero, List.set_cons_succ, Nat.reduceAdd, Nat.reduceSub, Nat.zero_add, Bool.not_true, Bool.not_false, cl, sumD_ints, wts_int, shlD_1 (show w ≤ 1000 by omega), e2]
theorem loop_ok (g : Gd w B vs left) (ho : IsRow ob) (hB : B = []) : ∃ (ob' : Ob) (C : List Bits) (ws : List D) (left' : Nat) (y5' y6' y7' y8' y9' y10' y11' : Option D), IsRow ob' ∧ Gd w C ws left' ∧ C.length ≤ 80 ∧
    s_law_20 (rh y0 w left y5 y6 y7 y8 y9 y10 y11) (mu3 ob w B vs) = .ok (.nx, rh y0 w left' y5' y6' y7' y8' y9' y10' y11') (mu3 ob' w C ws) := by
  have hi : iRng rng1 (aCons (eC (.int 40)) aNil) (rh y0 w left y5 y6 y7 y8 y9 y10 y11) (mu3 ob w B vs) = .ok (fun _ => some (upD 0 40)) (mu3 ob w B vs) := iRng1_k (n := 40) (by simp only [R.bind_ok, bind_exc, lift_some, defM_k, kDef_nx, kDef_rt, sSeq_k, kSeq_nx, kSeq_rt, kSeq_bk, kSeq_ct, sRet_k, kRet_k, sDrop_k, kDrop_k, sIf_k, kIf_t, kIf_f, sSet_k, kSet_k, sNext_k, sBreak_k, sCont_k, sAsg_k, kAsg_k, kAsg2_k, gSet_k, gItem_k, kGi1_k, kGi2_k, kGi3_k, gsCons_k, kGs_k, gsNil_k, gTup2, gTup3, sPar_k, kPar_k, sPar3_k, kPar3_k, sFldSet_k, kFs1_k, kFs2_k, kFs3_k, sRaise_k, kRaise_k, tst_k, kTst_k, tBl_k, kTBl_k, tAnd_k, kTAnd_t, kTAnd_f, tOr_k, kTOr_t, kTOr_f, tNot_k, kTNot_k, tYes_k, eC_k, eVar_k, kVar_k, eU1_k, kU1_k, eB2_k, kB2_k, kB2'_k, eCN_k, kCN_k, aNil_k, aCons_k, kAc_k, kAc2_k, hNew_k, kNew_0, kNew_1, kNew_4, eAnd_k, kAnd_t, kAnd_f, eOr_k, kOr_t, kOr_f, eNot_k, kNot_k, eIf_k, kIfE_t, kIfE_f, eChain_k, kCh1_k, kCh2_k, kCh3_t, kCh3_f, oNone_k, oSome_k, kOs_k, eSl_k, kSl1_k, kSl2_k, kSl3_k, eCall_k, kCall_1, kCall_2, kCall_3, kCall_4, eMeth_k, kMt2_1, kMt2_2, kMt2_3, eFrz_k, view_int', view_str', view_bl', view_non', view_con', addD_int, subD_int, negD_int, gtD_int, ltD_int, geD_int, leD_int, eqD_int, neD_int, eqD_str, neD_str, eqD_bl, isD_non, isntD_non, intC_int, min2_int, conD_0, conD_1, conD_2, conD_3, truD_bl, truD_lst, truD_tup, tupD_lst, lenD_lst, lenD_tup, lenD_scr, ixD_lst, ixD_tup, ixD_scr, startR, List.map_cons, List.map_nil, List.length_cons, List.length_nil, List.cons_append, List.nil_append, List.replicate, List.getElem?_cons_zero, List.getElem?_cons_succ, List.set_cons_zero, List.set_cons_succ, Nat.reduceAdd, Nat.reduceSub, Nat.zero_add, Bool.not_true, Bool.not_false]; rfl) (by decide)
  unfold s_law_20
  rw [sFor_const hi]
  have main := Wr_loop (l := upD 0 40) (g := gSet 5) (b := sSeq s_law_4 (sSeq s_law_5 (sSeq s_law_16 (sSeq s_law_17 s_law_19))))
    (P := fun r μ' => ∃ (ob' : Ob) (C : List Bits) (ws : List D) (left' : Nat) (y5' y6' y7' y8' y9' y10' y11' : Option D), IsRow ob' ∧ Gd w C ws left' ∧ C.length ≤ 80 ∧ r = (.nx, rh y0 w left' y5' y6' y7' y8' y9' y10' y11') ∧ μ' = mu3 ob' w C ws)
    (fun i ρ μ' => ∃ (ob' : Ob) (C : List Bits) (ws : List D) (left' : Nat) (y5' y6' y7' y8' y9' y10' y11' : Option D), IsRow ob' ∧ Gd w C ws left' ∧ C.length ≤ 2 * i ∧ ρ = rh y0 w left' y5' y6' y7' y8' y9' y10' y11' ∧ μ' = mu3 ob' w C ws)
    (fun i x ρ μ' hx h => by
      obtain ⟨ob', C, ws, left', y5', y6', y7', y8', y9', y10', y11', ho', g', hC, rfl, rfl⟩ := h
      obtain ⟨hi40, rfl⟩ := upD_get hx
      obtain ⟨ob2, C2, ws2, left2, z6, z7, z8, z9, ho2, g2, hC2, e⟩ := turn_ok (y0 := y0) (y5 := some (.int (i : Int))) (y6 := y6') (y7 := y7') (y8 := y8') (y9 := y9') (y10 := y10') (y11 := y11') g' ho' (by omega)
      rw [gSet_k, Wr_ok]
      show Wr (sSeq s_law_4 (sSeq s_law_5 (sSeq s_law_16 (sSeq s_law_17 s_law_19))) (rh y0 w left' (some (.int (i : Int))) y6' y7' y8' y9' y10' y11') (mu3 ob' w C ws)) _
      rw [e, Wr_ok]
      exact ⟨ob2, C2, ws2, left2, _, _, _, _, _, _, _, ho2, g2, by omega, rfl, rfl⟩)
    (fun ρ μ' h => by
      obtain ⟨ob', C, ws, left', y5', y6', y7', y8', y9', y10', y11', ho', g', hC, rfl, rfl⟩ := h
      rw [upD_len] at hC
      exact ⟨ob', C, ws, left', _, _, _, _, _, _, _, ho', g', by omega, rfl, rfl⟩)
    (upD 0 40).length 0 (rh y0 w left y5 y6 y7 y8 y9 y10 y11) (mu3 ob w B vs) (Nat.zero_add _) ⟨ob, B, vs, left, _, _, _, _, _, _, _, ho, g, by rw [hB]; exact Nat.zero_le _, rfl, rfl⟩
  obtain ⟨r, μ', e, ob', C, ws, left', y5', y6', y7', y8', y9', y10', y11', ho', g', hC, rfl, rfl⟩ := main.get
  exact ⟨ob', C, ws, left', _, _, _, _, _, _, _, ho', g', hC, e⟩
end
theorem init_ok {ob : Ob} {w : Nat} (ho : IsRow ob) (hw : 1 ≤ w ∧ w ≤ 64) (ρ : Rho) (hρ : ρ[2]? = some (some (.int (w : Int)))) : eMake "Pool" s_Pool___init__ 2 (aCons (eVar 2) aNil) ρ [ob] = .ok (.ptr 1) (mu3 ob w [] []) := by
  have ev : (aCons (eVar 2) aNil) ρ [ob] = .ok [.int (w : Int)] [ob] := by
    simp only [aCons_k, eVar_k, hρ, kVar_k, R.bind_ok, kAc_k, aNil_k, kAc2_k]
  have run : s_Pool___init__ [.ptr 1, .int (w : Int)] [ob, .lv false (.ins "Pool" []) []] = .ok .non (mu3 ob w [] []) := by
    have s1 : setFldD "width" ["Pool"] [ob, .lv false (.ins "Pool" []) []] (.ptr 1) (.int (w : Int)) = some [ob, .lv false (.ins "Pool" ["width"]) [.int (w : Int)]] := by rfl
    have s2 : setFldD "owners" ["Pool"] [ob, .lv false (.ins "Pool" ["width"]) [.int (w : Int)], .lv false (.dK []) []] (.ptr 1) (.ptr 2) = some (mu3 ob w [] []) := by rfl
    unfold s_Pool___init__
    simp only [R.bind_ok, bind_exc, lift_some, defM_k, kDef_nx, kDef_rt, sSeq_k, kSeq_nx, kSeq_rt, kSeq_bk, kSeq_ct, sRet_k, kRet_k, sDrop_k, kDrop_k, sIf_k, kIf_t, kIf_f, sSet_k, kSet_k, sNext_k, sBreak_k, sCont_k, sAsg_k, kAsg_k, kAsg2_k, gSet_k, gItem_k, kGi1_k, kGi2_k, kGi3_k, gsCons_k, kGs_k, gsNil_k, gTup2, gTup3, sPar_k, kPar_k, sPar3_k, kPar3_k, sFldSet_k, kFs1_k, kFs2_k, kFs3_k, sRaise_k, kRaise_k, tst_k, kTst_k, tBl_k, kTBl_k, tAnd_k, kTAnd_t, kTAnd_f, tOr_k, kTOr_t, kTOr_f, tNot_k, kTNot_k, tYes_k, eC_k, eVar_k, kVar_k, eU1_k, kU1_k, eB2_k, kB2_k, kB2'_k, eCN_k, kCN_k, aNil_k, aCons_k, kAc_k, kAc2_k, hNew_k, kNew_0, kNew_1, kNew_4, eAnd_k, kAnd_t, kAnd_f, eOr_k, kOr_t, kOr_f, eNot_k, kNot_k, eIf_k, kIfE_t, kIfE_f, eChain_k, kCh1_k, kCh2_k, kCh3_t, kCh3_f, oNone_k, oSome_k, kOs_k, eSl_k, kSl1_k, kSl2_k, kSl3_k, eCall_k, kCall_1, kCall_2, kCall_3, kCall_4, eMeth_k, kMt2_1, kMt2_2, kMt2_3, eFrz_k, view_int', view_str', view_bl', view_non', view_con', addD_int, subD_int, negD_int, gtD_int, ltD_int, geD_int, leD_int, eqD_int, neD_int, eqD_str, neD_str, eqD_bl, isD_non, isntD_non, intC_int, min2_int, conD_0, conD_1, conD_2, conD_3, truD_bl, truD_lst, truD_tup, tupD_lst, lenD_lst, lenD_tup, lenD_scr, ixD_lst, ixD_tup, ixD_scr, startR, List.map_cons, List.map_nil, List.length_cons, List.length_nil, List.cons_append, List.nil_append, List.replicate, List.getElem?_cons_zero, List.getElem?_cons_succ, List.set_cons_zero, List.set_cons_succ, Nat.reduceAdd, Nat.reduceSub, Nat.zero_add, Bool.not_true, Bool.not_false, width_ok (w : Int) (by omega), s1, s2]
  unfold eMake
  rw [ev]
  simp only [R.bind_ok]
  show truncD 1 ((s_Pool___init__ [.ptr 1, .int (w : Int)] [ob, .lv false (.ins "Pool" []) []]).bind _) = _
  rw [run]
  show truncD 1 (.ok (.ptr 1) (mu3 ob w [] [])) = _
  have hp : noPtr 1 (.ptr 1) = false := rfl
  simp only [truncD, hp, Bool.false_and, Bool.false_eq_true, if_false]
theorem law18 (ns : List Int) : ∃ μ, defM 12 m_law [scrD ns] [] = .ok (.bl true) μ := by
  have hr : IsRow (rowD ns 0 313 0) := ⟨ns, 0, 313, 0, rfl, by decide, by decide⟩
  obtain ⟨k, d, ob1, hk, e1, ho1⟩ := pick_ok (μ := [rowD ns 0 313 0]) (r := 0) (l := [.int 2, .int 3, .int 5, .int 8, .int 16, .int 40, .int 64]) rfl hr (by decide) (by decide)
  obtain ⟨w, rfl, w1, w2⟩ : ∃ w : Nat, d = .int (w : Int) ∧ 1 ≤ w ∧ w ≤ 64 := by
    have hm := List.mem_of_getElem? hk
    simp only [List.mem_cons, List.not_mem_nil, or_false] at hm
    rcases hm with rfl | rfl | rfl | rfl | rfl | rfl | rfl
    · exact ⟨2, rfl, by decide, by decide⟩
    · exact ⟨3, rfl, by decide, by decide⟩
    · exact ⟨5, rfl, by decide, by decide⟩
    · exact ⟨8, rfl, by decide, by decide⟩
    · exact ⟨16, rfl, by decide, by decide⟩
    · exact ⟨40, rfl, by decide, by decide⟩
    · exact ⟨64, rfl, by decide, by decide⟩
  have c7 : ∀ μ : Mu, conD .lst μ [.int 2, .int 3, .int 5, .int 8, .int 16, .int 40, .int 64] = some (.con .lst [.int 2, .int 3, .int 5, .int 8, .int 16, .int 40, .int 64]) := fun μ => conD_k (by decide)
  have g0 : Gd w [] [] (2 ^ w) := ⟨w2, fun b hb => (List.not_mem_nil hb).elim, List.nodup_nil, fun a ha => (List.not_mem_nil ha).elim, fun x y hx hy hl => by
    have nb : ∀ z, Fr0 [] z → z = [] := fun z hz => Classical.byContradiction fun hn => by
      have := hz.up [] (nil_pre _) (nil_pre _) (fun e => hn e.symm)
      cases this
    rw [nb x hx, nb y hy], rfl, fun v hv => (List.not_mem_nil hv).elim, by simp [wts]⟩
  have mk := init_ok ho1 ⟨w1, w2⟩ [some (scrD ns), some (.ptr 0), some (.int (w : Int)), none, none, none, none, none, none, none, none, none] rfl
  have sh := shlD_1 (μ := mu3 ob1 w [] []) (show w ≤ 1000 by omega)
  have s123 : ∀ s : MS, sSeq s_law_1 (sSeq s_law_2 (sSeq s_law_3 s)) [some (scrD ns), none, none, none, none, none, none, none, none, none, none, none] [] =
      s (rh (some (scrD ns)) w (2 ^ w) none none none none none none none) (mu3 ob1 w [] []) := fun s => by
    have e1' : callF s__law_pick [.ptr 0, .con .lst [.int 2, .int 3, .int 5, .int 8, .int 16, .int 40, .int 64]] [Ob.lv false .lst [scrD ns, .int 0, .int 313, .int 0]] = .ok (.int (w : Int)) [ob1] := e1
    unfold s_law_1 s_law_2 s_law_3
    simp only [R.bind_ok, bind_exc, lift_some, defM_k, kDef_nx, kDef_rt, sSeq_k, kSeq_nx, kSeq_rt, kSeq_bk, kSeq_ct, sRet_k, kRet_k, sDrop_k, kDrop_k, sIf_k, kIf_t, kIf_f, sSet_k, kSet_k, sNext_k, sBreak_k, sCont_k, sAsg_k, kAsg_k, kAsg2_k, gSet_k, gItem_k, kGi1_k, kGi2_k, kGi3_k, gsCons_k, kGs_k, gsNil_k, gTup2, gTup3, sPar_k, kPar_k, sPar3_k, kPar3_k, sFldSet_k, kFs1_k, kFs2_k, kFs3_k, sRaise_k, kRaise_k, tst_k, kTst_k, tBl_k, kTBl_k, tAnd_k, kTAnd_t, kTAnd_f, tOr_k, kTOr_t, kTOr_f, tNot_k, kTNot_k, tYes_k, eC_k, eVar_k, kVar_k, eU1_k, kU1_k, eB2_k, kB2_k, kB2'_k, eCN_k, kCN_k, aNil_k, aCons_k, kAc_k, kAc2_k, hNew_k, kNew_0, kNew_1, kNew_4, eAnd_k, kAnd_t, kAnd_f, eOr_k, kOr_t, kOr_f, eNot_k, kNot_k, eIf_k, kIfE_t, kIfE_f, eChain_k, kCh1_k, kCh2_k, kCh3_t, kCh3_f, oNone_k, oSome_k, kOs_k, eSl_k, kSl1_k, kSl2_k, kSl3_k, eCall_k, kCall_1, kCall_2, kCall_3, kCall_4, eMeth_k, kMt2_1, kMt2_2, kMt2_3, eFrz_k, view_int', view_str', view_bl', view_non', view_con', addD_int, subD_int, negD_int, gtD_int, ltD_int, geD_int, leD_int, eqD_int, neD_int, eqD_str, neD_str, eqD_bl, isD_non, isntD_non, intC_int, min2_int, conD_0, conD_1, conD_2, conD_3, truD_bl, truD_lst, truD_tup, tupD_lst, lenD_lst, lenD_tup, lenD_scr, ixD_lst, ixD_tup, ixD_scr, startR, List.map_cons, List.map_nil, List.length_cons, List.length_nil, List.cons_append, List.nil_append, List.replicate, List.getElem?_cons_zero, List.getElem?_cons_succ, List.set_cons_zero, List.set_cons_succ, Nat.reduceAdd, Nat.reduceSub, Nat.zero_add, Bool.not_true, Bool.not_false, c7, e1', mk, sh]
  obtain ⟨ob', C, ws, left', y5', y6', y7', y8', y9', y10', y11', ho', g', hC, e2⟩ := loop_ok (y0 := some (scrD ns)) (y5 := none) (y6 := none) (y7 := none) (y8 := none) (y9 := none) (y10 := none) (y11 := none) g0 ho1 rfl
  have e3 := last_ok (y0 := some (scrD ns)) (y5 := y5') (y6 := y6') (y7 := y7') (y8 := y8') (y9 := y9') (y10 := y10') (y11 := y11') g' ho' (by omega)
  refine ⟨mu3 ob' w C ws, ?_⟩
  rw [defM_k]
  show (m_law [some (scrD ns), none, none, none, none, none, none, none, none, none, none, none] []).bind kDef = _
  unfold m_law
  rw [s123, sSeq_k, e2, R.bind_ok, kSeq_nx, e3]
  rfl
end
end K18

theorem PySem.Challenge.cw_leastroutes_k18_whole_no_refusal_holds : PySem.Challenge.rw_leastroutes_k18_whole_no_refusal.Holds := by
  exact K18.holds_of fun ns _ _ => K18.law18 ns
