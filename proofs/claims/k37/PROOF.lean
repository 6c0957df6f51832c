import PyProof.Rows.All
import HandS.Conv
import HandS.IsInst
import HandS.NoneIn
import HandS.StrMore
import HandS.TupAny
import HandS.Wide
import Wide.All
import OpenK.AllK
import Wide.FinOn
import KE.KStateDown
import KE.KIntText
import Lean
import HandS.ForMost
import HandS.Exc
import HandS.More
import HandS.WordsExc
import HandS.Defaults
import HandS.Head0
import HandS.Head1
import HandS.Head2
import HandS.HeadEnd
import HandS.HeadHook1
import HandS.HeadHook2
import HandS.HeadHook3
import HandS.HeadHook4
import PySem.Challenge.RW_lifehold_k37_lives_and_holdings
import HandS.ExcOwn
import HandS.ExcCtx
import HandS.TryMany
import HandS.Dict
import HandS.WordsDict
import HandS.Small
import HandS.Strs
import HandS.HotCalls
import HandS.ExcIs
import HandS.Zip
import HandS.FStrTup
import Wide.Once
set_option Elab.async false
set_option linter.all false
set_option maxRecDepth 100000
set_option maxHeartbeats 4000000
namespace DL
open PySem PySem.Spec PyProof.Rows L2

abbrev St := L2.St
/-! ### data: trees of values -/
inductive D where
  | non | bl (b : Bool) | int (i : Int) | str (s : Str)
  | tup (xs : List D) | lst (xs : List D) | dic (kvs : List (Key × D)) | ins (c : Nat) (fs : List (Str × D)) | opq (u : V)

mutual
/-- v stands for d, read off the heap F -/
def Rep (K : PySem.W.Frag) (cl : Nat → Addr) (F : Hp) : D → V → Prop
  | .non, v => v = .non
  | .bl b, v => v = .bl b
  | .int i, v => v = .int i
  | .str s, v => v = .str s
  | .opq u, v => v = u
  | .tup ds, v => ∃ a vs, v = .ref a ∧ SqT K F a vs ∧ RepL K cl F ds vs
  | .lst ds, v => ∃ a vs, v = .ref a ∧ F a = some (.lst vs) ∧ RepL K cl F ds vs
  | .dic kds, v => ∃ a kvs, v = .ref a ∧ Rd F a (.dK kvs) ∧ RepK K cl F kds kvs
  | .ins c fds, v => ∃ a dx fvs, v = .ref a ∧ F a = some (.ins (cl c) dx fvs) ∧ F dx = some (.own a) ∧ RepF K cl F fds fvs
def RepL (K : PySem.W.Frag) (cl : Nat → Addr) (F : Hp) : List D → List V → Prop
  | [], vs => vs = []
  | d :: ds, vs => ∃ v r, vs = v :: r ∧ Rep K cl F d v ∧ RepL K cl F ds r
def RepK (K : PySem.W.Frag) (cl : Nat → Addr) (F : Hp) : List (Key × D) → List (Key × V) → Prop
  | [], vs => vs = []
  | (k, d) :: ds, vs => ∃ v r, vs = (k, v) :: r ∧ Rep K cl F d v ∧ RepK K cl F ds r
def RepF (K : PySem.W.Frag) (cl : Nat → Addr) (F : Hp) : List (Str × D) → List (Str × V) → Prop
  | [], vs => vs = []
  | (k, d) :: ds, vs => ∃ v r, vs = (k, v) :: r ∧ Rep K cl F d v ∧ RepF K cl F ds r
end

/-- what a reading leans on, kept (a dict may be locked) -/
structure Le (F F' : Hp) : Prop where
  rd : ∀ a u, Rd F a u → Rd F' a u
  lst : ∀ a xs, F a = some (.lst xs) → F' a = some (.lst xs)
  ins : ∀ a C dx fs, F a = some (.ins C dx fs) → F' a = some (.ins C dx fs)
  own : ∀ a x, F a = some (.own x) → F' a = some (.own x)
theorem Le.of {F F' : Hp} (h : Same F F') : Le F F' :=
  ⟨fun a u r => r.elim (fun q => .inl (h a _ q)) fun ⟨o, q⟩ => .inr ⟨o, h a _ q⟩, fun a _ q => h a _ q, fun a _ _ _ q => h a _ q, fun a _ q => h a _ q⟩
theorem Le.sqL {K : PySem.W.Frag} {F F' : Hp} {a : Addr} {xs : List V} (h : Le F F') (q : SqL K F a xs) : SqL K F' a xs := q.elim (fun r => .inl (h.rd _ _ r)) .inr
theorem Le.sqT {K : PySem.W.Frag} {F F' : Hp} {a : Addr} {xs : List V} (h : Le F F') (q : SqT K F a xs) : SqT K F' a xs := q.elim (fun r => .inl (h.rd _ _ r)) .inr

section
variable {K : PySem.W.Frag} {cl : Nat → Addr} {F F' : Hp}
mutual
theorem Rep.le (h : Le F F') : ∀ (d : D) (v : V), Rep K cl F d v → Rep K cl F' d v
  | .non, v, r => r
  | .bl b, v, r => r
  | .int i, v, r => r
  | .str s, v, r => r
  | .opq u, v, r => r
  | .tup ds, v, r => by
    obtain ⟨a, vs, e, q, l⟩ := r
    exact ⟨a, vs, e, h.sqT q, RepL.le h ds vs l⟩
  | .lst ds, v, r => by
    obtain ⟨a, vs, e, q, l⟩ := r
    exact ⟨a, vs, e, h.lst _ _ q, RepL.le h ds vs l⟩
  | .dic kds, v, r => by
    obtain ⟨a, vs, e, q, l⟩ := r
    exact ⟨a, vs, e, h.rd _ _ q, RepK.le h kds vs l⟩
  | .ins c fds, v, r => by
    obtain ⟨a, dx, vs, e, q, q2, l⟩ := r
    exact ⟨a, dx, vs, e, h.ins _ _ _ _ q, h.own _ _ q2, RepF.le h fds vs l⟩
theorem RepL.le (h : Le F F') : ∀ (ds : List D) (vs : List V), RepL K cl F ds vs → RepL K cl F' ds vs
  | [], vs, r => r
  | d :: ds, vs, r => by
    obtain ⟨v, t, e, q, l⟩ := r
    exact ⟨v, t, e, Rep.le h d v q, RepL.le h ds t l⟩
theorem RepK.le (h : Le F F') : ∀ (ds : List (Key × D)) (vs : List (Key × V)), RepK K cl F ds vs → RepK K cl F' ds vs
  | [], vs, r => r
  | (k, d) :: ds, vs, r => by
    obtain ⟨v, t, e, q, l⟩ := r
    exact ⟨v, t, e, Rep.le h d v q, RepK.le h ds t l⟩
theorem RepF.le (h : Le F F') : ∀ (ds : List (Str × D)) (vs : List (Str × V)), RepF K cl F ds vs → RepF K cl F' ds vs
  | [], vs, r => r
  | (k, d) :: ds, vs, r => by
    obtain ⟨v, t, e, q, l⟩ := r
    exact ⟨v, t, e, Rep.le h d v q, RepF.le h ds t l⟩
end
theorem Rep.mono (h : Same F F') {d : D} {v : V} (r : Rep K cl F d v) : Rep K cl F' d v := Rep.le (Le.of h) d v r
theorem RepL.mono (h : Same F F') {ds : List D} {vs : List V} (r : RepL K cl F ds vs) : RepL K cl F' ds vs := RepL.le (Le.of h) ds vs r
theorem RepL.length : ∀ {ds : List D} {vs : List V}, RepL K cl F ds vs → ds.length = vs.length
  | [], vs, r => by rw [show vs = [] from r] <;> rfl
  | d :: ds, vs, r => by
    obtain ⟨v, t, e, q, l⟩ := r
    rw [e, List.length_cons, List.length_cons, RepL.length l]
theorem RepL.get : ∀ {ds : List D} {vs : List V} {i : Nat} {d : D}, RepL K cl F ds vs → ds[i]? = some d → ∃ v, vs[i]? = some v ∧ Rep K cl F d v
  | [], vs, i, d, r, e => by simp at e
  | d0 :: ds, vs, i, d, r, e => by
    obtain ⟨v, t, e1, q, l⟩ := r
    subst e1
    cases i with
    | zero =>
      simp at e
      subst e
      exact ⟨v, rfl, q⟩
    | succ i =>
      simp at e
      obtain ⟨w, h1, h2⟩ := RepL.get l e
      exact ⟨w, by simpa using h1, h2⟩
theorem RepL.get' : ∀ {ds : List D} {vs : List V} {i : Nat} {v : V}, RepL K cl F ds vs → vs[i]? = some v → ∃ d, ds[i]? = some d ∧ Rep K cl F d v
  | [], vs, i, v, r, e => by rw [show vs = [] from r] at e; simp at e
  | d0 :: ds, vs, i, v, r, e => by
    obtain ⟨v0, t, e1, q, l⟩ := r
    subst e1
    cases i with
    | zero =>
      simp at e
      subst e
      exact ⟨d0, rfl, q⟩
    | succ i =>
      simp at e
      obtain ⟨w, h1, h2⟩ := RepL.get' l e
      exact ⟨w, by simpa using h1, h2⟩
theorem RepL.app : ∀ {ds es : List D} {vs us : List V}, RepL K cl F ds vs → RepL K cl F es us → RepL K cl F (ds ++ es) (vs ++ us)
  | [], es, vs, us, r, q => by
    rw [show vs = [] from r]
    exact q
  | d :: ds, es, vs, us, r, q => by
    obtain ⟨v, t, e, h, l⟩ := r
    subst e
    exact ⟨v, t ++ us, rfl, h, RepL.app l q⟩
theorem RepL.one {d : D} {v : V} (r : Rep K cl F d v) : RepL K cl F [d] [v] := ⟨v, [], rfl, r, rfl⟩
theorem RepL.take : ∀ {ds : List D} {vs : List V} (n : Nat), RepL K cl F ds vs → RepL K cl F (ds.take n) (vs.take n)
  | _, vs, 0, r => by
    rw [List.take_zero, List.take_zero]
    exact rfl
  | [], vs, n + 1, r => by
    rw [show vs = [] from r]
    exact rfl
  | d :: ds, vs, n + 1, r => by
    obtain ⟨v, t, e, h, l⟩ := r
    subst e
    exact ⟨v, _, rfl, h, RepL.take n l⟩
theorem RepL.drop : ∀ {ds : List D} {vs : List V} (n : Nat), RepL K cl F ds vs → RepL K cl F (ds.drop n) (vs.drop n)
  | ds, vs, 0, r => r
  | [], vs, n + 1, r => by
    rw [show vs = [] from r]
    exact rfl
  | d :: ds, vs, n + 1, r => by
    obtain ⟨v, t, e, h, l⟩ := r
    subst e
    exact RepL.drop n l
end

/-! ### outcomes -/
structure Exn where
  c : Nat
  f : Option (Str × D)
inductive Out (α : Type) where
  | ok (a : α) | ex (x : Exn) | bad
def Out.bind {α β : Type} (o : Out α) (k : α → Out β) : Out β := match o with
  | .ok a => k a
  | .ex x => .ex x
  | .bad => .bad
@[simp] theorem bind_ok {α β : Type} (a : α) (k : α → Out β) : Out.bind (.ok a) k = k a := rfl
@[simp] theorem bind_ex {α β : Type} (x : Exn) (k : α → Out β) : Out.bind (.ex x) k = .ex x := rfl
@[simp] theorem bind_bad {α β : Type} (k : α → Out β) : Out.bind .bad k = .bad := rfl
abbrev DEnv := List (Option D)

/-! ### the heap grows -/
/-- from (F, H) to (F', H'): what is new in F' is new in H' -/
structure Gr (F H F' H' : Hp) : Prop where
  f : Same F F'
  h : Same H H'
  le : Same F' H'
  nw : ∀ a, F a = none → F' a ≠ none → H a = none
theorem Gr.refl {F H : Hp} (l : Same F H) : Gr F H F H := ⟨Same.refl F, Same.refl H, l, fun _ e n => absurd e n⟩
theorem Gr.trans {F H F1 H1 F2 H2 : Hp} (a : Gr F H F1 H1) (b : Gr F1 H1 F2 H2) : Gr F H F2 H2 :=
  ⟨a.f.trans b.f, a.h.trans b.h, b.le, fun p e n => by
    cases q : F1 p with
    | none => exact a.h.free (b.nw p q n)
    | some o => exact a.nw p e (by rw [q]; exact fun z => nomatch z)⟩
theorem same_upd {H : Hp} {p : Addr} {o : HO} (h : H p = none) : Same H (upd H p o) := fun a u e => by
  rw [upd_ne (ne_of_none e h)]
  exact e
theorem le_upd {F H : Hp} {p : Addr} {o : HO} (l : Same F H) : Same (upd F p o) (upd H p o) := fun a u e => by
  by_cases q : a = p
  · subst q
    rw [upd_same] at e ⊢
    exact e
  · rw [upd_ne q] at e ⊢
    exact l a u e
theorem none_of_le {F H : Hp} {p : Addr} (l : Same F H) (h : H p = none) : F p = none := by
  cases q : F p with
  | none => rfl
  | some o => rw [l p o q] at h; cases h
/-- a new node, told -/
theorem Gr.new {F H : Hp} {p : Addr} (o : HO) (l : Same F H) (h : H p = none) : Gr F H (upd F p o) (upd H p o) :=
  ⟨same_upd (none_of_le l h), same_upd h, le_upd l, fun a e n => by
    by_cases q : a = p
    · rw [q]; exact h
    · rw [upd_ne q] at n; exact absurd e n⟩
/-- a new node, not told -/
theorem Gr.newH {F H : Hp} {p : Addr} (o : HO) (l : Same F H) (h : H p = none) : Gr F H F (upd H p o) :=
  ⟨Same.refl F, same_upd h, l.trans (same_upd h), fun a e n => absurd e n⟩
theorem Gr.base {F H H1 : Hp} (l : Same F H) (h : Same H H1) : Gr F H F H1 := ⟨Same.refl F, h, l.trans h, fun _ e n => absurd e n⟩

/-! ### owned trees: the first n layers of lists, dicts, instances are ours -/
def LRel (P : D → V → List Addr → Prop) : List D → List V → List Addr → Prop
  | [], vs, fp => vs = [] ∧ fp = []
  | d :: ds, vs, fp => ∃ v r f1 f2, vs = v :: r ∧ fp = f1 ++ f2 ∧ P d v f1 ∧ LRel P ds r f2
def KRel {κ : Type} (P : D → V → List Addr → Prop) : List (κ × D) → List (κ × V) → List Addr → Prop
  | [], vs, fp => vs = [] ∧ fp = []
  | (k, d) :: ds, vs, fp => ∃ v r f1 f2, vs = (k, v) :: r ∧ fp = f1 ++ f2 ∧ P d v f1 ∧ KRel P ds r f2
def Own (K : PySem.W.Frag) (cl : Nat → Addr) : Nat → Hp → Hp → D → V → List Addr → Prop
  | 0, F, _, d, v, fp => Rep K cl F d v ∧ fp = []
  | n + 1, F, H, d, v, fp => match d with
    | .lst ds => ∃ a vs fq, v = .ref a ∧ H a = some (.lst vs) ∧ fp = a :: fq ∧ LRel (Own K cl n F H) ds vs fq
    | .dic kds => ∃ a kvs fq, v = .ref a ∧ H a = some (.dK kvs) ∧ fp = a :: fq ∧ KRel (Own K cl n F H) kds kvs fq
    | .ins c fds => ∃ a dx fvs fq, v = .ref a ∧ H a = some (.ins (cl c) dx fvs) ∧ H dx = some (.own a) ∧ fp = a :: dx :: fq ∧ KRel (Own K cl n F H) fds fvs fq
    | .tup ds => ∃ a vs, v = .ref a ∧ SqT K F a vs ∧ LRel (Own K cl n F H) ds vs fp
    | d => Rep K cl F d v ∧ fp = []
theorem LRel.imp {P Q : D → V → List Addr → Prop} (h : ∀ d v f, P d v f → Q d v f) : ∀ {ds : List D} {vs : List V} {fp : List Addr}, LRel P ds vs fp → LRel Q ds vs fp
  | [], _, _, r => r
  | d :: ds, _, _, r => by
    obtain ⟨v, t, f1, f2, e1, e2, p, l⟩ := r
    exact ⟨v, t, f1, f2, e1, e2, h _ _ _ p, LRel.imp h l⟩
theorem KRel.imp {κ : Type} {P Q : D → V → List Addr → Prop} (h : ∀ d v f, P d v f → Q d v f) : ∀ {ds : List (κ × D)} {vs : List (κ × V)} {fp : List Addr}, KRel P ds vs fp → KRel Q ds vs fp
  | [], _, _, r => r
  | (k, d) :: ds, _, _, r => by
    obtain ⟨v, t, f1, f2, e1, e2, p, l⟩ := r
    exact ⟨v, t, f1, f2, e1, e2, h _ _ _ p, KRel.imp h l⟩
theorem LRel.impm {P Q : D → V → List Addr → Prop} : ∀ {ds : List D} {vs : List V} {fp : List Addr}, (∀ d v f, (∀ a ∈ f, a ∈ fp) → P d v f → Q d v f) → LRel P ds vs fp → LRel Q ds vs fp
  | [], _, _, _, r => r
  | d :: ds, _, _, h, r => by
    obtain ⟨v, t, f1, f2, e1, e2, p, l⟩ := r
    subst e2
    exact ⟨v, t, f1, f2, e1, rfl, h _ _ _ (fun a m => List.mem_append_left _ m) p, LRel.impm (fun d v f m => h d v f fun a q => List.mem_append_right _ (m a q)) l⟩
theorem KRel.impm {κ : Type} {P Q : D → V → List Addr → Prop} : ∀ {ds : List (κ × D)} {vs : List (κ × V)} {fp : List Addr}, (∀ d v f, (∀ a ∈ f, a ∈ fp) → P d v f → Q d v f) → KRel P ds vs fp → KRel Q ds vs fp
  | [], _, _, _, r => r
  | (k, d) :: ds, _, _, h, r => by
    obtain ⟨v, t, f1, f2, e1, e2, p, l⟩ := r
    subst e2
    exact ⟨v, t, f1, f2, e1, rfl, h _ _ _ (fun a m => List.mem_append_left _ m) p, KRel.impm (fun d v f m => h d v f fun a q => List.mem_append_right _ (m a q)) l⟩
section
variable {K : PySem.W.Frag} {cl : Nat → Addr}
/-- the owned nodes stand as they stood, the others are kept -/
theorem Own.keep : ∀ {n : Nat} {F F' H H' : Hp} {d : D} {v : V} {fp : List Addr}, Same F F' → (∀ a ∈ fp, H' a = H a) → Own K cl n F H d v fp → Own K cl n F' H' d v fp
  | 0, F, F', H, H', d, v, fp, f, h, r => ⟨r.1.mono f, r.2⟩
  | n + 1, F, F', H, H', d, v, fp, f, h, r => by
    cases d with
    | lst ds =>
      obtain ⟨a, vs, fq, e1, e2, e3, l⟩ := r
      subst e3
      exact ⟨a, vs, fq, e1, by rw [h a List.mem_cons_self]; exact e2, rfl, LRel.impm (fun d v g m o => Own.keep f (fun b q => h b (List.mem_cons_of_mem _ (m b q))) o) l⟩
    | dic kds =>
      obtain ⟨a, vs, fq, e1, e2, e3, l⟩ := r
      subst e3
      exact ⟨a, vs, fq, e1, by rw [h a List.mem_cons_self]; exact e2, rfl, KRel.impm (fun d v g m o => Own.keep f (fun b q => h b (List.mem_cons_of_mem _ (m b q))) o) l⟩
    | ins c fds =>
      obtain ⟨a, dx, vs, fq, e1, e2, e4, e3, l⟩ := r
      subst e3
      exact ⟨a, dx, vs, fq, e1, by rw [h a List.mem_cons_self]; exact e2, by rw [h dx (List.mem_cons_of_mem _ List.mem_cons_self)]; exact e4, rfl, KRel.impm (fun d v g m o => Own.keep f (fun b q => h b (List.mem_cons_of_mem _ (List.mem_cons_of_mem _ (m b q)))) o) l⟩
    | non => exact ⟨r.1.mono f, r.2⟩
    | bl b => exact ⟨r.1.mono f, r.2⟩
    | int i => exact ⟨r.1.mono f, r.2⟩
    | str s => exact ⟨r.1.mono f, r.2⟩
    | opq u => exact ⟨r.1.mono f, r.2⟩
    | tup ds =>
      obtain ⟨a, vs, e1, e2, l⟩ := r
      exact ⟨a, vs, e1, (Le.of f).sqT e2, LRel.impm (fun d v g m o => Own.keep f (fun b q => h b (m b q)) o) l⟩
/-- what an owned node is: a list, a dict, an instance, its own dict -/
def Ob (o : Option HO) : Prop := (∃ xs, o = some (.lst xs)) ∨ (∃ xs, o = some (.dK xs)) ∨ (∃ C dx fs, o = some (.ins C dx fs)) ∨ ∃ x, o = some (.own x)
theorem LRel.ob {P : D → V → List Addr → Prop} {H : Hp} (h : ∀ d v f, P d v f → ∀ a ∈ f, Ob (H a)) : ∀ {ds : List D} {vs : List V} {fp : List Addr}, LRel P ds vs fp → ∀ a ∈ fp, Ob (H a)
  | [], _, _, r, a, m => by rw [r.2] at m; cases m
  | d :: ds, _, _, r, a, m => by
    obtain ⟨v, t, f1, f2, e1, e2, p, l⟩ := r
    subst e2
    rcases List.mem_append.mp m with m | m
    · exact h _ _ _ p a m
    · exact LRel.ob h l a m
theorem KRel.ob {κ : Type} {P : D → V → List Addr → Prop} {H : Hp} (h : ∀ d v f, P d v f → ∀ a ∈ f, Ob (H a)) : ∀ {ds : List (κ × D)} {vs : List (κ × V)} {fp : List Addr}, KRel P ds vs fp → ∀ a ∈ fp, Ob (H a)
  | [], _, _, r, a, m => by rw [r.2] at m; cases m
  | (k, d) :: ds, _, _, r, a, m => by
    obtain ⟨v, t, f1, f2, e1, e2, p, l⟩ := r
    subst e2
    rcases List.mem_append.mp m with m | m
    · exact h _ _ _ p a m
    · exact KRel.ob h l a m
theorem Own.ob : ∀ {n : Nat} {F H : Hp} {d : D} {v : V} {fp : List Addr}, Own K cl n F H d v fp → ∀ a ∈ fp, Ob (H a)
  | 0, F, H, d, v, fp, r, a, m => by rw [r.2] at m; cases m
  | n + 1, F, H, d, v, fp, r, a, m => by
    cases d with
    | lst ds =>
      obtain ⟨b, vs, fq, e1, e2, e3, l⟩ := r
      subst e3
      rcases List.mem_cons.mp m with m | m
      · subst m
        exact .inl ⟨_, e2⟩
      · exact LRel.ob (P := Own K cl n F H) (fun _ _ _ o => Own.ob o) l a m
    | dic kds =>
      obtain ⟨b, vs, fq, e1, e2, e3, l⟩ := r
      subst e3
      rcases List.mem_cons.mp m with m | m
      · subst m
        exact .inr (.inl ⟨_, e2⟩)
      · exact KRel.ob (P := Own K cl n F H) (fun _ _ _ o => Own.ob o) l a m
    | ins c fds =>
      obtain ⟨b, dx, vs, fq, e1, e2, e4, e3, l⟩ := r
      subst e3
      rcases List.mem_cons.mp m with m | m
      · subst m
        exact .inr (.inr (.inl ⟨_, _, _, e2⟩))
      · rcases List.mem_cons.mp m with m | m
        · subst m
          exact .inr (.inr (.inr ⟨_, e4⟩))
        · exact KRel.ob (P := Own K cl n F H) (fun _ _ _ o => Own.ob o) l a m
    | non => rw [r.2] at m; cases m
    | bl b => rw [r.2] at m; cases m
    | int i => rw [r.2] at m; cases m
    | str s => rw [r.2] at m; cases m
    | opq u => rw [r.2] at m; cases m
    | tup ds =>
      obtain ⟨b, vs, e1, e2, l⟩ := r
      exact LRel.ob (P := Own K cl n F H) (fun _ _ _ o => Own.ob o) l a m
theorem Ob.some {o : Option HO} (h : Ob o) : o ≠ none := by
  rcases h with ⟨_, h⟩ | ⟨_, h⟩ | ⟨_, _, _, h⟩ | ⟨_, h⟩ <;> (rw [h]; exact fun z => nomatch z)
theorem Own.same {n : Nat} {F F' H H' : Hp} {d : D} {v : V} {fp : List Addr} (f : Same F F') (h : Same H H') (r : Own K cl n F H d v fp) : Own K cl n F' H' d v fp :=
  Own.keep f (fun a m => by
    cases q : H a with
    | none => exact absurd q (r.ob a m).some
    | some o => exact h a o q) r
/-- F with the owned nodes -/
def ov (F H : Hp) (fp : List Addr) : Hp := fun a => if a ∈ fp then H a else F a
theorem ov_in {F H : Hp} {fp : List Addr} {a : Addr} (m : a ∈ fp) : ov F H fp a = H a := if_pos m
theorem ov_out {F H : Hp} {fp : List Addr} {a : Addr} (m : a ∉ fp) : ov F H fp a = F a := if_neg m
theorem ov_f {F H : Hp} {fp : List Addr} (l : Same F H) : Same F (ov F H fp) := fun a o e => by
  by_cases m : a ∈ fp
  · rw [ov_in m]; exact l a o e
  · rw [ov_out m]; exact e
theorem ov_h {F H : Hp} {fp : List Addr} (l : Same F H) : Same (ov F H fp) H := fun a o e => by
  by_cases m : a ∈ fp
  · rw [ov_in m] at e; exact e
  · rw [ov_out m] at e; exact l a o e
theorem ov_sub {F H : Hp} {fp fq : List Addr} (l : Same F H) (s : ∀ a ∈ fp, a ∈ fq) : Same (ov F H fp) (ov F H fq) := fun a o e => by
  by_cases m : a ∈ fp
  · rw [ov_in (s a m)]
    rw [ov_in m] at e; exact e
  · rw [ov_out m] at e
    exact ov_f l a o e
theorem LRel.rep {P : D → V → List Addr → Prop} {W : Hp} : ∀ {ds : List D} {vs : List V} {fp : List Addr}, (∀ d v f, (∀ a ∈ f, a ∈ fp) → P d v f → Rep K cl W d v) → LRel P ds vs fp → RepL K cl W ds vs
  | [], _, _, _, r => r.1
  | d :: ds, _, _, h, r => by
    obtain ⟨v, t, f1, f2, e1, e2, p, l⟩ := r
    subst e2
    exact ⟨v, t, e1, h _ _ _ (fun a m => List.mem_append_left _ m) p, LRel.rep (fun d v f m => h d v f fun a q => List.mem_append_right _ (m a q)) l⟩
theorem KRel.repK {P : D → V → List Addr → Prop} {W : Hp} : ∀ {ds : List (Key × D)} {vs : List (Key × V)} {fp : List Addr}, (∀ d v f, (∀ a ∈ f, a ∈ fp) → P d v f → Rep K cl W d v) → KRel P ds vs fp → RepK K cl W ds vs
  | [], _, _, _, r => r.1
  | (k, d) :: ds, _, _, h, r => by
    obtain ⟨v, t, f1, f2, e1, e2, p, l⟩ := r
    subst e2
    exact ⟨v, t, e1, h _ _ _ (fun a m => List.mem_append_left _ m) p, KRel.repK (fun d v f m => h d v f fun a q => List.mem_append_right _ (m a q)) l⟩
theorem KRel.repF {P : D → V → List Addr → Prop} {W : Hp} : ∀ {ds : List (Str × D)} {vs : List (Str × V)} {fp : List Addr}, (∀ d v f, (∀ a ∈ f, a ∈ fp) → P d v f → Rep K cl W d v) → KRel P ds vs fp → RepF K cl W ds vs
  | [], _, _, _, r => r.1
  | (k, d) :: ds, _, _, h, r => by
    obtain ⟨v, t, f1, f2, e1, e2, p, l⟩ := r
    subst e2
    exact ⟨v, t, e1, h _ _ _ (fun a m => List.mem_append_left _ m) p, KRel.repF (fun d v f m => h d v f fun a q => List.mem_append_right _ (m a q)) l⟩
/-- an owned tree, looked at as a whole -/
theorem Own.rep : ∀ {n : Nat} {F H : Hp} {d : D} {v : V} {fp : List Addr}, Same F H → Own K cl n F H d v fp → Rep K cl (ov F H fp) d v
  | 0, F, H, d, v, fp, l, r => r.1.mono (ov_f l)
  | n + 1, F, H, d, v, fp, l, r => by
    cases d with
    | lst ds =>
      obtain ⟨b, vs, fq, e1, e2, e3, q⟩ := r
      subst e3
      exact ⟨b, vs, e1, by rw [ov_in List.mem_cons_self]; exact e2, LRel.rep (fun d v f m o => (Own.rep l o).mono (ov_sub l fun a z => List.mem_cons_of_mem _ (m a z))) q⟩
    | dic kds =>
      obtain ⟨b, vs, fq, e1, e2, e3, q⟩ := r
      subst e3
      exact ⟨b, vs, e1, .inl (by rw [ov_in List.mem_cons_self]; exact e2), KRel.repK (fun d v f m o => (Own.rep l o).mono (ov_sub l fun a z => List.mem_cons_of_mem _ (m a z))) q⟩
    | ins c fds =>
      obtain ⟨b, dx, vs, fq, e1, e2, e4, e3, q⟩ := r
      subst e3
      exact ⟨b, dx, vs, e1, by rw [ov_in List.mem_cons_self]; exact e2, by rw [ov_in (List.mem_cons_of_mem _ List.mem_cons_self)]; exact e4, KRel.repF (fun d v f m o => (Own.rep l o).mono (ov_sub l fun a z => List.mem_cons_of_mem _ (List.mem_cons_of_mem _ (m a z)))) q⟩
    | non => exact r.1.mono (ov_f l)
    | bl b => exact r.1.mono (ov_f l)
    | int i => exact r.1.mono (ov_f l)
    | str s => exact r.1.mono (ov_f l)
    | opq u => exact r.1.mono (ov_f l)
    | tup ds =>
      obtain ⟨b, vs, e1, e2, q⟩ := r
      exact ⟨b, vs, e1, (Le.of (ov_f l)).sqT e2, LRel.rep (fun d v f m o => (Own.rep l o).mono (ov_sub l m)) q⟩
end
end DL

namespace DL
open PySem PySem.Spec PyProof.Rows L2

/-! ### data that never changes -/
mutual
def imm : D → Bool
  | .non => true
  | .bl _ => true
  | .int _ => true
  | .str _ => true
  | .opq _ => true
  | .tup ds => immL ds
  | .lst _ => false
  | .dic _ => false
  | .ins _ _ => false
def immL : List D → Bool
  | [] => true
  | d :: ds => imm d && immL ds
end
def immAt : Nat → D → Bool
  | 0, d => imm d
  | n + 1, .lst ds => ds.all (immAt n)
  | n + 1, .dic kds => kds.all fun q => immAt n q.2
  | n + 1, .ins _ fds => fds.all fun q => immAt n q.2
  | n + 1, .tup ds => ds.all (immAt n)
  | _ + 1, d => imm d
section
variable {K : PySem.W.Frag} {cl : Nat → Addr} {F F' : Hp}
mutual
theorem Rep.imm (h : ∀ a xs, SqT K F a xs → SqT K F' a xs) : ∀ (d : D) (v : V), imm d = true → Rep K cl F d v → Rep K cl F' d v
  | .non, v, _, r => r
  | .bl b, v, _, r => r
  | .int i, v, _, r => r
  | .str s, v, _, r => r
  | .opq s, v, _, r => r
  | .tup ds, v, i, r => by
    obtain ⟨a, vs, e, q, l⟩ := r
    exact ⟨a, vs, e, h _ _ q, RepL.imm h ds vs i l⟩
  | .lst ds, v, i, r => by cases i
  | .dic kds, v, i, r => by cases i
  | .ins c fds, v, i, r => by cases i
theorem RepL.imm (h : ∀ a xs, SqT K F a xs → SqT K F' a xs) : ∀ (ds : List D) (vs : List V), immL ds = true → RepL K cl F ds vs → RepL K cl F' ds vs
  | [], vs, _, r => r
  | d :: ds, vs, i, r => by
    obtain ⟨v, t, e, q, l⟩ := r
    have i' : (DL.imm d && immL ds) = true := i
    obtain ⟨i1, i2⟩ := Bool.and_eq_true_iff.mp i'
    exact ⟨v, t, e, Rep.imm h d v i1 q, RepL.imm h ds t i2 l⟩
end
theorem LRel.imma {P Q : D → V → List Addr → Prop} {p : D → Bool} (h : ∀ d v f, p d = true → P d v f → Q d v f) : ∀ {ds : List D} {vs : List V} {fp : List Addr}, ds.all p = true → LRel P ds vs fp → LRel Q ds vs fp
  | [], _, _, _, r => r
  | d :: ds, _, _, i, r => by
    obtain ⟨v, t, f1, f2, e1, e2, q, l⟩ := r
    rw [List.all_cons] at i
    obtain ⟨i1, i2⟩ := Bool.and_eq_true_iff.mp i
    exact ⟨v, t, f1, f2, e1, e2, h _ _ _ i1 q, LRel.imma h i2 l⟩
theorem KRel.imma {κ : Type} {P Q : D → V → List Addr → Prop} {p : D → Bool} (h : ∀ d v f, p d = true → P d v f → Q d v f) : ∀ {ds : List (κ × D)} {vs : List (κ × V)} {fp : List Addr}, (ds.all fun q => p q.2) = true → KRel P ds vs fp → KRel Q ds vs fp
  | [], _, _, _, r => r
  | (k, d) :: ds, _, _, i, r => by
    obtain ⟨v, t, f1, f2, e1, e2, q, l⟩ := r
    rw [List.all_cons] at i
    obtain ⟨i1, i2⟩ := Bool.and_eq_true_iff.mp i
    exact ⟨v, t, f1, f2, e1, e2, h _ _ _ i1 q, KRel.imma h i2 l⟩
theorem Own.imm (h : ∀ a xs, SqT K F a xs → SqT K F' a xs) : ∀ {n : Nat} {H : Hp} {d : D} {v : V} {fp : List Addr}, immAt n d = true → Own K cl n F H d v fp → Own K cl n F' H d v fp
  | 0, H, d, v, fp, i, r => ⟨Rep.imm h d v i r.1, r.2⟩
  | n + 1, H, d, v, fp, i, r => by
    cases d with
    | lst ds =>
      obtain ⟨a, vs, fq, e1, e2, e3, l⟩ := r
      exact ⟨a, vs, fq, e1, e2, e3, LRel.imma (p := immAt n) (fun _ _ _ j o => Own.imm h j o) i l⟩
    | dic ds =>
      obtain ⟨a, vs, fq, e1, e2, e3, l⟩ := r
      exact ⟨a, vs, fq, e1, e2, e3, KRel.imma (p := immAt n) (fun _ _ _ j o => Own.imm h j o) i l⟩
    | ins c ds =>
      obtain ⟨a, dx, vs, fq, e1, e2, e3, e4, l⟩ := r
      exact ⟨a, dx, vs, fq, e1, e2, e3, e4, KRel.imma (p := immAt n) (fun _ _ _ j o => Own.imm h j o) i l⟩
    | non => exact ⟨Rep.imm h _ v i r.1, r.2⟩
    | bl b => exact ⟨Rep.imm h _ v i r.1, r.2⟩
    | int b => exact ⟨Rep.imm h _ v i r.1, r.2⟩
    | str b => exact ⟨Rep.imm h _ v i r.1, r.2⟩
    | opq b => exact ⟨Rep.imm h _ v i r.1, r.2⟩
    | tup ds =>
      obtain ⟨a, vs, e1, e2, l⟩ := r
      exact ⟨a, vs, e1, h _ _ e2, LRel.imma (p := immAt n) (fun _ _ _ j o => Own.imm h j o) i l⟩
mutual
/-- what can't be changed has nothing that is ours -/
theorem Own.of_imm {H : Hp} : ∀ (d : D) (n : Nat) (v : V), DL.imm d = true → Rep K cl F d v → Own K cl n F H d v []
  | .non, n, v, _, r => by cases n <;> exact ⟨r, rfl⟩
  | .bl b, n, v, _, r => by cases n <;> exact ⟨r, rfl⟩
  | .int b, n, v, _, r => by cases n <;> exact ⟨r, rfl⟩
  | .str b, n, v, _, r => by cases n <;> exact ⟨r, rfl⟩
  | .opq b, n, v, _, r => by cases n <;> exact ⟨r, rfl⟩
  | .tup ds, 0, v, _, r => ⟨r, rfl⟩
  | .tup ds, n + 1, v, i, r => by
    obtain ⟨a, vs, e, q, l⟩ := r
    exact ⟨a, vs, e, q, LRel.of_imm ds n vs i l⟩
  | .lst ds, n, v, i, r => by cases i
  | .dic ds, n, v, i, r => by cases i
  | .ins _ ds, n, v, i, r => by cases i
theorem LRel.of_imm {H : Hp} : ∀ (ds : List D) (n : Nat) (vs : List V), immL ds = true → RepL K cl F ds vs → LRel (Own K cl n F H) ds vs []
  | [], n, vs, _, r => ⟨r, rfl⟩
  | d :: ds, n, vs, i, r => by
    obtain ⟨v, t, e, q, l⟩ := r
    have i' : (DL.imm d && immL ds) = true := i
    obtain ⟨i1, i2⟩ := Bool.and_eq_true_iff.mp i'
    exact ⟨v, t, [], [], e, rfl, Own.of_imm d n v i1 q, LRel.of_imm ds n t i2 l⟩
end
/-- fewer layers are ours -/
theorem Own.fewer0 : ∀ {n : Nat} {H : Hp} {d : D} {v : V} {fp : List Addr}, Same F H → Own K cl n F H d v fp → Own K cl 0 (ov F H fp) H d v [] := fun l r => ⟨Own.rep l r, rfl⟩
end
/-! ### what of a heap can't be changed -/
def tpo (F : Hp) : Hp := fun a => match F a with
  | some (.tup xs) => some (.tup xs)
  | some (.frz o u) => some (.frz o u)
  | _ => none
def jn (F T : Hp) : Hp := fun a => match F a with
  | some o => some o
  | none => T a
theorem jn_l (F T : Hp) : Same F (jn F T) := fun a o e => by
  unfold jn
  rw [e]
theorem jn_le {F T H : Hp} (f : Same F H) (t : Same T H) : Same (jn F T) H := fun a o e => by
  unfold jn at e
  cases q : F a with
  | some u =>
    rw [q] at e
    rw [← e]
    exact f a u q
  | none =>
    rw [q] at e
    exact t a o e
theorem jn_none {F T : Hp} {a : Addr} (h : F a = none) : jn F T a = T a := by
  unfold jn
  rw [h]
theorem tpo_le (F : Hp) : Same (tpo F) F := fun a o e => by
  unfold tpo at e
  cases q : F a with
  | none => rw [q] at e; cases e
  | some u =>
    rw [q] at e
    cases u with
    | tup xs => exact e
    | frz ob v => exact e
    | _ => cases e
theorem tpo_sqT {K : PySem.W.Frag} {F F' : Hp} (f : Same F F') {a : Addr} {xs : List V} (h : SqT K F' a xs) : SqT K (jn F (tpo F')) a xs := by
  rcases h with (h | ⟨o, h⟩) | h
  · refine .inl (.inl ?_)
    cases q : F a with
    | some u =>
      have z := f a u q
      rw [h] at z
      rw [jn_l F _ a u q, ← z]
    | none =>
      rw [jn_none q]
      unfold tpo
      rw [h]
  · refine .inl (.inr ⟨o, ?_⟩)
    cases q : F a with
    | some u =>
      have z := f a u q
      rw [h] at z
      rw [jn_l F _ a u q, ← z]
    | none =>
      rw [jn_none q]
      unfold tpo
      rw [h]
  · exact .inr h
theorem tpo_ob {F H : Hp} {a : Addr} (l : Same F H) (h : Ob (H a)) : tpo F a = none := by
  cases q : tpo F a with
  | none => rfl
  | some o =>
    have z := l a o (tpo_le F a o q)
    unfold tpo at q
    cases e : F a with
    | none => rw [e] at q; cases q
    | some u =>
      rw [e] at q
      rcases h with ⟨_, h⟩ | ⟨_, h⟩ | ⟨_, _, _, h⟩ | ⟨_, h⟩ <;>
      · rw [h] at z
        have z' := Option.some.inj z
        subst z'
        cases u <;> cases q

/-! ### the state of a body -/
structure Ent (pn : List Nat) where
  F0 : Hp
  H0 : Hp
  fp0 : List Addr
  /-- slots that hold what they held at the entry -/
  pin : List (Nat × V)
  hpin : ∀ p ∈ pin, p.1 ∈ pn
def SRel (P : Nat → D → V → List Addr → Prop) : List Nat → DEnv → St → List Addr → Prop
  | [], [], [], fp => fp = []
  | n :: ns, o :: ρ, s :: σ, fp => ∃ f1 f2, fp = f1 ++ f2 ∧ (match o with
    | none => f1 = []
    | some d => ∃ v, s = some v ∧ P n d v f1) ∧ SRel P ns ρ σ f2
  | _, _, _, _ => False
structure StOk {pn : List Nat} (K : PySem.W.Frag) (cl : Nat → Addr) (E : Ent pn) (Δ : List Nat) (F H : Hp) (ρ : DEnv) (σ : St) (fp : List Addr) : Prop where
  le : Same F H
  sep : ∀ a ∈ fp, F a = none
  nd : fp.Nodup
  sl : SRel (fun n => Own K cl n F H) Δ ρ σ fp
  keep : ∀ a o, E.H0 a = some o → a ∉ E.fp0 → H a = some o
  f0 : Same E.F0 F
  nwF : ∀ a, E.F0 a = none → F a ≠ none → E.H0 a = none ∨ a ∈ E.fp0
  nwO : ∀ a ∈ fp, E.H0 a = none ∨ a ∈ E.fp0
  pn : ∀ p ∈ E.pin, σ[p.1]? = some (some p.2)
section
variable {P Q : Nat → D → V → List Addr → Prop}
theorem SRel.len : ∀ {Δ : List Nat} {ρ : DEnv} {σ : St} {fp : List Addr}, SRel P Δ ρ σ fp → ρ.length = σ.length ∧ Δ.length = ρ.length
  | [], [], [], _, _ => ⟨rfl, rfl⟩
  | n :: ns, o :: ρ, s :: σ, _, r => by
    obtain ⟨f1, f2, _, _, l⟩ := r
    obtain ⟨h1, h2⟩ := SRel.len l
    exact ⟨by rw [List.length_cons, List.length_cons, h1], by rw [List.length_cons, List.length_cons, h2]⟩
  | [], _ :: _, _, _, r => by cases r
  | [], [], _ :: _, _, r => by cases r
  | _ :: _, [], _, _, r => by cases r
  | _ :: _, _ :: _, [], _, r => by cases r
theorem SRel.get : ∀ {Δ : List Nat} {ρ : DEnv} {σ : St} {fp : List Addr} {i : Nat} {d : D}, SRel P Δ ρ σ fp → ρ[i]? = some (some d) → ∃ v n f, σ[i]? = some (some v) ∧ Δ[i]? = some n ∧ P n d v f ∧ ∀ a ∈ f, a ∈ fp
  | [], [], [], _, i, d, _, e => by simp at e
  | n :: ns, o :: ρ, s :: σ, _, i, d, r, e => by
    obtain ⟨f1, f2, e1, h, l⟩ := r
    subst e1
    cases i with
    | zero =>
      have e' : o = some d := by simpa using e
      subst e'
      obtain ⟨v, e2, p⟩ := h
      subst e2
      exact ⟨v, n, f1, rfl, rfl, p, fun a m => List.mem_append_left _ m⟩
    | succ i =>
      obtain ⟨v, m, f, h1, h2, h3, h4⟩ := SRel.get l (by simpa using e)
      exact ⟨v, m, f, by simpa using h1, by simpa using h2, h3, fun a z => List.mem_append_right _ (h4 a z)⟩
  | [], _ :: _, _, _, _, _, r, _ => by cases r
  | [], [], _ :: _, _, _, _, r, _ => by cases r
  | _ :: _, [], _, _, _, _, r, _ => by cases r
  | _ :: _, _ :: _, [], _, _, _, r, _ => by cases r
theorem SRel.impm : ∀ {Δ : List Nat} {ρ : DEnv} {σ : St} {fp : List Addr}, (∀ n d v f, (∀ a ∈ f, a ∈ fp) → P n d v f → Q n d v f) → SRel P Δ ρ σ fp → SRel Q Δ ρ σ fp
  | [], [], [], _, _, r => r
  | n :: ns, o :: ρ, s :: σ, _, h, r => by
    obtain ⟨f1, f2, e1, q, l⟩ := r
    subst e1
    refine ⟨f1, f2, rfl, ?_, SRel.impm (fun n d v f m => h n d v f fun a z => List.mem_append_right _ (m a z)) l⟩
    cases o with
    | none => exact q
    | some d =>
      obtain ⟨v, e2, p⟩ := q
      exact ⟨v, e2, h _ _ _ _ (fun a z => List.mem_append_left _ z) p⟩
  | [], _ :: _, _, _, _, r => by cases r
  | [], [], _ :: _, _, _, r => by cases r
  | _ :: _, [], _, _, _, r => by cases r
  | _ :: _, _ :: _, [], _, _, r => by cases r
/-- all slots by a predicate without owned nodes -/
theorem SRel.flat {R : D → V → Prop} {Δ' : List Nat} : ∀ {Δ : List Nat} {ρ : DEnv} {σ : St} {fp : List Addr}, Δ'.length = Δ.length → (∀ n d v f, (∀ a ∈ f, a ∈ fp) → P n d v f → ∀ m, Q m d v []) → SRel P Δ ρ σ fp → SRel Q Δ' ρ σ []
  | [], [], [], _, hl, _, _ => by
    rw [List.eq_nil_of_length_eq_zero (show Δ'.length = 0 from hl)]
    exact rfl
  | n :: ns, o :: ρ, s :: σ, _, hl, h, r => by
    obtain ⟨f1, f2, e1, q, l⟩ := r
    subst e1
    cases Δ' with
    | nil => cases hl
    | cons m ms =>
      refine ⟨[], [], rfl, ?_, SRel.flat (R := R) (Nat.succ.inj hl) (fun n d v f m => h n d v f fun a z => List.mem_append_right _ (m a z)) l⟩
      cases o with
      | none => rfl
      | some d =>
        obtain ⟨v, e2, p⟩ := q
        exact ⟨v, e2, h _ _ _ _ (fun a z => List.mem_append_left _ z) p m⟩
  | [], _ :: _, _, _, _, _, r => by cases r
  | [], [], _ :: _, _, _, _, r => by cases r
  | _ :: _, [], _, _, _, _, r => by cases r
  | _ :: _, _ :: _, [], _, _, _, r => by cases r
theorem nodup_app {f1 f2 : List Addr} (h1 : f1.Nodup) (h2 : f2.Nodup) (h : ∀ a ∈ f1, a ∉ f2) : (f1 ++ f2).Nodup := List.nodup_append.mpr ⟨h1, h2, fun a m b m2 e => h a m (e ▸ m2)⟩
theorem nodup_l {f1 f2 : List Addr} (h : (f1 ++ f2).Nodup) : f1.Nodup := (List.nodup_append.mp h).1
theorem nodup_r {f1 f2 : List Addr} (h : (f1 ++ f2).Nodup) : f2.Nodup := (List.nodup_append.mp h).2.1
theorem nodup_d {f1 f2 : List Addr} (h : (f1 ++ f2).Nodup) {a : Addr} (m : a ∈ f1) : a ∉ f2 := fun m2 => (List.nodup_append.mp h).2.2 a m a m2 rfl
/-- a slot is stored -/
theorem SRel.set {n : Nat} {d : D} {v : V} {fv : List Addr} (p : P n d v fv) (nv : fv.Nodup) : ∀ {Δ : List Nat} {ρ : DEnv} {σ : St} {fp : List Addr} {i : Nat}, SRel P Δ ρ σ fp → fp.Nodup → (∀ a ∈ fv, a ∉ fp) →
    ∃ fp', SRel P (Δ.set i n) (ρ.set i (some d)) (σ.set i (some v)) fp' ∧ fp'.Nodup ∧ ∀ a ∈ fp', a ∈ fp ∨ a ∈ fv
  | [], [], [], fp, i, r, nd, _ => ⟨fp, r, nd, fun a m => .inl m⟩
  | m :: ns, o :: ρ, s :: σ, _, i, r, nd, ds => by
    obtain ⟨f1, f2, e1, q, l⟩ := r
    subst e1
    cases i with
    | zero =>
      refine ⟨fv ++ f2, ⟨fv, f2, rfl, ⟨v, rfl, p⟩, l⟩, nodup_app nv (nodup_r nd) fun a z z2 => ds a z (List.mem_append_right _ z2), fun a z => ?_⟩
      rcases List.mem_append.mp z with z | z
      · exact .inr z
      · exact .inl (List.mem_append_right _ z)
    | succ i =>
      obtain ⟨fp', h1, h2, h3⟩ := SRel.set (i := i) p nv l (nodup_r nd) fun a z z2 => ds a z (List.mem_append_right _ z2)
      refine ⟨f1 ++ fp', ⟨f1, fp', rfl, q, h1⟩, nodup_app (nodup_l nd) h2 fun a z z2 => ?_, fun a z => ?_⟩
      · rcases h3 a z2 with w | w
        · exact nodup_d nd z w
        · exact ds a w (List.mem_append_left _ z)
      · rcases List.mem_append.mp z with z | z
        · exact .inl (List.mem_append_left _ z)
        · rcases h3 a z with w | w
          · exact .inl (List.mem_append_right _ w)
          · exact .inr w
  | [], _ :: _, _, _, _, r, _, _ => by cases r
  | [], [], _ :: _, _, _, r, _, _ => by cases r
  | _ :: _, [], _, _, _, r, _, _ => by cases r
  | _ :: _, _ :: _, [], _, _, r, _, _ => by cases r
end
/-- the slots, looked at as a whole -/
def RepS (K : PySem.W.Frag) (cl : Nat → Addr) (F : Hp) (ρ : DEnv) (σ : St) : Prop := ρ.length = σ.length ∧ ∀ (i : Nat) (d : D), ρ[i]? = some (some d) → ∃ v, σ[i]? = some (some v) ∧ Rep K cl F d v
section
variable {K : PySem.W.Frag} {cl : Nat → Addr} {pn : List Nat} {E : Ent pn} {Δ : List Nat} {F H F' H' : Hp} {ρ : DEnv} {σ : St} {fp : List Addr}
theorem RepS.mono (h : Same F F') (r : RepS K cl F ρ σ) : RepS K cl F' ρ σ := ⟨r.1, fun i d e => by
  obtain ⟨v, h1, h2⟩ := r.2 i d e
  exact ⟨v, h1, h2.mono h⟩⟩
theorem RepS.set {i : Nat} {d : D} {v : V} (r : RepS K cl F ρ σ) (q : Rep K cl F d v) : RepS K cl F (ρ.set i (some d)) (σ.set i (some v)) := ⟨by rw [List.length_set, List.length_set]; exact r.1, fun j e h => by
  by_cases hj : i = j
  · subst hj
    by_cases hl : i < ρ.length
    · rw [List.getElem?_set_self hl] at h
      have e' : d = e := Option.some.inj (Option.some.inj h)
      subst e'
      exact ⟨v, List.getElem?_set_self (by rw [← r.1]; exact hl), q⟩
    · rw [List.getElem?_eq_none (by rw [List.length_set]; omega)] at h
      cases h
  · rw [List.getElem?_set_ne hj] at h
    rw [List.getElem?_set_ne hj]
    exact r.2 j e h⟩
theorem StOk.view (s : StOk K cl E Δ F H ρ σ fp) : RepS K cl (ov F H fp) ρ σ := ⟨s.sl.len.1, fun i d e => by
  obtain ⟨v, n, f, h1, _, h3, h4⟩ := s.sl.get e
  exact ⟨v, h1, (Own.rep s.le h3).mono (ov_sub s.le h4)⟩⟩
/-- behind an expression whose value is kept apart: the owned slots stay ours -/
theorem StOk.grow (s : StOk K cl E Δ F H ρ σ fp) (g : Gr (ov F H fp) H F' H') : StOk K cl E Δ (jn F (tpo F')) H' ρ σ fp := by
  have fF' : Same F F' := (ov_f s.le).trans g.f
  have fH' : Same F H' := s.le.trans g.h
  have ob : ∀ a ∈ fp, Ob (H a) := fun a m => by
    have z : ∀ {Δ : List Nat} {ρ : DEnv} {σ : St} {fp : List Addr}, SRel (fun n => Own K cl n F H) Δ ρ σ fp → ∀ a ∈ fp, Ob (H a) := by
      intro Δ
      induction Δ with
      | nil =>
        intro ρ σ fp r a m
        cases ρ with
        | nil =>
          cases σ with
          | nil =>
            rw [show fp = [] from r] at m
            cases m
          | cons _ _ => cases r
        | cons _ _ => cases r
      | cons n ns ih =>
        intro ρ σ fp r a m
        cases ρ with
        | nil => cases r
        | cons o ρ =>
          cases σ with
          | nil => cases r
          | cons t σ =>
            obtain ⟨f1, f2, e1, q, l⟩ := r
            subst e1
            rcases List.mem_append.mp m with m | m
            · cases o with
              | none =>
                rw [show f1 = [] from q] at m
                cases m
              | some d =>
                obtain ⟨v, _, p⟩ := q
                exact Own.ob p a m
            · exact ih l a m
    exact z s.sl a m
  refine ⟨jn_le fH' ((tpo_le F').trans g.le), fun a m => ?_, s.nd, SRel.impm (fun n d v f m o => Own.same (jn_l F _) g.h o) s.sl, fun a o e m => g.h a o (s.keep a o e m), s.f0.trans (jn_l F _), fun a e n => ?_, s.nwO, s.pn⟩
  · rw [jn_none (s.sep a m)]
    have z := ob a m
    cases q : H a with
    | none => exact absurd q z.some
    | some o =>
      refine tpo_ob g.le ?_
      rw [g.h a o q, ← q]
      exact z
  · cases q : F a with
    | some o => exact s.nwF a e (by rw [q]; exact fun z => nomatch z)
    | none =>
      rw [jn_none q] at n
      cases w : F' a with
      | none =>
        exfalso
        apply n
        unfold tpo
        rw [w]
      | some u =>
        by_cases m : a ∈ fp
        · exact s.nwO a m
        · have z : H a = none := g.nw a (by rw [ov_out m]; exact q) (by rw [w]; exact fun z => nomatch z)
          by_cases m0 : a ∈ E.fp0
          · exact .inr m0
          · cases y : E.H0 a with
            | none => exact .inl rfl
            | some t =>
              rw [s.keep a t y m0] at z
              cases z
/-- behind an expression, all given up: nothing is ours any more -/
theorem StOk.frz (s : StOk K cl E Δ F H ρ σ fp) (g : Gr (ov F H fp) H F' H') {Δ' : List Nat} (hl : Δ'.length = Δ.length) (h0 : ∀ n ∈ Δ', n = 0) : StOk K cl E Δ' F' H' ρ σ [] := by
  have fF' : Same F F' := (ov_f s.le).trans g.f
  refine ⟨g.le, (fun a m => by cases m), List.nodup_nil, ?_, fun a o e m => g.h a o (s.keep a o e m), s.f0.trans fF', fun a e n => ?_, (fun a m => by cases m), s.pn⟩
  · have z : ∀ {Δ Δ' : List Nat} {ρ : DEnv} {σ : St} {fq : List Addr}, (∀ a ∈ fq, a ∈ fp) → Δ'.length = Δ.length → (∀ n ∈ Δ', n = 0) → SRel (fun n => Own K cl n F H) Δ ρ σ fq → SRel (fun n => Own K cl n F' H') Δ' ρ σ [] := by
      intro Δ
      induction Δ with
      | nil =>
        intro Δ' ρ σ fq hm hl h0 r
        cases Δ' with
        | cons _ _ => cases hl
        | nil =>
          cases ρ with
          | nil =>
            cases σ with
            | nil => rfl
            | cons _ _ => cases r
          | cons _ _ => cases r
      | cons n ns ih =>
        intro Δ' ρ σ fq hm hl h0 r
        cases Δ' with
        | nil => cases hl
        | cons m ms =>
          cases ρ with
          | nil => cases r
          | cons o ρ =>
            cases σ with
            | nil => cases r
            | cons t σ =>
              obtain ⟨f1, f2, e1, q, l⟩ := r
              subst e1
              have e0 : m = 0 := h0 m List.mem_cons_self
              subst e0
              refine ⟨[], [], rfl, ?_, ih (fun a z => hm a (List.mem_append_right _ z)) (Nat.succ.inj hl) (fun n z => h0 n (List.mem_cons_of_mem _ z)) l⟩
              cases o with
              | none => rfl
              | some d =>
                obtain ⟨v, e2, p⟩ := q
                exact ⟨v, e2, ((Own.rep s.le p).mono (ov_sub s.le fun a z => hm a (List.mem_append_left _ z))).mono g.f, rfl⟩
    exact z (fun a m => m) hl h0 s.sl
  · by_cases m0 : a ∈ E.fp0
    · exact .inr m0
    · refine .inl ?_
      cases y : E.H0 a with
      | none => rfl
      | some t =>
        exfalso
        have z := s.keep a t y m0
        cases q : ov F H fp a with
        | none =>
          rw [g.nw a q n] at z
          cases z
        | some o =>
          by_cases m : a ∈ fp
          · rcases s.nwO a m with w | w
            · rw [w] at y; cases y
            · exact m0 w
          · rw [ov_out m] at q
            rcases s.nwF a e (by rw [q]; exact fun z => nomatch z) with w | w
            · rw [w] at y; cases y
            · exact m0 w
theorem pin_set {pn : List Nat} {E : Ent pn} {i : Nat} {σ : St} {o : Option V} (hi : pn.contains i = false) (h : ∀ p ∈ E.pin, σ[p.1]? = some (some p.2)) : ∀ p ∈ E.pin, (σ.set i o)[p.1]? = some (some p.2) := fun p m => by
  have m1 := E.hpin p m
  have ne : i ≠ p.1 := fun e => by
    rw [e] at hi
    rw [List.contains_iff_mem.mpr m1] at hi
    cases hi
  rw [List.getElem?_set_ne ne]
  exact h p m
/-- a slot is stored with what stands apart -/
theorem StOk.set (s : StOk K cl E Δ F H ρ σ fp) {n i : Nat} {d : D} {v : V} {fv : List Addr} (p : Own K cl n F H d v fv) (nv : fv.Nodup) (hd : ∀ a ∈ fv, a ∉ fp) (hf : ∀ a ∈ fv, F a = none) (hn : ∀ a ∈ fv, E.H0 a = none ∨ a ∈ E.fp0) (hi : pn.contains i = false) :
    ∃ fp', StOk K cl E (Δ.set i n) F H (ρ.set i (some d)) (σ.set i (some v)) fp' := by
  obtain ⟨fp', h1, h2, h3⟩ := SRel.set (P := fun n => Own K cl n F H) (i := i) p nv s.sl s.nd hd
  exact ⟨fp', s.le, fun a m => (h3 a m).elim (s.sep a) (hf a), h2, h1, s.keep, s.f0, s.nwF, fun a m => (h3 a m).elim (s.nwO a) (hn a), pin_set hi s.pn⟩
end
end DL

namespace DL
open PySem PySem.Spec PyProof.Rows L2

/-! ### what is wanted of an outcome -/
def XRep (K : PySem.W.Frag) (cl : Nat → Addr) (F : Hp) (x : Exn) (c : Value) (dx : Option Addr) (H : Hp) (fv : List Addr) : Prop := c = .ref (cl x.c) ∧ match x.f with
  | none => dx = none ∧ fv = []
  | some (f, d) => immAt 1 d = true ∧ ∃ p v, dx = some p ∧ H p = some (.xd [(f, v)]) ∧ Own K cl 1 F H d v fv
abbrev XW := Value → Option Addr → Hp → Prop
/-- an exception, wished for -/
def exW (K : PySem.W.Frag) (cl : Nat → Addr) (x : Exn) (F H : Hp) (EX : XW) : Prop := ∀ F' H' c dx fv, Gr F H F' H' → XRep K cl F' x c dx H' fv → (∀ a ∈ fv, H a = none ∧ F' a = none) → fv.Nodup → EX c dx H'
def wpE (K : PySem.W.Frag) (cl : Nat → Addr) (r : Nat) (o : Out D) (F H : Hp) (Q : VK) (EX : XW) : Prop := match o with
  | .ok d => ∀ F' H' v fv, Gr F H F' H' → Own K cl r F' H' d v fv → (∀ a ∈ fv, H a = none ∧ F' a = none) → fv.Nodup → Q v H'
  | .ex x => exW K cl x F H EX
  | .bad => False
/-- of a test -/
def wpT (K : PySem.W.Frag) (cl : Nat → Addr) (o : Out Bool) (F H : Hp) (Q : Bool → Hp → Prop) (EX : XW) : Prop := match o with
  | .ok b => ∀ F' H', Gr F H F' H' → Q b H'
  | .ex x => exW K cl x F H EX
  | .bad => False
/-- of arguments -/
def wpA (K : PySem.W.Frag) (cl : Nat → Addr) (r : Nat) (o : Out (List D)) (F H : Hp) (Q : List V → Hp → Prop) (EX : XW) : Prop := match o with
  | .ok ds => ∀ F' H' vs fv, Gr F H F' H' → LRel (Own K cl r F' H') ds vs fv → (∀ a ∈ fv, H a = none ∧ F' a = none) → fv.Nodup → Q vs H'
  | .ex x => exW K cl x F H EX
  | .bad => False
def tE (K : PySem.W.Frag) (cl : Nat → Addr) (W : WX) (r : Nat) (f : DEnv → Out D) : TE := fun σ H Q => ∃ F ρ, Same F H ∧ RepS K cl F ρ σ ∧ wpE K cl r (f ρ) F H Q fun c dx H' => W c dx σ H'
def tB' (K : PySem.W.Frag) (cl : Nat → Addr) (W : WX) (f : DEnv → Out Bool) : TT := fun σ H Q => ∃ F ρ, Same F H ∧ RepS K cl F ρ σ ∧ wpT K cl (f ρ) F H Q fun c dx H' => W c dx σ H'
def tA (K : PySem.W.Frag) (cl : Nat → Addr) (W : WX) (r : Nat) (f : DEnv → Out (List D)) : TA := fun σ H Q => ∃ F ρ, Same F H ∧ RepS K cl F ρ σ ∧ wpA K cl r (f ρ) F H Q fun c dx H' => W c dx σ H'
def DE (X : Cx) (cl : Nat → Addr) (W : WX) (e : Expr) (r : Nat) (f : DEnv → Out D) : Prop := PE X e (tE X.K cl W r f)
def DT (X : Cx) (cl : Nat → Addr) (W : WX) (e : Expr) (f : DEnv → Out Bool) : Prop := PT X e (tB' X.K cl W f)
def DA (X : Cx) (cl : Nat → Addr) (W : WX) (es : List Expr) (r : Nat) (f : DEnv → Out (List D)) : Prop := PA X es (tA X.K cl W r f)

theorem PE.imp {X : Cx} {e : Expr} {t t' : TE} (h : PE X e t) (i : ∀ σ H Q, t' σ H Q → t σ H Q) : PE X e t' := ⟨fun pins s σ H Q I w => h.run pins s σ H Q I (i σ H Q w)⟩
theorem PT.imp {X : Cx} {e : Expr} {t t' : TT} (h : PT X e t) (i : ∀ σ H Q, t' σ H Q → t σ H Q) : PT X e t' := ⟨fun pins s σ H Q I w => h.run pins s σ H Q I (i σ H Q w)⟩
theorem PA.imp {X : Cx} {e : List Expr} {t t' : TA} (h : PA X e t) (i : ∀ σ H Q, t' σ H Q → t σ H Q) : PA X e t' := ⟨fun pos pins s σ H Q I w => h.run pos pins s σ H Q I (i σ H Q w)⟩
theorem PS.imp {X : Cx} {e : Stmt} {t t' : TS} (h : PS X e t) (i : ∀ D σ H, t' D σ H → t D σ H) : PS X e t' := ⟨fun pins s σ H D I w => h.run pins s σ H D I (i D σ H w)⟩
theorem PSs.imp {X : Cx} {e : List Stmt} {t t' : TS} (h : PSs X e t) (i : ∀ D σ H, t' D σ H → t D σ H) : PSs X e t' := ⟨fun pins s σ H D I w => h.run pins s σ H D I (i D σ H w)⟩

section
variable {K : PySem.W.Frag} {cl : Nat → Addr} {r : Nat} {F H F1 H1 F2 H2 : Hp} {Q : VK} {EX : XW}
theorem exW.grow {x : Exn} (g : Gr F H F1 H1) (w : exW K cl x F H EX) : exW K cl x F1 H1 EX := fun F' H' c dx fv g2 e nw nd => w F' H' c dx fv (g.trans g2) e (fun a m => ⟨g.h.free (nw a m).1, (nw a m).2⟩) nd
theorem wpE.grow {o : Out D} (g : Gr F H F1 H1) (w : wpE K cl r o F H Q EX) : wpE K cl r o F1 H1 Q EX := by
  cases o with
  | ok d => exact fun F' H' v fv g2 ow nw nd => w F' H' v fv (g.trans g2) ow (fun a m => ⟨g.h.free (nw a m).1, (nw a m).2⟩) nd
  | ex x => exact exW.grow g w
  | bad => exact w
theorem wpT.grow {o : Out Bool} {Q : Bool → Hp → Prop} (g : Gr F H F1 H1) (w : wpT K cl o F H Q EX) : wpT K cl o F1 H1 Q EX := by
  cases o with
  | ok d => exact fun F' H' g2 => w F' H' (g.trans g2)
  | ex x => exact exW.grow g w
  | bad => exact w
theorem wpA.grow {o : Out (List D)} {Q : List V → Hp → Prop} (g : Gr F H F1 H1) (w : wpA K cl r o F H Q EX) : wpA K cl r o F1 H1 Q EX := by
  cases o with
  | ok d => exact fun F' H' v fv g2 ow nw nd => w F' H' v fv (g.trans g2) ow (fun a m => ⟨g.h.free (nw a m).1, (nw a m).2⟩) nd
  | ex x => exact exW.grow g w
  | bad => exact w
/-- the owned nodes given up -/
theorem Gr.give {fv : List Addr} (g : Gr F H F1 H1) (nw : ∀ a ∈ fv, H a = none ∧ F1 a = none) : Gr F H (ov F1 H1 fv) H1 :=
  ⟨g.f.trans (ov_f g.le), g.h, ov_h g.le, fun a e n => by
    by_cases m : a ∈ fv
    · exact (nw a m).1
    · rw [ov_out m] at n
      exact g.nw a e n⟩
theorem wpE.zero {o : Out D} (w : wpE K cl 0 o F H Q EX) : wpE K cl r o F H Q EX := by
  cases o with
  | ok d => exact fun F' H' v fv g ow nw nd => w _ H' v [] (g.give nw) ⟨Own.rep g.le ow, rfl⟩ (fun a m => by cases m) List.nodup_nil
  | ex x => exact w
  | bad => exact w
theorem wpE.ok0 {d : D} (h : ∀ F' H' v, Gr F H F' H' → Rep K cl F' d v → Q v H') : wpE K cl 0 (.ok d) F H Q EX := fun F' H' v fv g ow _ _ => h F' H' v g ow.1
/-- a value, given -/
theorem wpE.val {d : D} {v : V} (w : wpE K cl r (.ok d) F H Q EX) (g : Gr F H F1 H1) (i : Own K cl r F1 H1 d v []) : Q v H1 := w F1 H1 v [] g i (fun a m => by cases m) List.nodup_nil
/-- one expression, then what is done with its value -/
theorem wpE.bnd {o : Out D} {k : D → Out D} {Q1 : VK} (w : wpE K cl r (o.bind k) F H Q EX) (h : ∀ d F' H' v, Gr F H F' H' → Rep K cl F' d v → wpE K cl r (k d) F' H' Q EX → Q1 v H') : wpE K cl 0 o F H Q1 EX := by
  cases o with
  | ok d => exact wpE.ok0 fun F' H' v g q => h d F' H' v g q (wpE.grow g w)
  | ex x => exact w
  | bad => exact w
theorem wpE.bndT {o : Out Bool} {k : Bool → Out D} {Q1 : Bool → Hp → Prop} (w : wpE K cl r (o.bind k) F H Q EX) (h : ∀ b F' H', Gr F H F' H' → wpE K cl r (k b) F' H' Q EX → Q1 b H') : wpT K cl o F H Q1 EX := by
  cases o with
  | ok d => exact fun F' H' g => h d F' H' g (wpE.grow g w)
  | ex x => exact w
  | bad => exact w
theorem wpT.bnd {o : Out D} {k : D → Out Bool} {Q1 : VK} {Q : Bool → Hp → Prop} (w : wpT K cl (o.bind k) F H Q EX) (h : ∀ d F' H' v, Gr F H F' H' → Rep K cl F' d v → wpT K cl (k d) F' H' Q EX → Q1 v H') : wpE K cl 0 o F H Q1 EX := by
  cases o with
  | ok d => exact wpE.ok0 fun F' H' v g q => h d F' H' v g q (wpT.grow g w)
  | ex x => exact w
  | bad => exact w
theorem wpT.bndT {o : Out Bool} {k : Bool → Out Bool} {Q1 Q : Bool → Hp → Prop} (w : wpT K cl (o.bind k) F H Q EX) (h : ∀ b F' H', Gr F H F' H' → wpT K cl (k b) F' H' Q EX → Q1 b H') : wpT K cl o F H Q1 EX := by
  cases o with
  | ok d => exact fun F' H' g => h d F' H' g (wpT.grow g w)
  | ex x => exact w
  | bad => exact w
theorem LRel.zero {ds : List D} {vs : List V} {fv : List Addr} : LRel (Own K cl 0 F H) ds vs fv → RepL K cl F ds vs ∧ fv = [] := by
  induction ds generalizing vs fv with
  | nil => exact fun r => ⟨r.1, r.2⟩
  | cons d ds ih =>
    intro r
    obtain ⟨v, t, f1, f2, e1, e2, p, l⟩ := r
    obtain ⟨h1, h2⟩ := ih l
    subst e2 h2
    rw [p.2]
    exact ⟨⟨v, t, e1, p.1, h1⟩, rfl⟩
theorem LRel.of0 {ds : List D} {vs : List V} : RepL K cl F ds vs → LRel (Own K cl 0 F H) ds vs [] := by
  induction ds generalizing vs with
  | nil => exact fun r => ⟨r, rfl⟩
  | cons d ds ih =>
    intro r
    obtain ⟨v, t, e1, p, l⟩ := r
    exact ⟨v, t, [], [], e1, rfl, ⟨p, rfl⟩, ih l⟩
theorem wpE.bndA {o : Out (List D)} {k : List D → Out D} {Q1 : List V → Hp → Prop} (w : wpE K cl r (o.bind k) F H Q EX) (h : ∀ ds F' H' vs, Gr F H F' H' → RepL K cl F' ds vs → wpE K cl r (k ds) F' H' Q EX → Q1 vs H') : wpA K cl 0 o F H Q1 EX := by
  cases o with
  | ok d => exact fun F' H' v fv g ow _ _ => h d F' H' v g (LRel.zero ow).1 (wpE.grow g w)
  | ex x => exact w
  | bad => exact w
end
section
variable {X : Cx} {cl : Nat → Addr} {W : WX} {a b c e : Expr} {es : List Expr} {f g : DEnv → Out D} {r ra rb rc : Nat} {pos : Pos}
theorem DE.zero (h : DE X cl W e r f) : DE X cl W e 0 f := PE.imp h fun σ H Q ⟨F, ρ, l, s, w⟩ => ⟨F, ρ, l, s, w.zero⟩
/-! ### names, constants -/
def varE (i : Nat) : DEnv → Out D := fun ρ => match ρ[i]? with
  | some (some d) => .ok d
  | _ => .bad
def cE (d : D) : DEnv → Out D := fun _ => .ok d
theorem de_var (i : Nat) {x : Str} (hN : X.N[i]? = some x := by rfl) (hv : Vis X.env.scope x := by first | exact Or.inl rfl | exact Or.inr (Or.inl rfl) | exact Or.inr (Or.inr rfl)) (hd : (x == ("__debug__" : Str)) = false := by decide)
    (hcd : (x == ("__classdict__" : Str)) = false := by decide) : DE X cl W (.Name x pos) 0 (varE i) := PE.imp (pe_var hN hv hd hcd) fun σ H Q ⟨F, ρ, l, s, w⟩ => by
  unfold varE at w
  cases q : ρ[i]? with
  | none =>
    rw [q] at w
    exact w.elim
  | some o =>
    rw [q] at w
    cases o with
    | none => exact w.elim
    | some d =>
      obtain ⟨v, h1, h2⟩ := s.2 i d q
      exact ⟨v, h1, w.val (Gr.refl l) ⟨h2, rfl⟩⟩
theorem Own.nonn {K : PySem.W.Frag} {F H : Hp} : ∀ {r : Nat}, Own K cl r F H .non .non []
  | 0 => ⟨rfl, rfl⟩
  | _ + 1 => ⟨rfl, rfl⟩
theorem Own.intt {K : PySem.W.Frag} {F H : Hp} {i : Int} : ∀ {r : Nat}, Own K cl r F H (.int i) (.int i) []
  | 0 => ⟨rfl, rfl⟩
  | _ + 1 => ⟨rfl, rfl⟩
theorem Own.strr {K : PySem.W.Frag} {F H : Hp} {i : Str} : ∀ {r : Nat}, Own K cl r F H (.str i) (.str i) []
  | 0 => ⟨rfl, rfl⟩
  | _ + 1 => ⟨rfl, rfl⟩
theorem Own.bll {K : PySem.W.Frag} {F H : Hp} {i : Bool} : ∀ {r : Nat}, Own K cl r F H (.bl i) (.bl i) []
  | 0 => ⟨rfl, rfl⟩
  | _ + 1 => ⟨rfl, rfl⟩
theorem Own.tupp {K : PySem.W.Frag} {F H : Hp} {ds : List D} {v : V} (h : Rep K cl F (.tup ds) v) : Own K cl 1 F H (.tup ds) v [] := by
  obtain ⟨a, vs, e, q, l⟩ := h
  exact ⟨a, vs, e, q, LRel.of0 l⟩
theorem imm_flat : ∀ {ds : List D}, (ds.all fun d => match d with | .non => true | .bl _ => true | .int _ => true | .str _ => true | _ => false) = true → immL ds = true
  | [], _ => rfl
  | d :: ds, h => by
    rw [List.all_cons] at h
    obtain ⟨h1, h2⟩ := Bool.and_eq_true_iff.mp h
    show (imm d && immL ds) = true
    rw [imm_flat h2, Bool.and_true]
    cases d <;> first | rfl | cases h1
theorem de_int {i j} : DE X cl W (.Constant (.int i) j pos) r (cE (.int i)) := PE.imp pe_int fun σ H Q ⟨F, ρ, l, s, w⟩ => wpE.val w (Gr.refl l) Own.intt
theorem de_bl {i j} : DE X cl W (.Constant (.bool i) j pos) r (cE (.bl i)) := PE.imp pe_bl fun σ H Q ⟨F, ρ, l, s, w⟩ => wpE.val w (Gr.refl l) Own.bll
theorem de_str {i j} : DE X cl W (.Constant (.str i) j pos) r (cE (.str i)) := PE.imp pe_str fun σ H Q ⟨F, ρ, l, s, w⟩ => wpE.val w (Gr.refl l) Own.strr
theorem de_non {j} : DE X cl W (.Constant .none j pos) r (cE .non) := PE.imp pe_non fun σ H Q ⟨F, ρ, l, s, w⟩ => wpE.val w (Gr.refl l) Own.nonn
/-- a module's number, text, tuple -/
theorem de_gint {x : Str} {i : Int} {u : Value} (hg : Gl X x) (hm : X.mg x = some u) (hr : RelV (.int i) u) (hd : (x == ("__debug__" : Str)) = false := by decide) : DE X cl W (.Name x pos) r (cE (.int i)) :=
  PE.imp (pe_glob hg hm hr hd) fun σ H Q ⟨F, ρ, l, s, w⟩ => wpE.val w (Gr.refl l) Own.intt
theorem de_gstr {x : Str} {i : Str} {u : Value} (hg : Gl X x) (hm : X.mg x = some u) (hr : RelV (.str i) u) (hd : (x == ("__debug__" : Str)) = false := by decide) : DE X cl W (.Name x pos) r (cE (.str i)) :=
  PE.imp (pe_glob hg hm hr hd) fun σ H Q ⟨F, ρ, l, s, w⟩ => wpE.val w (Gr.refl l) Own.strr
/-- what a module's tuple of flat things is -/
def vOf : D → V
  | .bl b => .bl b
  | .int i => .int i
  | .str s => .str s
  | _ => .non
def flatD : D → Bool
  | .non => true
  | .bl _ => true
  | .int _ => true
  | .str _ => true
  | _ => false
theorem rep_flat {K : PySem.W.Frag} {F : Hp} {d : D} (h : flatD d = true) : Rep K cl F d (vOf d) := by
  cases d with
  | non => rfl
  | bl _ => rfl
  | int _ => rfl
  | str _ => rfl
  | _ => cases h
theorem repL_flat {K : PySem.W.Frag} {F : Hp} : ∀ {ds : List D}, ds.all flatD = true → RepL K cl F ds (ds.map vOf)
  | [], _ => rfl
  | d :: ds, h => by
    rw [List.all_cons] at h
    obtain ⟨h1, h2⟩ := Bool.and_eq_true_iff.mp h
    exact ⟨vOf d, _, rfl, rep_flat h1, repL_flat h2⟩
theorem rep_isflat {K : PySem.W.Frag} {F : Hp} {d : D} {v : V} (h : flatD d = true) (q : Rep K cl F d v) : v = vOf d := by
  cases d with
  | non => exact q
  | bl _ => exact q
  | int _ => exact q
  | str _ => exact q
  | _ => cases h
theorem repL_isflat {K : PySem.W.Frag} {F : Hp} : ∀ {ds : List D} {vs : List V}, ds.all flatD = true → RepL K cl F ds vs → vs = ds.map vOf
  | [], _, _, q => q
  | d :: ds, vs, h, q => by
    rw [List.all_cons] at h
    obtain ⟨h1, h2⟩ := Bool.and_eq_true_iff.mp h
    obtain ⟨v, t, e, q1, q2⟩ := q
    rw [e, rep_isflat h1 q1, repL_isflat h2 q2] <;> rfl
theorem de_gtup {x : Str} {ds : List D} {p : Addr} (hg : Gl X x) (hm : X.mg x = some (.ref p)) (hs : ∀ H, SqT X.K H p (ds.map vOf)) (hf : ds.all flatD = true) (hd : (x == ("__debug__" : Str)) = false := by decide) : DE X cl W (.Name x pos) r (cE (.tup ds)) :=
  PE.imp (pe_glob (v := .ref p) hg hm rfl hd) fun σ H Q ⟨F, ρ, l, s, w⟩ => wpE.val w (Gr.refl l) (Own.of_imm _ _ _ (imm_flat hf) ⟨p, _, rfl, hs F, repL_flat hf⟩)
/-! ### two-place operations -/
def OpD (K : PySem.W.Frag) (cl : Nat → Addr) (op : R2) (r : Nat) (h : D → D → Out D) : Prop := ∀ (x y : D) (u v : V) (F H : Hp) (Q : VK) (EX : XW), Same F H → Rep K cl F x u → Rep K cl F y v → wpE K cl r (h x y) F H Q EX → op u v H Q
def op2E (h : D → D → Out D) (f g : DEnv → Out D) : DEnv → Out D := fun ρ => (f ρ).bind fun x => (g ρ).bind fun y => h x y
theorem bin2 {op : R2} {h : D → D → Out D} (hd : OpD X.K cl op r h) : ∀ σ H Q, tE X.K cl W r (op2E h f g) σ H Q → tOp op (tE X.K cl W 0 f) (tE X.K cl W 0 g) σ H Q := fun σ H Q ⟨F, ρ, l, s, w⟩ =>
  ⟨F, ρ, l, s, w.bnd fun x F1 H1 u g1 q1 w1 => ⟨F1, ρ, g1.le, s.mono g1.f, w1.bnd fun y F2 H2 v g2 q2 w2 => hd x y u v F2 H2 Q _ g2.le (q1.mono g2.f) q2 w2⟩⟩
theorem de_op {op : Operator} {o : R2} {h : D → D → Out D} (ho : OpR X (binaryOp op) o) (hd : OpD X.K cl o r h) (ha : DE X cl W a 0 f) (hb : DE X cl W b 0 g) : DE X cl W (.BinOp a op b pos) r (op2E h f g) :=
  PE.imp (pe_op ho ha.zero hb.zero) (bin2 hd)
theorem de_cmp {op : CmpOp} {o : R2} {h : D → D → Out D} (ho : OpR X (compareOp op) o) (hd : OpD X.K cl o r h) (ha : DE X cl W a 0 f) (hb : DE X cl W b 0 g) (hm : behindInMarks op b = false) : DE X cl W (.Compare a [op] [b] pos) r (op2E h f g) :=
  PE.imp (pe_cmpR ho ha.zero hb.zero hm) (bin2 hd)
theorem de_ix {o : R2} {h : D → D → Out D} (ho : IxR X o) (hd : OpD X.K cl o r h) (ha : DE X cl W a 0 f) (hb : DE X cl W b 0 g) (hs : PlainIx b := by intro _ _; rfl) : DE X cl W (.Subscript a b pos) r (op2E h f g) :=
  PE.imp (pe_ix ho ha.zero hb.zero hs) (bin2 hd)
def un1E (h : D → Out D) (f : DEnv → Out D) : DEnv → Out D := fun ρ => (f ρ).bind h
def UnD (K : PySem.W.Frag) (cl : Nat → Addr) (op : V → Hp → VK → Prop) (r : Nat) (h : D → Out D) : Prop := ∀ (x : D) (u : V) (F H : Hp) (Q : VK) (EX : XW), Same F H → Rep K cl F x u → wpE K cl r (h x) F H Q EX → op u H Q
theorem de_un {op : UnaryOp} {o : V → Hp → VK → Prop} {h : D → Out D} (ho : UnR X (unaryOp op) o) (hd : UnD X.K cl o r h) (ha : DE X cl W a 0 f) : DE X cl W (.UnaryOp op a pos) r (un1E h f) :=
  PE.imp (pe_un ho ha.zero) fun σ H Q ⟨F, ρ, l, s, w⟩ => ⟨F, ρ, l, s, w.bnd fun x F1 H1 u g1 q1 w1 => hd x u F1 H1 Q _ g1.le q1 w1⟩
/-! ### arguments, calls of built-ins -/
def nilA : DEnv → Out (List D) := fun _ => .ok []
def consA (f : DEnv → Out D) (t : DEnv → Out (List D)) : DEnv → Out (List D) := fun ρ => (f ρ).bind fun x => (t ρ).bind fun xs => .ok (x :: xs)
theorem da_nil : DA X cl W [] r nilA := PA.imp pa_nil fun σ H Q ⟨F, ρ, l, s, w⟩ => w F H [] [] (Gr.refl l) ⟨rfl, rfl⟩ (fun a m => by cases m) List.nodup_nil
theorem da_cons {t : DEnv → Out (List D)} (ha : DE X cl W e r f) (hr : DA X cl W es r t) (hs : starEach (e :: es) X.env = (false, eval e X.env) :: starEach es X.env := by rfl) : DA X cl W (e :: es) r (consA f t) :=
  PA.imp (pa_cons ha hr hs) fun σ H Q ⟨F, ρ, l, s, w⟩ => by
  refine ⟨F, ρ, l, s, ?_⟩
  unfold consA at w
  cases q : f ρ with
  | ex x => rw [q] at w; exact w
  | bad => rw [q] at w; exact w
  | ok x =>
    rw [q] at w
    intro F1 H1 u fu g1 o1 n1 d1
    refine ⟨F1, ρ, g1.le, s.mono g1.f, ?_⟩
    cases q2 : t ρ with
    | ex x => rw [q2] at w; exact exW.grow g1 w
    | bad => rw [q2] at w; exact w
    | ok xs =>
      rw [q2] at w
      intro F2 H2 us fus g2 o2 n2 d2
      have hu : ∀ a ∈ fu, H1 a ≠ none := fun a m => (o1.ob a m).some
      refine w F2 H2 (u :: us) (fu ++ fus) (g1.trans g2) ⟨u, us, fu, fus, rfl, rfl, Own.same g2.f g2.h o1, o2⟩ (fun a m => ?_) (nodup_app d1 d2 fun a m m2 => hu a m (n2 a m2).1)
      rcases List.mem_append.mp m with m | m
      · refine ⟨(n1 a m).1, ?_⟩
        cases z : F2 a with
        | none => rfl
        | some o => exact absurd (g2.nw a (n1 a m).2 (by rw [z]; exact fun y => nomatch y)) (hu a m)
      · exact ⟨g1.h.free (n2 a m).1, (n2 a m).2⟩
def callE (h : List D → Out D) (t : DEnv → Out (List D)) : DEnv → Out D := fun ρ => (t ρ).bind h
def CalD (K : PySem.W.Frag) (cl : Nat → Addr) (op : List V → Hp → VK → Prop) (r : Nat) (h : List D → Out D) : Prop := ∀ (ds : List D) (vs : List V) (F H : Hp) (Q : VK) (EX : XW), Same F H → RepL K cl F ds vs → wpE K cl r (h ds) F H Q EX → op vs H Q
theorem callCB {op : List V → Hp → VK → Prop} {h : List D → Out D} {t : DEnv → Out (List D)} (hd : CalD X.K cl op r h) : ∀ σ H Q, tE X.K cl W r (callE h t) σ H Q → tCB op (tA X.K cl W 0 t) σ H Q := fun σ H Q ⟨F, ρ, l, s, w⟩ =>
  ⟨F, ρ, l, s, w.bndA fun ds F1 H1 vs g1 q1 w1 => hd ds vs F1 H1 Q _ g1.le q1 w1⟩
/-- over pe_callB, pe_callTy -/
theorem dcb {op : List V → Hp → VK → Prop} {h : List D → Out D} {t : DEnv → Out (List D)} (hd : CalD X.K cl op r h) (p : PE X e (tCB op (tA X.K cl W 0 t))) : DE X cl W e r (callE h t) := PE.imp p (callCB hd)
end
end DL

namespace DL
open PySem PySem.Spec PyProof.Rows L2
section
variable {K : PySem.W.Frag} {cl : Nat → Addr}
/-! ### numbers -/
def intD (g : Int → Int → Int) : D → D → Out D
  | .int i, .int j => .ok (.int (g i j))
  | _, _ => .bad
def intC (C : Int → Int → Prop) [∀ i j, Decidable (C i j)] (g : Int → Int → Int) : D → D → Out D
  | .int i, .int j => if C i j then .ok (.int (g i j)) else .bad
  | _, _ => .bad
def cmpD (p : Int → Int → Bool) : D → D → Out D
  | .int i, .int j => .ok (.bl (p i j))
  | _, _ => .bad
theorem sp_int {g : Int → Int → Int} {r : Nat} : OpD K cl (rI0 fun i j => .int (g i j)) r (intD g) := fun x y u v F H Q EX l hx hy w => by
  cases x with
  | int i =>
    cases y with
    | int j =>
      cases hx
      cases hy
      exact ⟨i, j, rfl, rfl, wpE.val w (Gr.refl l) Own.intt⟩
    | _ => exact w.elim
  | _ => exact w.elim
theorem sp_intC {C : Int → Int → Prop} [∀ i j, Decidable (C i j)] {g : Int → Int → Int} {r : Nat} : OpD K cl (rI C fun i j => .int (g i j)) r (intC C g) := fun x y u v F H Q EX l hx hy w => by
  cases x with
  | int i =>
    cases y with
    | int j =>
      cases hx
      cases hy
      have w' : wpE K cl r (if C i j then .ok (.int (g i j)) else .bad) F H Q EX := w
      by_cases c : C i j
      · rw [if_pos c] at w'
        exact ⟨i, j, rfl, rfl, c, wpE.val w' (Gr.refl l) Own.intt⟩
      · rw [if_neg c] at w'
        exact w'.elim
    | _ => exact w.elim
  | _ => exact w.elim
theorem sp_cmp {p : Int → Int → Bool} {r : Nat} : OpD K cl (rI0 fun i j => .bl (p i j)) r (cmpD p) := fun x y u v F H Q EX l hx hy w => by
  cases x with
  | int i =>
    cases y with
    | int j =>
      cases hx
      cases hy
      exact ⟨i, j, rfl, rfl, wpE.val w (Gr.refl l) Own.bll⟩
    | _ => exact w.elim
  | _ => exact w.elim
instance : ∀ i j, Decidable (CMul i j) := fun i j => by unfold CMul; infer_instance
instance : ∀ i j, Decidable (CDivW i j) := fun i j => by unfold CDivW; infer_instance
instance : ∀ i j, Decidable (CPow i j) := fun i j => by unfold CPow; infer_instance
def subD := intD fun i j => i - j
def divD := intC CDivW fun i j => i / j
def modD := intC (fun _ j => 0 < j) fun i j => i % j
def powD := intC CPow fun i j => i ^ j.toNat
def negD : D → Out D
  | .int i => .ok (.int (-i))
  | _ => .bad
theorem sp_neg {r : Nat} : UnD K cl (rU fun i => .int (-i)) r negD := fun x u F H Q EX l hx w => by
  cases x with
  | int i =>
    cases hx
    exact ⟨i, rfl, wpE.val w (Gr.refl l) Own.intt⟩
  | _ => exact w.elim
def ltD := cmpD fun i j => decide (i < j)
def leD := cmpD fun i j => decide (i ≤ j)
def gtD := cmpD fun i j => decide (j < i)
def geD := cmpD fun i j => decide (j ≤ i)
/-! ### + -/
def addD : D → D → Out D
  | .int i, .int j => .ok (.int (i + j))
  | .str s, .str t => if s.length + t.length ≤ sizeLine then .ok (.str (s ++ t)) else .bad
  | .lst xs, .lst ys => if xs.length + ys.length ≤ sizeLine then .ok (.lst (xs ++ ys)) else .bad
  | .tup xs, .tup ys => if xs.length + ys.length ≤ sizeLine then .ok (.tup (xs ++ ys)) else .bad
  | _, _ => .bad
def rAddS : R2 := fun x y H Q => ∃ i j, x = .str i ∧ y = .str j ∧ i.length + j.length ≤ sizeLine ∧ Q (.str (i ++ j)) H
def rAddAll (K : PySem.W.Frag) : R2 := fun x y H Q => rI0 (fun i j => .int (i + j)) x y H Q ∨ (rAddS x y H Q ∨ (rCat x y H Q ∨ rCatA K x y H Q))
theorem op_addAll {X : Cx} : OpR X (binaryOp .Add) (rAddAll X.K) := OpR.or op_add (OpR.or (r := rAddS) op_add_str (OpR.or op_cat op_catA))
theorem rep_newL {F : Hp} {p : Addr} {ds : List D} {vs : List V} (h : RepL K cl F ds vs) (hn : F p = none) : Rep K cl (upd F p (.lst vs)) (.lst ds) (.ref p) := ⟨p, vs, rfl, upd_same, h.mono (same_upd hn)⟩
theorem rep_newT {F : Hp} {p : Addr} {ds : List D} {vs : List V} (h : RepL K cl F ds vs) (hn : F p = none) : Rep K cl (upd F p (.tup vs)) (.tup ds) (.ref p) := ⟨p, vs, rfl, SqT.of upd_same, h.mono (same_upd hn)⟩
/-- a new list, ours -/
theorem wpE.newL {o : D} {ds : List D} {vs : List V} {F H : Hp} {Q : VK} {EX : XW} (w : wpE K cl 1 (.ok (.lst ds)) F H Q EX) (l : Same F H) (h : RepL K cl F ds vs) {p : Addr} (hp : H p = none) : Q (.ref p) (upd H p (.lst vs)) :=
  w F _ (.ref p) [p] (Gr.newH _ l hp) ⟨p, vs, [], rfl, upd_same, rfl, LRel.of0 h⟩ (fun a m => by
    have e : a = p := by simpa using m
    rw [e]
    exact ⟨hp, none_of_le l hp⟩) (by simp)
theorem wpE.newT {ds : List D} {vs : List V} {F H : Hp} {Q : VK} {EX : XW} (w : wpE K cl 1 (.ok (.tup ds)) F H Q EX) (l : Same F H) (h : RepL K cl F ds vs) {p : Addr} (hp : H p = none) : Q (.ref p) (upd H p (.tup vs)) :=
  wpE.val w (Gr.new _ l hp) (Own.tupp (rep_newT h (none_of_le l hp)))
theorem wpE.low1 {o : Out D} {F H : Hp} {Q : VK} {EX : XW} {r : Nat} (w : wpE K cl 0 o F H Q EX) : wpE K cl r o F H Q EX := w.zero
theorem sp_add : OpD K cl (rAddAll K) 1 addD := fun x y u v F H Q EX l hx hy w => by
  cases x with
  | int i =>
    cases y with
    | int j =>
      cases hx
      cases hy
      exact .inl ⟨i, j, rfl, rfl, wpE.val w (Gr.refl l) Own.intt⟩
    | _ => exact w.elim
  | str s =>
    cases y with
    | str t =>
      cases hx
      cases hy
      have w' : wpE K cl 1 (if s.length + t.length ≤ sizeLine then .ok (.str (s ++ t)) else .bad) F H Q EX := w
      by_cases c : s.length + t.length ≤ sizeLine
      · rw [if_pos c] at w'
        exact .inr (.inl ⟨s, t, rfl, rfl, c, wpE.val w' (Gr.refl l) Own.strr⟩)
      · rw [if_neg c] at w'
        exact w'.elim
    | _ => exact w.elim
  | lst xs =>
    cases y with
    | lst ys =>
      obtain ⟨a, vs, rfl, ha, hl⟩ := hx
      obtain ⟨b, us, rfl, hb, hl2⟩ := hy
      have w' : wpE K cl 1 (if xs.length + ys.length ≤ sizeLine then .ok (.lst (xs ++ ys)) else .bad) F H Q EX := w
      by_cases c : xs.length + ys.length ≤ sizeLine
      · rw [if_pos c] at w'
        exact .inr (.inr (.inl ⟨a, b, vs, us, rfl, rfl, l _ _ ha, l _ _ hb, by rw [← hl.length, ← hl2.length]; exact c, fun p hp => wpE.newL (o := .non) w' l (hl.app hl2) hp⟩))
      · rw [if_neg c] at w'
        exact w'.elim
    | _ => exact w.elim
  | tup xs =>
    cases y with
    | tup ys =>
      have hx0 := hx
      have hy0 := hy
      obtain ⟨a, vs, rfl, ha, hl⟩ := hx
      obtain ⟨b, us, rfl, hb, hl2⟩ := hy
      have w' : wpE K cl 1 (if xs.length + ys.length ≤ sizeLine then .ok (.tup (xs ++ ys)) else .bad) F H Q EX := w
      by_cases c : xs.length + ys.length ≤ sizeLine
      · rw [if_pos c] at w'
        refine .inr (.inr (.inr ⟨a, b, vs, us, rfl, rfl, (Le.of l).sqT ha, (Le.of l).sqT hb, by rw [← hl.length, ← hl2.length]; exact c, fun e => ?_, fun _ e => ?_, fun _ _ p hp => wpE.newT w' l (hl.app hl2) hp⟩))
        · have e2 : xs = [] := List.eq_nil_of_length_eq_zero (by rw [hl.length, e]; rfl)
          subst e2
          exact wpE.val w' (Gr.refl l) (Own.tupp hy0)
        · have e2 : ys = [] := List.eq_nil_of_length_eq_zero (by rw [hl2.length, e]; rfl)
          subst e2
          rw [List.append_nil] at w'
          exact wpE.val w' (Gr.refl l) (Own.tupp hx0)
      · rw [if_neg c] at w'
        exact w'.elim
    | _ => exact w.elim
  | _ => exact w.elim
/-! ### * -/
def mulD : D → D → Out D
  | .int i, .int j => if CMul i j then .ok (.int (i * j)) else .bad
  | .lst xs, .int k => if -(2 ^ 63) ≤ k ∧ k < 2 ^ 63 ∧ xs.length * k.toNat ≤ sizeLine then .ok (.lst (List.replicate k.toNat xs).flatten) else .bad
  | .str s, .int k => if -(2 ^ 63) ≤ k ∧ k < 2 ^ 63 ∧ s.length * k.toNat ≤ sizeLine then .ok (.str (Txt.mul s k)) else .bad
  | _, _ => .bad
theorem mulOk_of {s : Str} {k : Int} (h : -(2 ^ 63) ≤ k ∧ k < 2 ^ 63 ∧ s.length * k.toNat ≤ sizeLine) : MulOk s k := by
  obtain ⟨h1, h2, h3⟩ := h
  refine ⟨?_, fun c _ => ?_, fun _ _ => ?_⟩
  · rw [decide_eq_false (by omega), decide_eq_false (by omega)]
    rfl
  · have hk : (0 : Int) < k := by omega
    have e : ((s.length : Int)) * k ≤ sizeLine := by
      have e2 : (k.toNat : Int) = k := Int.toNat_of_nonneg (by omega)
      rw [← e2]
      exact_mod_cast h3
    have q : (s.length : Int) ≤ (2 ^ 63 - 1) / k := (Int.le_ediv_iff_mul_le hk).mpr (Int.le_trans e (by decide))
    omega
  · exact decide_eq_false (show ¬ (s.length * k.toNat > sizeLine) by omega)
def rMulS : R2 := fun x y H Q => ∃ s k, x = .str s ∧ y = .int k ∧ MulOk s k ∧ Q (.str (Txt.mul s k)) H
theorem op_mulS {X : Cx} : OpR X (binaryOp .Mult) rMulS := by
  intro pins s σ H x y v u Q I rx ry h
  obtain ⟨i, j, rfl, rfl, hz, q⟩ := h
  obtain ⟨t, rfl⟩ := rx
  obtain ⟨t', rfl⟩ := ry
  exact SB.mul hz fun t' k => ⟨.str (Txt.mul i j), H, I.tok _, ⟨_, rfl⟩, q⟩
def rMulAll : R2 := fun x y H Q => rI CMul (fun i j => .int (i * j)) x y H Q ∨ (rRep x y H Q ∨ rMulS x y H Q)
theorem op_mulAll {X : Cx} : OpR X (binaryOp .Mult) rMulAll := OpR.or op_mul (OpR.or op_rep op_mulS)
theorem RepL.rep {F : Hp} {ds : List D} {vs : List V} (h : RepL K cl F ds vs) : ∀ n : Nat, RepL K cl F (List.replicate n ds).flatten (List.replicate n vs).flatten
  | 0 => rfl
  | n + 1 => by
    rw [List.replicate_succ, List.replicate_succ, List.flatten_cons, List.flatten_cons]
    exact h.app (RepL.rep h n)
theorem sp_mul : OpD K cl rMulAll 1 mulD := fun x y u v F H Q EX l hx hy w => by
  cases x with
  | int i =>
    cases y with
    | int j =>
      cases hx
      cases hy
      have w' : wpE K cl 1 (if CMul i j then .ok (.int (i * j)) else .bad) F H Q EX := w
      by_cases c : CMul i j
      · rw [if_pos c] at w'
        exact .inl ⟨i, j, rfl, rfl, c, wpE.val w' (Gr.refl l) Own.intt⟩
      · rw [if_neg c] at w'
        exact w'.elim
    | _ => exact w.elim
  | lst xs =>
    cases y with
    | int k =>
      obtain ⟨a, vs, rfl, ha, hl⟩ := hx
      cases hy
      have w' : wpE K cl 1 (if -(2 ^ 63) ≤ k ∧ k < 2 ^ 63 ∧ xs.length * k.toNat ≤ sizeLine then .ok (.lst (List.replicate k.toNat xs).flatten) else .bad) F H Q EX := w
      by_cases c : -(2 ^ 63) ≤ k ∧ k < 2 ^ 63 ∧ xs.length * k.toNat ≤ sizeLine
      · rw [if_pos c] at w'
        exact .inr (.inl ⟨a, k, vs, rfl, rfl, l _ _ ha, c.1, c.2.1, by rw [← hl.length]; exact c.2.2, fun p hp => wpE.newL (o := .non) w' l (hl.rep _) hp⟩)
      · rw [if_neg c] at w'
        exact w'.elim
    | _ => exact w.elim
  | str xs =>
    cases y with
    | int k =>
      cases hx
      cases hy
      have w' : wpE K cl 1 (if -(2 ^ 63) ≤ k ∧ k < 2 ^ 63 ∧ xs.length * k.toNat ≤ sizeLine then .ok (.str (Txt.mul xs k)) else .bad) F H Q EX := w
      by_cases c : -(2 ^ 63) ≤ k ∧ k < 2 ^ 63 ∧ xs.length * k.toNat ≤ sizeLine
      · rw [if_pos c] at w'
        exact .inr (.inr ⟨xs, k, rfl, rfl, mulOk_of c, wpE.val w' (Gr.refl l) Own.strr⟩)
      · rw [if_neg c] at w'
        exact w'.elim
    | _ => exact w.elim
  | _ => exact w.elim
/-! ### ==, != of flat things; is None; in, not in -/
def eqD : D → D → Out D
  | .int i, .int j => .ok (.bl (decide (i = j)))
  | .str i, .str j => .ok (.bl (decide (i = j)))
  | .bl i, .bl j => .ok (.bl (decide (i = j)))
  | .non, .non => .ok (.bl true)
  | .non, .int _ => .ok (.bl false)
  | .int _, .non => .ok (.bl false)
  | .non, .str _ => .ok (.bl false)
  | .str _, .non => .ok (.bl false)
  | .str _, .int _ => .ok (.bl false)
  | .int _, .str _ => .ok (.bl false)
  | _, _ => .bad
def neD : D → D → Out D := fun x y => (eqD x y).bind fun d => match d with
  | .bl b => .ok (.bl (!b))
  | _ => .bad
theorem dec_int' {i j : Int} : decide (V.int i = V.int j) = decide (i = j) := by
  by_cases h : i = j
  · subst h
    rw [decide_eq_true rfl, decide_eq_true rfl]
  · rw [decide_eq_false h, decide_eq_false fun e => h (V.int.inj e)]
theorem dec_str' {i j : Str} : decide (V.str i = V.str j) = decide (i = j) := by
  by_cases h : i = j
  · subst h
    rw [decide_eq_true rfl, decide_eq_true rfl]
  · rw [decide_eq_false h, decide_eq_false fun e => h (V.str.inj e)]
theorem dec_bl' {i j : Bool} : decide (V.bl i = V.bl j) = decide (i = j) := by
  by_cases h : i = j
  · subst h
    rw [decide_eq_true rfl, decide_eq_true rfl]
  · rw [decide_eq_false h, decide_eq_false fun e => h (V.bl.inj e)]
/-- what eqD tells -/
theorem eqD_shape {F : Hp} {x y : D} {u v : V} {o : D} (hx : Rep K cl F x u) (hy : Rep K cl F y v) (e : eqD x y = .ok o) : scal u v = true ∧ o = .bl (decide (u = v)) := by
  cases x <;> cases y <;> first
    | (exact nomatch (show (Out.bad : Out D) = .ok o from e))
    | (cases hx
       cases hy
       injection e with e
       subst e
       first
         | exact ⟨rfl, by rw [dec_int']⟩
         | exact ⟨rfl, by rw [dec_str']⟩
         | exact ⟨rfl, by rw [dec_bl']⟩
         | exact ⟨rfl, rfl⟩)
theorem sp_eq {r : Nat} : OpD K cl rEq r eqD := fun x y u v F H Q EX l hx hy w => by
  cases e : eqD x y with
  | ok o =>
    obtain ⟨h1, h2⟩ := eqD_shape hx hy e
    rw [e, h2] at w
    exact ⟨h1, wpE.val w (Gr.refl l) Own.bll⟩
  | ex o =>
    exfalso
    cases x <;> cases y <;> cases e
  | bad =>
    rw [e] at w
    exact w.elim
theorem sp_ne {r : Nat} : OpD K cl rNe r neD := fun x y u v F H Q EX l hx hy w => by
  unfold neD at w
  cases e : eqD x y with
  | ok o =>
    obtain ⟨h1, h2⟩ := eqD_shape hx hy e
    rw [e, h2] at w
    exact ⟨h1, wpE.val w (Gr.refl l) Own.bll⟩
  | ex o =>
    exfalso
    cases x <;> cases y <;> cases e
  | bad =>
    rw [e] at w
    exact w.elim
def isN : D → Bool
  | .non => true
  | .opq .non => true
  | _ => false
theorem rep_isN {F : Hp} {x : D} {u : V} (hx : Rep K cl F x u) : decide (u = .non) = isN x := by
  cases x with
  | non => cases hx; rfl
  | bl _ => cases hx; rfl
  | int _ => cases hx; rfl
  | str _ => cases hx; rfl
  | opq u => cases hx; cases u <;> rfl
  | tup _ => obtain ⟨a, vs, rfl, _⟩ := hx; rfl
  | lst _ => obtain ⟨a, vs, rfl, _⟩ := hx; rfl
  | dic _ => obtain ⟨a, vs, rfl, _⟩ := hx; rfl
  | ins _ _ => obtain ⟨a, dx, vs, rfl, _⟩ := hx; rfl
def isD : D → D → Out D
  | x, .non => .ok (.bl (isN x))
  | _, _ => .bad
def isntD : D → D → Out D
  | x, .non => .ok (.bl (!isN x))
  | _, _ => .bad
def rIs : R2 := fun x y H Q => y = .non ∧ Q (.bl (decide (x = .non))) H
def rIsnt : R2 := fun x y H Q => y = .non ∧ Q (.bl (!decide (x = .non))) H
theorem sp_is {r : Nat} : OpD K cl rIs r isD := fun x y u v F H Q EX l hx hy w => by
  cases y with
  | non =>
    cases hy
    refine ⟨rfl, ?_⟩
    rw [rep_isN hx]
    exact wpE.val (show wpE K cl r (.ok (.bl (isN x))) F H Q EX by cases x <;> exact w) (Gr.refl l) Own.bll
  | _ => exact (show False by cases x <;> exact w).elim
theorem sp_isnt {r : Nat} : OpD K cl rIsnt r isntD := fun x y u v F H Q EX l hx hy w => by
  cases y with
  | non =>
    cases hy
    refine ⟨rfl, ?_⟩
    rw [rep_isN hx]
    exact wpE.val (show wpE K cl r (.ok (.bl (!isN x))) F H Q EX by cases x <;> exact w) (Gr.refl l) Own.bll
  | _ => exact (show False by cases x <;> exact w).elim
theorem op_is' {X : Cx} : OpR X (compareOp .Is) rIs := op_isN
theorem op_isnt' {X : Cx} : OpR X (compareOp .IsNot) rIsnt := op_notN
/-- == of flat things as the items of a list are asked -/
def eqF : D → D → Bool
  | .non, .non => true
  | .bl a, .bl b => a == b
  | .bl a, .int b => (if a then 1 else 0) == b
  | .int a, .bl b => a == (if b then 1 else 0)
  | .int a, .int b => a == b
  | .str a, .str b => a == b
  | _, _ => false
theorem eqF_V : ∀ {x y : D}, flatD x = true → flatD y = true → eqV (vOf x) (vOf y) = eqF x y := fun {x y} hx hy => by
  cases x <;> cases y <;> first | rfl | exact nomatch (show false = true from hx) | exact nomatch (show false = true from hy)
theorem flat_V {x : D} (h : flatD x = true) : flatV (vOf x) = true := by
  cases x <;> first | rfl | cases h
theorem flat_Vs {xs : List D} (h : xs.all flatD = true) : (xs.map vOf).all flatV = true := by
  rw [List.all_map]
  exact List.all_eq_true.mpr fun x m => flat_V (List.all_eq_true.mp h x m)
def inL (x : D) (xs : List D) : Bool := xs.any fun y => eqF y x
theorem inL_V {x : D} {xs : List D} (hx : flatD x = true) (h : xs.all flatD = true) : inV (vOf x) (xs.map vOf) = inL x xs := by
  induction xs with
  | nil => rfl
  | cons y ys ih =>
    rw [List.all_cons] at h
    obtain ⟨h1, h2⟩ := Bool.and_eq_true_iff.mp h
    have e := ih h2
    unfold inV inL at e ⊢
    rw [List.map_cons, List.any_cons, List.any_cons, e, eqF_V h1 hx]
def inDn (neg : Bool) : D → D → Out D
  | x, .lst ys => if flatD x = true ∧ ys.all flatD = true then .ok (.bl (if neg then !inL x ys else inL x ys)) else .bad
  | x, .tup ys => if flatD x = true ∧ ys.all flatD = true then .ok (.bl (if neg then !inL x ys else inL x ys)) else .bad
  | .str x, .str y => if x.cps.size = 1 then .ok (.bl (if neg then !decide (x.cps.getD 0 0 ∈ y.cps.toList) else decide (x.cps.getD 0 0 ∈ y.cps.toList))) else .bad
  | _, _ => .bad
def rInSg (neg : Bool) : R2 := fun x y H Q => ∃ (c : Nat) (z : Str), x = .str ⟨#[c]⟩ ∧ y = .str z ∧ Q (.bl (if neg then !decide (c ∈ z.cps.toList) else decide (c ∈ z.cps.toList))) H
def rInAll (K : PySem.W.Frag) (neg : Bool) : R2 := fun x y H Q => rIn K neg x y H Q ∨ rInSg neg x y H Q
theorem op_inAll {X : Cx} : OpR X (compareOp .In) (rInAll X.K false) := OpR.or op_in_seq (r' := rInSg false) op_in_sign
theorem op_notInAll {X : Cx} : OpR X (compareOp .NotIn) (rInAll X.K true) := OpR.or op_notIn_seq (r' := rInSg true) op_notIn_sign
theorem one_sign {x : Str} (h : x.cps.size = 1) : x = ⟨#[x.cps.getD 0 0]⟩ := by
  obtain ⟨a⟩ := x
  have h' : a.size = 1 := h
  show (⟨a⟩ : Str) = ⟨#[a.getD 0 0]⟩
  congr 1
  apply Array.ext
  · rw [h'] <;> rfl
  · intro i h1 h2
    have e : i = 0 := by omega
    subst e
    simp [Array.getD, h1]
theorem sp_in {r : Nat} {neg : Bool} : OpD K cl (rInAll K neg) r (inDn neg) := fun x y u v F H Q EX l hx hy w => by
  cases y with
  | lst ys =>
    have w' : wpE K cl r (if flatD x = true ∧ ys.all flatD = true then .ok (.bl (if neg then !inL x ys else inL x ys)) else .bad) F H Q EX := by cases x <;> exact w
    by_cases c : flatD x = true ∧ ys.all flatD = true
    · rw [if_pos c] at w'
      obtain ⟨b, us, rfl, hb, hl⟩ := hy
      rw [repL_isflat c.2 hl] at hb
      rw [rep_isflat c.1 hx]
      exact .inl ⟨b, _, rfl, .inl (SqL.of (l _ _ hb)), flat_V c.1, flat_Vs c.2, by rw [inL_V c.1 c.2]; exact wpE.val w' (Gr.refl l) Own.bll⟩
    · rw [if_neg c] at w'
      exact w'.elim
  | tup ys =>
    have w' : wpE K cl r (if flatD x = true ∧ ys.all flatD = true then .ok (.bl (if neg then !inL x ys else inL x ys)) else .bad) F H Q EX := by cases x <;> exact w
    by_cases c : flatD x = true ∧ ys.all flatD = true
    · rw [if_pos c] at w'
      obtain ⟨b, us, rfl, hb, hl⟩ := hy
      rw [repL_isflat c.2 hl] at hb
      rw [rep_isflat c.1 hx]
      exact .inl ⟨b, _, rfl, .inr ((Le.of l).sqT hb), flat_V c.1, flat_Vs c.2, by rw [inL_V c.1 c.2]; exact wpE.val w' (Gr.refl l) Own.bll⟩
    · rw [if_neg c] at w'
      exact w'.elim
  | str y =>
    cases x with
    | str x =>
      cases hx
      cases hy
      have w' : wpE K cl r (if x.cps.size = 1 then .ok (.bl (if neg then !decide (x.cps.getD 0 0 ∈ y.cps.toList) else decide (x.cps.getD 0 0 ∈ y.cps.toList))) else .bad) F H Q EX := w
      by_cases c : x.cps.size = 1
      · rw [if_pos c] at w'
        exact .inr ⟨x.cps.getD 0 0, y, by rw [← one_sign c], rfl, wpE.val w' (Gr.refl l) Own.bll⟩
      · rw [if_neg c] at w'
        exact w'.elim
    | _ => exact w.elim
  | _ => exact (show False by cases x <;> exact w).elim
/-! ### items, slices -/
def ixD : D → D → Out D
  | .lst xs, .int i => match atI xs i with
    | some d => .ok d
    | none => .bad
  | .tup xs, .int i => match atI xs i with
    | some d => .ok d
    | none => .bad
  | .str z, .int i => if z.length ≤ sizeLine then (match atI z.cps.toList i with
    | some c => .ok (.str ⟨#[c]⟩)
    | none => .bad) else .bad
  | _, _ => .bad
theorem RepL.atI {F : Hp} {ds : List D} {vs : List V} {i : Int} {d : D} (h : RepL K cl F ds vs) (e : L2.atI ds i = some d) : ∃ v, L2.atI vs i = some v ∧ Rep K cl F d v := by
  unfold L2.atI at e ⊢
  rw [← h.length]
  cases q : ixN ds.length i with
  | none => rw [q] at e; cases e
  | some j =>
    rw [q] at e
    obtain ⟨v, h1, h2⟩ := h.get (show ds[j]? = some d from e)
    exact ⟨v, h1, h2⟩
theorem wpE.rep {F H : Hp} {d : D} {v : V} {Q : VK} {EX : XW} (w : wpE K cl 0 (.ok d) F H Q EX) (l : Same F H) (h : Rep K cl F d v) : Q v H := wpE.val w (Gr.refl l) ⟨h, rfl⟩
theorem sp_ix : OpD K cl (rIx K) 0 ixD := fun x y u v F H Q EX l hx hy w => by
  cases y with
  | int i =>
    cases hy
    cases x with
    | lst xs =>
      obtain ⟨a, vs, rfl, ha, hl⟩ := hx
      have w' : wpE K cl 0 (match atI xs i with | some d => .ok d | none => .bad) F H Q EX := w
      cases e : atI xs i with
      | none => rw [e] at w'; exact w'.elim
      | some d =>
        rw [e] at w'
        obtain ⟨v, h1, h2⟩ := hl.atI e
        exact .inl ⟨a, vs, i, v, rfl, rfl, SqL.of (l _ _ ha), h1, wpE.rep w' l h2⟩
    | tup xs =>
      obtain ⟨a, vs, rfl, ha, hl⟩ := hx
      have w' : wpE K cl 0 (match atI xs i with | some d => .ok d | none => .bad) F H Q EX := w
      cases e : atI xs i with
      | none => rw [e] at w'; exact w'.elim
      | some d =>
        rw [e] at w'
        obtain ⟨v, h1, h2⟩ := hl.atI e
        exact .inr (.inl ⟨a, vs, i, v, rfl, rfl, (Le.of l).sqT ha, h1, wpE.rep w' l h2⟩)
    | str z =>
      cases hx
      have w' : wpE K cl 0 (if z.length ≤ sizeLine then (match atI z.cps.toList i with | some c => .ok (.str ⟨#[c]⟩) | none => .bad) else .bad) F H Q EX := w
      by_cases c : z.length ≤ sizeLine
      · rw [if_pos c] at w'
        cases e : atI z.cps.toList i with
        | none => rw [e] at w'; exact w'.elim
        | some d =>
          rw [e] at w'
          exact .inr (.inr ⟨z, i, d, rfl, rfl, c, e, wpE.rep w' l rfl⟩)
      · rw [if_neg c] at w'
        exact w'.elim
    | _ => exact w.elim
  | _ => exact (show False by cases x <;> exact w).elim
end
end DL

namespace DL
open PySem PySem.Spec PyProof.Rows L2
/-! ### slices -/
def cut {α : Type} (xs : List α) (lo hi : Option Int) : List α := (xs.drop (HT.sIx xs.length 0 lo)).take (HT.sIx xs.length xs.length hi - HT.sIx xs.length 0 lo)
def slD : D → Option Int → Option Int → Out D
  | .lst xs, lo, hi => .ok (.lst (cut xs lo hi))
  | .tup xs, lo, hi => .ok (.tup (cut xs lo hi))
  | .str z, lo, hi => if z.length ≤ sizeLine then .ok (.str (cutS z lo hi)) else .bad
  | _, _, _ => .bad
def wpO (K : PySem.W.Frag) (cl : Nat → Addr) (o : Out (Option Int)) (F H : Hp) (Q : Option Int → Hp → Prop) (EX : XW) : Prop := match o with
  | .ok b => ∀ F' H', Gr F H F' H' → Q b H'
  | .ex x => exW K cl x F H EX
  | .bad => False
def tO (K : PySem.W.Frag) (cl : Nat → Addr) (W : WX) (f : DEnv → Out (Option Int)) : TO := fun σ H Q => ∃ F ρ, Same F H ∧ RepS K cl F ρ σ ∧ wpO K cl (f ρ) F H Q fun c dx H' => W c dx σ H'
def noO : DEnv → Out (Option Int) := fun _ => .ok none
def someO (f : DEnv → Out D) : DEnv → Out (Option Int) := fun ρ => (f ρ).bind fun d => match d with
  | .int i => .ok (some i)
  | _ => .bad
def slE (f : DEnv → Out D) (l u : DEnv → Out (Option Int)) : DEnv → Out D := fun ρ => (f ρ).bind fun x => (l ρ).bind fun lo => (u ρ).bind fun hi => slD x lo hi
theorem PO.imp {X : Cx} {e : Option Expr} {t t' : TO} (h : PO X e t) (i : ∀ σ H Q, t' σ H Q → t σ H Q) : PO X e t' := ⟨fun pins s σ H Q I w => h.run pins s σ H Q I (i σ H Q w)⟩
section
variable {K : PySem.W.Frag} {cl : Nat → Addr}
theorem wpO.grow {o : Out (Option Int)} {F H F1 H1 : Hp} {EX : XW} {Q : Option Int → Hp → Prop} (g : Gr F H F1 H1) (w : wpO K cl o F H Q EX) : wpO K cl o F1 H1 Q EX := by
  cases o with
  | ok d => exact fun F' H' g2 => w F' H' (g.trans g2)
  | ex x => exact exW.grow g w
  | bad => exact w
theorem wpE.bndO {o : Out (Option Int)} {k : Option Int → Out D} {r : Nat} {F H : Hp} {Q : VK} {EX : XW} {Q1 : Option Int → Hp → Prop} (w : wpE K cl r (o.bind k) F H Q EX) (h : ∀ b F' H', Gr F H F' H' → wpE K cl r (k b) F' H' Q EX → Q1 b H') : wpO K cl o F H Q1 EX := by
  cases o with
  | ok d => exact fun F' H' g => h d F' H' g (wpE.grow g w)
  | ex x => exact w
  | bad => exact w
def rSlAll (K : PySem.W.Frag) : V → Option Int → Option Int → Hp → VK → Prop := fun x lo hi H Q => rSlL K x lo hi H Q ∨ (rSlA K x lo hi H Q ∨ rSlS x lo hi H Q)
theorem SlR.or {X : Cx} {r r' : V → Option Int → Option Int → Hp → VK → Prop} (h : SlR X r) (h' : SlR X r') : SlR X (fun x lo hi H Q => r x lo hi H Q ∨ r' x lo hi H Q) := by
  intro pins s σ H x v vl vu lo hi sl Q I rx hs pl pu h0
  rcases h0 with h0 | h0
  · exact h pins s σ H x v vl vu lo hi sl Q I rx hs pl pu h0
  · exact h' pins s σ H x v vl vu lo hi sl Q I rx hs pl pu h0
theorem sl_all {X : Cx} : SlR X (rSlAll X.K) := SlR.or sl_list (SlR.or sl_tupA sl_str)
theorem RepL.cut {F : Hp} {ds : List D} {vs : List V} (h : RepL K cl F ds vs) (lo hi : Option Int) : RepL K cl F (cut ds lo hi) (cutV vs lo hi) := by
  unfold DL.cut cutV
  rw [h.length]
  exact (h.drop _).take _
theorem cut_all {α : Type} {xs : List α} {lo hi : Option Int} (h : HT.sIx xs.length 0 lo = 0 ∧ HT.sIx xs.length xs.length hi = xs.length) : cut xs lo hi = xs := by
  unfold cut
  rw [h.1, h.2, List.drop_zero, Nat.sub_zero, List.take_length]
theorem sp_sl {x : D} {u : V} {lo hi : Option Int} {F H : Hp} {Q : VK} {EX : XW} (l : Same F H) (hx : Rep K cl F x u) (w : wpE K cl 1 (slD x lo hi) F H Q EX) : rSlAll K u lo hi H Q := by
  cases x with
  | lst xs =>
    obtain ⟨a, vs, rfl, ha, hl⟩ := hx
    exact .inl ⟨a, vs, rfl, SqL.of (l _ _ ha), fun p hp => wpE.newL (o := .non) w l (hl.cut lo hi) hp⟩
  | tup xs =>
    have hx0 := hx
    obtain ⟨a, vs, rfl, ha, hl⟩ := hx
    refine .inr (.inl ⟨a, vs, rfl, (Le.of l).sqT ha, fun c => ?_, fun _ p hp => wpE.newT w l (hl.cut lo hi) hp⟩)
    have w' : wpE K cl 1 (.ok (.tup (cut xs lo hi))) F H Q EX := w
    rw [cut_all (by rw [hl.length]; exact c)] at w'
    exact wpE.val w' (Gr.refl l) (Own.tupp hx0)
  | str z =>
    cases hx
    have w' : wpE K cl 1 (if z.length ≤ sizeLine then .ok (.str (cutS z lo hi)) else .bad) F H Q EX := w
    by_cases c : z.length ≤ sizeLine
    · rw [if_pos c] at w'
      exact .inr (.inr ⟨z, rfl, c, wpE.val w' (Gr.refl l) Own.strr⟩)
    · rw [if_neg c] at w'
      exact w'.elim
  | _ => exact w.elim
end
section
variable {X : Cx} {cl : Nat → Addr} {W : WX} {a b c e : Expr} {es : List Expr} {f g h : DEnv → Out D} {r ra rb rc : Nat} {pos p2 : Pos} {t u : DEnv → Out Bool} {s : DEnv → Out (List D)}
theorem do_none : PO X none (tO X.K cl W noO) := PO.imp po_none fun σ H Q ⟨F, ρ, l, s, w⟩ => w F H (Gr.refl l)
theorem do_some (ha : DE X cl W a 0 f) : PO X (some a) (tO X.K cl W (someO f)) := PO.imp (po_some ha.zero) fun σ H Q ⟨F, ρ, l, s, w⟩ => by
  refine ⟨F, ρ, l, s, ?_⟩
  unfold someO at w
  cases q : f ρ with
  | ex x => rw [q] at w; exact w
  | bad => rw [q] at w; exact w
  | ok d =>
    rw [q] at w
    cases d with
    | int i =>
      refine wpE.ok0 fun F' H' v g q => ?_
      cases q
      exact ⟨i, rfl, w F' H' g⟩
    | _ => exact w.elim
theorem de_slice {lo hi : Option Expr} {l u : DEnv → Out (Option Int)} (ha : DE X cl W a 0 f) (hl : PO X lo (tO X.K cl W l)) (hu : PO X hi (tO X.K cl W u)) : DE X cl W (.Subscript a (.Slice lo hi none p2) pos) 1 (slE f l u) :=
  PE.imp (pe_slice sl_all ha.zero hl hu) fun σ H Q ⟨F, ρ, le, s, w⟩ => by
  refine ⟨F, ρ, le, s, w.bnd fun x F1 H1 v g1 q1 w1 => ⟨F1, ρ, g1.le, s.mono g1.f, w1.bndO fun lo F2 H2 g2 w2 => ⟨F2, ρ, g2.le, (s.mono g1.f).mono g2.f, w2.bndO fun hi F3 H3 g3 w3 => sp_sl g3.le ((q1.mono g2.f).mono g3.f) w3⟩⟩⟩
/-! ### tuples, lists -/
def tupE (s : DEnv → Out (List D)) : DEnv → Out D := fun ρ => (s ρ).bind fun ds => if ds.length ≤ sizeLine then .ok (.tup ds) else .bad
def lstE (s : DEnv → Out (List D)) : DEnv → Out D := fun ρ => (s ρ).bind fun ds => if ds.length ≤ sizeLine then .ok (.lst ds) else .bad
theorem LRel.length {P : D → V → List Addr → Prop} : ∀ {ds : List D} {vs : List V} {fp : List Addr}, LRel P ds vs fp → ds.length = vs.length
  | [], _, _, r => by rw [r.1] <;> rfl
  | d :: ds, _, _, r => by
    obtain ⟨v, t, f1, f2, e1, e2, p, l⟩ := r
    rw [e1, List.length_cons, List.length_cons, LRel.length l]
theorem de_tup {x1} (ha : DA X cl W es r s) : DE X cl W (.Tuple es x1 pos) (r + 1) (tupE s) := PE.imp (pe_tup ha) fun σ H Q ⟨F, ρ, l, s', w⟩ => by
  refine ⟨F, ρ, l, s', ?_⟩
  unfold tupE at w
  cases q : s ρ with
  | ex x => rw [q] at w; exact w
  | bad => rw [q] at w; exact w
  | ok ds =>
    rw [q] at w
    intro F1 H1 vs fv g1 o1 n1 d1
    have w1 : wpE X.K cl (r + 1) (if ds.length ≤ sizeLine then .ok (.tup ds) else .bad) F H Q (fun c dx H' => W c dx σ H') := w
    by_cases c : ds.length ≤ sizeLine
    · rw [if_pos c] at w1
      refine ⟨by rw [← LRel.length o1]; exact c, fun p hp => ?_⟩
      have ob : ∀ a ∈ fv, Ob (H1 a) := LRel.ob (P := Own X.K cl r F1 H1) (fun _ _ _ o => Own.ob o) o1
      refine w1 _ _ (.ref p) fv (g1.trans (Gr.new _ g1.le hp)) ⟨p, vs, rfl, SqT.of upd_same, LRel.imp (fun _ _ _ o => Own.same (same_upd (none_of_le g1.le hp)) (same_upd hp) o) o1⟩ (fun a m => ⟨(n1 a m).1, ?_⟩) d1
      have ne : a ≠ p := fun e => (ob a m).some (by rw [e]; exact hp)
      rw [upd_ne ne]
      exact (n1 a m).2
    · rw [if_neg c] at w1
      exact w1.elim
theorem de_lst (ha : DA X cl W es r s) : DE X cl W (.List es pos) (r + 1) (lstE s) := PE.imp (pe_lst ha) fun σ H Q ⟨F, ρ, l, s', w⟩ => by
  refine ⟨F, ρ, l, s', ?_⟩
  unfold lstE at w
  cases q : s ρ with
  | ex x => rw [q] at w; exact w
  | bad => rw [q] at w; exact w
  | ok ds =>
    rw [q] at w
    intro F1 H1 vs fv g1 o1 n1 d1
    have w1 : wpE X.K cl (r + 1) (if ds.length ≤ sizeLine then .ok (.lst ds) else .bad) F H Q (fun c dx H' => W c dx σ H') := w
    by_cases c : ds.length ≤ sizeLine
    · rw [if_pos c] at w1
      refine ⟨by rw [← LRel.length o1]; exact c, fun p hp => ?_⟩
      have ob : ∀ a ∈ fv, Ob (H1 a) := LRel.ob (P := Own X.K cl r F1 H1) (fun _ _ _ o => Own.ob o) o1
      refine w1 F1 _ (.ref p) (p :: fv) (g1.trans (Gr.newH _ g1.le hp)) ⟨p, vs, fv, rfl, upd_same, rfl, LRel.imp (fun _ _ _ o => Own.same (Same.refl _) (same_upd hp) o) o1⟩ (fun a m => ?_) (List.nodup_cons.mpr ⟨fun m => (ob p m).some hp, d1⟩)
      rcases List.mem_cons.mp m with m | m
      · subst m
        exact ⟨g1.h.free hp, none_of_le g1.le hp⟩
      · exact n1 a m
    · rw [if_neg c] at w1
      exact w1.elim
/-! ### tests -/
def tstE (f : DEnv → Out D) : DEnv → Out Bool := fun ρ => (f ρ).bind fun d => match d with
  | .bl b => .ok b
  | _ => .bad
/-- an expression that gives True or False, as a test -/
theorem dt_val (ha : DE X cl W e 0 f) (he : ∀ whole, isTrue e X.env whole = (do let v ← whole; standAt e.pos; holding [v] (truthy v)) := by intro _; rfl) : DT X cl W e (tstE f) := PT.imp (pt_val ha.zero he) fun σ H Q ⟨F, ρ, l, s, w⟩ => by
  refine ⟨F, ρ, l, s, ?_⟩
  unfold tstE at w
  cases q : f ρ with
  | ex x => rw [q] at w; exact w
  | bad => rw [q] at w; exact w
  | ok d =>
    rw [q] at w
    cases d with
    | bl i =>
      refine wpE.ok0 fun F' H' v g q => ?_
      cases q
      exact ⟨i, rfl, w F' H' g⟩
    | _ => exact w.elim
/-- a comparison as a test -/
theorem dt_cmp {op : CmpOp} {o : R2} {h : D → D → Out D} (ho : OpR X (compareOp op) o) (hd : OpD X.K cl o 0 h) (ha : DE X cl W a 0 f) (hb : DE X cl W b 0 g) (hm : behindInMarks op b = false) : DT X cl W (.Compare a [op] [b] pos) (tstE (op2E h f g)) :=
  PT.imp (pt_cmpR ho ha.zero hb.zero hm) fun σ H Q ⟨F, ρ, l, s, w⟩ => by
  refine bin2 hd σ H _ ⟨F, ρ, l, s, ?_⟩
  unfold tstE at w
  cases q : op2E h f g ρ with
  | ex x => rw [q] at w; exact w
  | bad => rw [q] at w; exact w
  | ok d =>
    rw [q] at w
    cases d with
    | bl i =>
      refine wpE.ok0 fun F' H' v g q => ?_
      cases q
      exact ⟨i, rfl, w F' H' g⟩
    | _ => exact w.elim
def notT (t : DEnv → Out Bool) : DEnv → Out Bool := fun ρ => (t ρ).bind fun b => .ok (!b)
def andT (t u : DEnv → Out Bool) : DEnv → Out Bool := fun ρ => (t ρ).bind fun b => if b = true then u ρ else .ok false
def orT (t u : DEnv → Out Bool) : DEnv → Out Bool := fun ρ => (t ρ).bind fun b => if b = true then .ok true else u ρ
theorem dt_not (ha : DT X cl W a t) : DT X cl W (.UnaryOp .Not a pos) (notT t) := PT.imp (pt_not ha) fun σ H Q ⟨F, ρ, l, s, w⟩ =>
  ⟨F, ρ, l, s, w.bndT fun b F' H' g w1 => w1 F' H' (Gr.refl g.le)⟩
def DW (X : Cx) (cl : Nat → Addr) (W : WX) (e : Expr) (f : DEnv → Out Bool) : Prop := PW X e (tB' X.K cl W f)
theorem PW.imp {X : Cx} {e : Expr} {t t' : TT} (h : PW X e t) (i : ∀ σ H Q, t' σ H Q → t σ H Q) : PW X e t' := ⟨fun wh pins s σ H Q I w => h.run wh pins s σ H Q I (i σ H Q w)⟩
theorem dw_and1 (ha : DT X cl W a t) : DW X cl W (.BoolOp .And [a] pos) t := pw_and1 ha
theorem dw_or1 (ha : DT X cl W a t) : DW X cl W (.BoolOp .Or [a] pos) t := pw_or1 ha
theorem dw_and {rest : List Expr} (ha : DT X cl W a t) (hb : DW X cl W (.BoolOp .And (b :: rest) pos) u) : DW X cl W (.BoolOp .And (a :: b :: rest) pos) (andT t u) := PW.imp (pw_and ha hb) fun σ H Q ⟨F, ρ, l, s, w⟩ =>
  ⟨F, ρ, l, s, w.bndT fun b F' H' g w1 => by
    cases b with
    | true =>
      rw [if_pos rfl] at w1 ⊢
      exact ⟨F', ρ, g.le, s.mono g.f, w1⟩
    | false =>
      rw [if_neg Bool.false_ne_true] at w1 ⊢
      exact w1 F' H' (Gr.refl g.le)⟩
theorem dw_or {rest : List Expr} (ha : DT X cl W a t) (hb : DW X cl W (.BoolOp .Or (b :: rest) pos) u) : DW X cl W (.BoolOp .Or (a :: b :: rest) pos) (orT t u) := PW.imp (pw_or ha hb) fun σ H Q ⟨F, ρ, l, s, w⟩ =>
  ⟨F, ρ, l, s, w.bndT fun b F' H' g w1 => by
    cases b with
    | true =>
      rw [if_pos rfl] at w1 ⊢
      exact w1 F' H' (Gr.refl g.le)
    | false =>
      rw [if_neg Bool.false_ne_true] at w1 ⊢
      exact ⟨F', ρ, g.le, s.mono g.f, w1⟩⟩
theorem dt_w (h : DW X cl W e t) : DT X cl W e t := PW.pt h
/-- and, or, not as values: the parts True or False -/
def andE (f g : DEnv → Out D) : DEnv → Out D := fun ρ => (f ρ).bind fun d => match d with
  | .bl true => g ρ
  | .bl false => .ok (.bl false)
  | _ => .bad
def orE (f g : DEnv → Out D) : DEnv → Out D := fun ρ => (f ρ).bind fun d => match d with
  | .bl false => g ρ
  | .bl true => .ok (.bl true)
  | _ => .bad
def notE (f : DEnv → Out D) : DEnv → Out D := fun ρ => (f ρ).bind fun d => match d with
  | .bl b => .ok (.bl (!b))
  | _ => .bad
theorem de_one {op} (ha : DE X cl W a 0 f) : DE X cl W (.BoolOp op [a] pos) 0 f := pe_one ha
theorem de_and {rest : List Expr} (ha : DE X cl W a 0 f) (hb : DE X cl W (.BoolOp .And (b :: rest) pos) 0 g) : DE X cl W (.BoolOp .And (a :: b :: rest) pos) 0 (andE f g) := PE.imp (pe_and ha.zero hb) fun σ H Q ⟨F, ρ, l, s, w⟩ =>
  ⟨F, ρ, l, s, w.bnd fun x F1 H1 v g1 q1 w1 => by
    cases x with
    | bl b =>
      cases q1
      cases b with
      | true => exact ⟨true, rfl, by rw [if_pos rfl]; exact ⟨F1, ρ, g1.le, s.mono g1.f, w1⟩⟩
      | false => exact ⟨false, rfl, by rw [if_neg Bool.false_ne_true]; exact wpE.val w1 (Gr.refl g1.le) Own.bll⟩
    | _ => exact w1.elim⟩
theorem de_or {rest : List Expr} (ha : DE X cl W a 0 f) (hb : DE X cl W (.BoolOp .Or (b :: rest) pos) 0 g) : DE X cl W (.BoolOp .Or (a :: b :: rest) pos) 0 (orE f g) := PE.imp (pe_or ha.zero hb) fun σ H Q ⟨F, ρ, l, s, w⟩ =>
  ⟨F, ρ, l, s, w.bnd fun x F1 H1 v g1 q1 w1 => by
    cases x with
    | bl b =>
      cases q1
      cases b with
      | false => exact ⟨false, rfl, by rw [if_neg Bool.false_ne_true]; exact ⟨F1, ρ, g1.le, s.mono g1.f, w1⟩⟩
      | true => exact ⟨true, rfl, by rw [if_pos rfl]; exact wpE.val w1 (Gr.refl g1.le) Own.bll⟩
    | _ => exact w1.elim⟩
theorem de_not (ha : DE X cl W a 0 f) : DE X cl W (.UnaryOp .Not a pos) r (notE f) := PE.imp (pe_not ha.zero) fun σ H Q ⟨F, ρ, l, s, w⟩ =>
  ⟨F, ρ, l, s, w.bnd fun x F1 H1 v g1 q1 w1 => by
    cases x with
    | bl b =>
      cases q1
      exact ⟨b, rfl, wpE.val w1 (Gr.refl g1.le) Own.bll⟩
    | _ => exact w1.elim⟩
def ifE (t : DEnv → Out Bool) (f g : DEnv → Out D) : DEnv → Out D := fun ρ => (t ρ).bind fun b => if b = true then f ρ else g ρ
theorem de_if (hc : DT X cl W c t) (ha : DE X cl W a r f) (hb : DE X cl W b r g) : DE X cl W (.IfExp c a b pos) r (ifE t f g) := PE.imp (pe_ifExp hc ha hb) fun σ H Q ⟨F, ρ, l, s, w⟩ =>
  ⟨F, ρ, l, s, w.bndT fun b F' H' g w1 => by
    cases b with
    | true =>
      rw [if_pos rfl] at w1 ⊢
      exact ⟨F', ρ, g.le, s.mono g.f, w1⟩
    | false =>
      rw [if_neg Bool.false_ne_true] at w1 ⊢
      exact ⟨F', ρ, g.le, s.mono g.f, w1⟩⟩
/-- a < b < c -/
def chE (h h' : D → D → Out D) (f g k : DEnv → Out D) : DEnv → Out D := fun ρ => (f ρ).bind fun x => (g ρ).bind fun y => (h x y).bind fun z => match z with
  | .bl true => (k ρ).bind fun w => h' y w
  | .bl false => .ok (.bl false)
  | _ => .bad
end
end DL

namespace DL
open PySem PySem.Spec PyProof.Rows L2
/-! ### some slots given up -/
def ptB : List Nat → List Nat → Bool
  | [], [] => true
  | n :: ns, m :: ms => (m == n || m == 0) && ptB ns ms
  | _, _ => false
section
variable {K : PySem.W.Frag} {cl : Nat → Addr} {pn : List Nat} {E : Ent pn} {Δ : List Nat} {F H F' H' : Hp} {ρ : DEnv} {σ : St} {fp : List Addr}
/-- the slots split: what is given up, what is kept -/
theorem SRel.part : ∀ {Δ Δ' : List Nat} {ρ : DEnv} {σ : St} {fp : List Addr}, ptB Δ Δ' = true → SRel (fun n => Own K cl n F H) Δ ρ σ fp →
    ∃ gp kp : List Addr, (∀ a ∈ gp, a ∈ fp) ∧ (∀ a ∈ kp, a ∈ fp) ∧ (fp.Nodup → kp.Nodup ∧ ∀ a ∈ kp, a ∉ gp) ∧
      ∀ (W : Hp), Same F W → (∀ n d v f, (∀ a ∈ f, a ∈ gp) → Own K cl n F H d v f → Rep K cl W d v) → SRel (fun n => Own K cl n W H) Δ' ρ σ kp
  | [], Δ', ρ, σ, fp, h, r => by
    cases Δ' with
    | cons _ _ => cases h
    | nil =>
      cases ρ with
      | cons _ _ => cases r
      | nil =>
        cases σ with
        | cons _ _ => cases r
        | nil => exact ⟨[], [], (fun a m => by cases m), (fun a m => by cases m), fun _ => ⟨List.nodup_nil, (fun a m => by cases m)⟩, fun W _ _ => rfl⟩
  | n :: ns, Δ', ρ, σ, fp, h, r => by
    cases Δ' with
    | nil => cases h
    | cons m ms =>
      cases ρ with
      | nil => cases r
      | cons o ρ =>
        cases σ with
        | nil => cases r
        | cons t σ =>
          obtain ⟨f1, f2, e1, q, l⟩ := r
          subst e1
          have h' : ((m == n || m == 0) && ptB ns ms) = true := h
          obtain ⟨h1, h2⟩ := Bool.and_eq_true_iff.mp h'
          obtain ⟨gp, kp, g1, g2, g3, g4⟩ := SRel.part h2 l
          by_cases hm : m = n
          · subst hm
            refine ⟨gp, f1 ++ kp, fun a z => List.mem_append_right _ (g1 a z), fun a z => ?_, fun nd => ?_, fun W sw hw => ⟨f1, kp, rfl, ?_, g4 W sw hw⟩⟩
            · rcases List.mem_append.mp z with z | z
              · exact List.mem_append_left _ z
              · exact List.mem_append_right _ (g2 a z)
            · obtain ⟨k1, k2⟩ := g3 (nodup_r nd)
              refine ⟨nodup_app (nodup_l nd) k1 fun a z z2 => nodup_d nd z (g2 a z2), fun a z z2 => ?_⟩
              rcases List.mem_append.mp z with z | z
              · exact nodup_d nd z (g1 a z2)
              · exact k2 a z z2
            · cases o with
              | none => exact q
              | some d =>
                obtain ⟨v, e2, p⟩ := q
                exact ⟨v, e2, Own.same sw (Same.refl _) p⟩
          · have m0 : m = 0 := by
              rcases Bool.or_eq_true_iff.mp h1 with z | z
              · exact absurd (eq_of_beq z) hm
              · exact eq_of_beq z
            subst m0
            refine ⟨f1 ++ gp, kp, fun a z => ?_, fun a z => List.mem_append_right _ (g2 a z), fun nd => ?_, fun W sw hw => ⟨[], kp, rfl, ?_, g4 W sw fun n d v f z o => hw n d v f (fun a y => List.mem_append_right _ (z a y)) o⟩⟩
            · rcases List.mem_append.mp z with z | z
              · exact List.mem_append_left _ z
              · exact List.mem_append_right _ (g1 a z)
            · obtain ⟨k1, k2⟩ := g3 (nodup_r nd)
              refine ⟨k1, fun a z z2 => ?_⟩
              rcases List.mem_append.mp z2 with z2 | z2
              · exact nodup_d nd z2 (g2 a z)
              · exact k2 a z z2
            · cases o with
              | none => rfl
              | some d =>
                obtain ⟨v, e2, p⟩ := q
                exact ⟨v, e2, hw n d v f1 (fun a y => List.mem_append_left _ y) p, rfl⟩
theorem StOk.part {Δ' : List Nat} (s : StOk K cl E Δ F H ρ σ fp) (h : ptB Δ Δ' = true) : ∃ F2 fp2, Same F F2 ∧ (∀ a, F a = none → F2 a ≠ none → a ∈ fp) ∧ (∀ a ∈ fp2, a ∈ fp) ∧ StOk K cl E Δ' F2 H ρ σ fp2 := by
  obtain ⟨gp, kp, g1, g2, g3, g4⟩ := SRel.part h s.sl
  obtain ⟨k1, k2⟩ := g3 s.nd
  have nw : ∀ a, F a = none → ov F H gp a ≠ none → a ∈ fp := fun a e n => by
    by_cases m : a ∈ gp
    · exact g1 a m
    · rw [ov_out m] at n
      exact absurd e n
  refine ⟨ov F H gp, kp, ov_f s.le, nw, g2, ov_h s.le, fun a m => ?_, k1, g4 _ (ov_f s.le) (fun n d v f z o => (Own.rep s.le o).mono (ov_sub s.le z)), s.keep, s.f0.trans (ov_f s.le), fun a e n => ?_, fun a m => s.nwO a (g2 a m), s.pn⟩
  · rw [ov_out (k2 a m)]
    exact s.sep a (g2 a m)
  · cases q : F a with
    | some o => exact s.nwF a e (by rw [q]; exact fun z => nomatch z)
    | none => exact s.nwO a (nw a q n)
/-- what is new on the heap is not ours -/
theorem StOk.fresh (s : StOk K cl E Δ F H ρ σ fp) {a : Addr} (h : H a = none) : a ∉ fp := fun m => by
  have z : ∀ {Δ : List Nat} {ρ : DEnv} {σ : St} {fp : List Addr}, SRel (fun n => Own K cl n F H) Δ ρ σ fp → ∀ a ∈ fp, Ob (H a) := by
    intro Δ
    induction Δ with
    | nil =>
      intro ρ σ fp r a m
      cases ρ with
      | nil =>
        cases σ with
        | nil =>
          rw [show fp = [] from r] at m
          cases m
        | cons _ _ => cases r
      | cons _ _ => cases r
    | cons n ns ih =>
      intro ρ σ fp r a m
      cases ρ with
      | nil => cases r
      | cons o ρ =>
        cases σ with
        | nil => cases r
        | cons t σ =>
          obtain ⟨f1, f2, e1, q, l⟩ := r
          subst e1
          rcases List.mem_append.mp m with m | m
          · cases o with
            | none =>
              rw [show f1 = [] from q] at m
              cases m
            | some d =>
              obtain ⟨v, _, p⟩ := q
              exact Own.ob p a m
          · exact ih l a m
  exact (z s.sl a m).some h
/-- new since the entry -/
theorem StOk.young (s : StOk K cl E Δ F H ρ σ fp) {a : Addr} (h : H a = none) : E.H0 a = none ∨ a ∈ E.fp0 := by
  by_cases m : a ∈ E.fp0
  · exact .inr m
  · cases q : E.H0 a with
    | none => exact .inl rfl
    | some o =>
      rw [s.keep a o q m] at h
      cases h
end
/-! ### statements -/
inductive SOut where
  | next (ρ : DEnv) | ret (d : D) (ρ : DEnv) | brk (ρ : DEnv) | cont (ρ : DEnv) | ex (x : Exn) (ρ : DEnv) | bad
structure Cf where
  r : Nat
  Δr : List Nat
  pn : List Nat
def stS {pn : List Nat} (K : PySem.W.Frag) (cl : Nat → Addr) (E : Ent pn) (Δ : List Nat) (ρ : DEnv) (R : St → Hp → Prop) : Prop := ∀ F fp σ H, StOk K cl E Δ F H ρ σ fp → R σ H
section
variable (K : PySem.W.Frag) (cl : Nat → Addr) (W : WX) (cf : Cf) (E : Ent cf.pn)
def exS (x : Exn) (ρ : DEnv) : Prop := ∀ F fp σ H c dx fv, StOk K cl E cf.Δr F H ρ σ fp → XRep K cl F x c dx H fv → (∀ a ∈ fv, a ∉ fp ∧ F a = none ∧ (E.H0 a = none ∨ a ∈ E.fp0)) → fv.Nodup → W c dx σ H
def rtS (d : D) (ρ : DEnv) (R : VK) : Prop := ∀ F fp σ H v fv, StOk K cl E cf.Δr F H ρ σ fp → Own K cl cf.r F H d v fv → (∀ a ∈ fv, a ∉ fp ∧ F a = none ∧ (E.H0 a = none ∨ a ∈ E.fp0)) → fv.Nodup → R v H
def wpS (Δc Δ' : List Nat) (o : SOut) (D : Ends) : Prop := match o with
  | .next ρ => stS K cl E Δ' ρ D.nx
  | .brk ρ => stS K cl E Δc ρ D.bk
  | .cont ρ => stS K cl E Δc ρ D.ct
  | .ret d ρ => rtS K cl cf E d ρ D.rt
  | .ex x ρ => exS K cl W cf E x ρ
  | .bad => False
end
def tS (K : PySem.W.Frag) (cl : Nat → Addr) (W : WX) (cf : Cf) (Δc Δ Δ' : List Nat) (f : DEnv → SOut) : TS := fun D σ H => ∃ E F ρ fp, StOk K cl E Δ F H ρ σ fp ∧ wpS K cl W cf E Δc Δ' (f ρ) D
def DS (X : Cx) (cl : Nat → Addr) (W : WX) (cf : Cf) (Δc Δ : List Nat) (st : Stmt) (Δ' : List Nat) (f : DEnv → SOut) : Prop := PS X st (tS X.K cl W cf Δc Δ Δ' f)
def DSs (X : Cx) (cl : Nat → Addr) (W : WX) (cf : Cf) (Δc Δ : List Nat) (st : List Stmt) (Δ' : List Nat) (f : DEnv → SOut) : Prop := PSs X st (tS X.K cl W cf Δc Δ Δ' f)
section
variable {K : PySem.W.Frag} {cl : Nat → Addr} {W : WX} {cf : Cf} {E : Ent cf.pn} {Δ : List Nat} {F H F' H' : Hp} {ρ : DEnv} {σ : St} {fp : List Addr}
theorem XRep.imm {x : Exn} {c : Value} {dx : Option Addr} {fv : List Addr} {F2 : Hp} (e : XRep K cl F' x c dx H' fv) (h : ∀ a xs, SqT K F' a xs → SqT K F2 a xs) : XRep K cl F2 x c dx H' fv := by
  obtain ⟨e1, e2⟩ := e
  refine ⟨e1, ?_⟩
  cases q : x.f with
  | none =>
    rw [q] at e2
    exact e2
  | some p =>
    obtain ⟨g, d⟩ := p
    rw [q] at e2
    obtain ⟨i, p, v, h1, h2, h3⟩ := e2
    exact ⟨i, p, v, h1, h2, Own.imm h i h3⟩
theorem XRep.ob {x : Exn} {c : Value} {dx : Option Addr} {fv : List Addr} (e : XRep K cl F' x c dx H' fv) : ∀ a ∈ fv, Ob (H' a) := by
  obtain ⟨e1, e2⟩ := e
  cases q : x.f with
  | none =>
    rw [q] at e2
    rw [e2.2]
    exact (fun a m => by cases m)
  | some p =>
    obtain ⟨g, d⟩ := p
    rw [q] at e2
    obtain ⟨i, p, v, h1, h2, h3⟩ := e2
    exact h3.ob
theorem Same.sqT {a : Addr} {xs : List V} (h : Same F F') (q : SqT K F a xs) : SqT K F' a xs := (Le.of h).sqT q
/-- an exception out of an expression of a statement -/
theorem StOk.exc (s : StOk K cl E Δ F H ρ σ fp) (hp : ptB Δ cf.Δr = true) {x : Exn} (w : exS K cl W cf E x ρ) : exW K cl x (ov F H fp) H fun c dx H' => W c dx σ H' := fun F1 H1 c dx fv g e nw nd => by
  have fF : Same F F1 := (ov_f s.le).trans g.f
  obtain ⟨F2, fp2, a1, a2, a3, s2⟩ := (s.grow g).part hp
  refine w F2 fp2 σ H1 c dx fv s2 (e.imm fun a xs q => Same.sqT a1 (tpo_sqT fF q)) (fun a m => ?_) nd
  have na : a ∉ fp := s.fresh (nw a m).1
  refine ⟨fun m2 => na (a3 a m2), ?_, s.young (nw a m).1⟩
  cases q : F2 a with
  | none => rfl
  | some o =>
    exfalso
    have n1 : jn F (tpo F1) a = none := by
      cases y : F a with
      | some o =>
        have z := fF a o y
        rw [(nw a m).2] at z
        cases z
      | none =>
        rw [jn_none y]
        unfold tpo
        rw [(nw a m).2]
    exact na (a2 a n1 (by rw [q]; exact fun z => nomatch z))
end
section
variable {X : Cx} {cl : Nat → Addr} {W : WX} {cf : Cf} {Δc Δ Δ' Δ1 : List Nat} {st : Stmt} {rest body orelse : List Stmt} {f g : DEnv → SOut} {e c : Expr} {t : DEnv → Out Bool} {h : DEnv → Out D} {pos : Pos} {n r i : Nat}
/-! ### blocks, if, return -/
def nextS : DEnv → SOut := .next
def seqS (f g : DEnv → SOut) : DEnv → SOut := fun ρ => match f ρ with
  | .next ρ => g ρ
  | o => o
theorem ds_nil : DSs X cl W cf Δc Δ [] Δ nextS := PSs.imp pss_nil fun D σ H ⟨E, F, ρ, fp, s, w⟩ => w F fp σ H s
theorem ds_cons (h1 : DS X cl W cf Δc Δ st Δ1 f) (h2 : DSs X cl W cf Δc Δ1 rest Δ' g) : DSs X cl W cf Δc Δ (st :: rest) Δ' (seqS f g) := PSs.imp (pss_cons h1 h2) fun D σ H ⟨E, F, ρ, fp, s, w⟩ => by
  refine ⟨E, F, ρ, fp, s, ?_⟩
  unfold seqS at w
  cases q : f ρ with
  | next ρ1 =>
    rw [q] at w
    exact fun F1 fp1 σ1 H1 s1 => ⟨E, F1, ρ1, fp1, s1, w⟩
  | ret d ρ1 => rw [q] at w; exact w
  | brk ρ1 => rw [q] at w; exact w
  | cont ρ1 => rw [q] at w; exact w
  | ex x ρ1 => rw [q] at w; exact w
  | bad => rw [q] at w; exact w
theorem ds_one (h1 : DS X cl W cf Δc Δ st Δ1 f) : DSs X cl W cf Δc Δ [st] Δ1 f := pss_one h1
/-- fewer slots are ours -/
theorem ds_part (h : DSs X cl W cf Δc Δ rest Δ1 f) (hp : ptB Δ1 Δ' = true) : DSs X cl W cf Δc Δ rest Δ' f := PSs.imp h fun D σ H ⟨E, F, ρ, fp, s, w⟩ => by
  refine ⟨E, F, ρ, fp, s, ?_⟩
  cases q : f ρ with
  | next ρ1 =>
    rw [q] at w
    exact fun F1 fp1 σ1 H1 s1 => by
      obtain ⟨F2, fp2, _, _, _, s2⟩ := s1.part hp
      exact w F2 fp2 σ1 H1 s2
  | ret d ρ1 => rw [q] at w; exact w
  | brk ρ1 => rw [q] at w; exact w
  | cont ρ1 => rw [q] at w; exact w
  | ex x ρ1 => rw [q] at w; exact w
  | bad => rw [q] at w; exact w
theorem ds_partL (h : DSs X cl W cf Δc Δ1 rest Δ' f) (hp : ptB Δ Δ1 = true) : DSs X cl W cf Δc Δ rest Δ' f := PSs.imp h fun D σ H ⟨E, F, ρ, fp, s, w⟩ => by
  obtain ⟨F2, fp2, _, _, _, s2⟩ := s.part hp
  exact ⟨E, F2, ρ, fp2, s2, w⟩
def ifS (t : DEnv → Out Bool) (f g : DEnv → SOut) : DEnv → SOut := fun ρ => match t ρ with
  | .ok b => if b = true then f ρ else g ρ
  | .ex x => .ex x ρ
  | .bad => .bad
theorem ds_if (hc : DT X cl W c t) (ha : DSs X cl W cf Δc Δ body Δ' f) (hb : DSs X cl W cf Δc Δ orelse Δ' g) (hp : ptB Δ cf.Δr = true) : DS X cl W cf Δc Δ (.If c body orelse pos) Δ' (ifS t f g) := PS.imp (ps_if hc ha hb) fun D σ H ⟨E, F, ρ, fp, s, w⟩ => by
  refine ⟨_, ρ, ov_h s.le, s.view, ?_⟩
  unfold ifS at w
  cases q : t ρ with
  | ok b =>
    rw [q] at w
    intro F1 H1 g1
    cases b with
    | true => exact ⟨E, _, ρ, fp, s.grow g1, w⟩
    | false => exact ⟨E, _, ρ, fp, s.grow g1, w⟩
  | ex x =>
    rw [q] at w
    exact s.exc hp w
  | bad => rw [q] at w; exact w
def passS : DEnv → SOut := .next
theorem ds_pass : DS X cl W cf Δc Δ (.Pass pos) Δ passS := PS.imp ps_pass fun D σ H ⟨E, F, ρ, fp, s, w⟩ => w F fp σ H s
def brkS : DEnv → SOut := .brk
def contS : DEnv → SOut := .cont
theorem ds_break (hp : ptB Δ Δc = true) : DS X cl W cf Δc Δ (.Break pos) Δ' brkS := PS.imp ps_break fun D σ H ⟨E, F, ρ, fp, s, w⟩ => by
  obtain ⟨F2, fp2, _, _, _, s2⟩ := s.part hp
  exact w F2 fp2 σ H s2
theorem ds_cont (hp : ptB Δ Δc = true) : DS X cl W cf Δc Δ (.Continue pos) Δ' contS := PS.imp ps_continue fun D σ H ⟨E, F, ρ, fp, s, w⟩ => by
  obtain ⟨F2, fp2, _, _, _, s2⟩ := s.part hp
  exact w F2 fp2 σ H s2
def retS (h : DEnv → Out D) : DEnv → SOut := fun ρ => match h ρ with
  | .ok d => .ret d ρ
  | .ex x => .ex x ρ
  | .bad => .bad
def zs (Δ : List Nat) : List Nat := Δ.map fun _ => 0
theorem zs_len : (zs Δ).length = Δ.length := by
  unfold zs
  rw [List.length_map]
theorem zs_zero : ∀ n ∈ zs Δ, n = 0 := fun n m => by
  unfold zs at m
  obtain ⟨a, _, e⟩ := List.mem_map.mp m
  exact e.symm
/-- return e, of a def that changes nothing of its caller's -/
theorem ds_ret (he : DE X cl W e cf.r h) (hz : cf.Δr = zs Δ) (hp : ptB Δ cf.Δr = true) : DS X cl W cf Δc Δ (.Return (some e) pos) Δ' (retS h) := PS.imp (ps_ret he) fun D σ H ⟨E, F, ρ, fp, s, w⟩ => by
  refine ⟨_, ρ, ov_h s.le, s.view, ?_⟩
  unfold retS at w
  cases q : h ρ with
  | ok d =>
    rw [q] at w
    intro F1 H1 v fv g1 o1 n1 d1
    exact w F1 [] σ H1 v fv (s.frz g1 (by rw [hz, zs_len]) (by rw [hz]; exact zs_zero)) o1 (fun a m => ⟨(fun z => by cases z), (n1 a m).2, s.young (n1 a m).1⟩) d1
  | ex x =>
    rw [q] at w
    exact s.exc hp w
  | bad => rw [q] at w; exact w
/-- return e, of a def that changes what is its caller's: the value stands apart -/
def retI (n : Nat) (h : DEnv → Out D) : DEnv → SOut := fun ρ => match h ρ with
  | .ok d => if immAt n d = true then .ret d ρ else .bad
  | .ex x => .ex x ρ
  | .bad => .bad
theorem StOk.apart {K : PySem.W.Frag} {pn : List Nat} {E : Ent pn} {F H F1 H1 : Hp} {ρ : DEnv} {σ : St} {fp : List Addr} (s : StOk K cl E Δ F H ρ σ fp) (g : Gr (ov F H fp) H F1 H1) {d : D} {v : V} {fv : List Addr} (o : Own K cl n F1 H1 d v fv) (nw : ∀ a ∈ fv, H a = none ∧ F1 a = none) (i : immAt n d = true) :
    Own K cl n (jn F (tpo F1)) H1 d v fv ∧ ∀ a ∈ fv, a ∉ fp ∧ jn F (tpo F1) a = none ∧ (E.H0 a = none ∨ a ∈ E.fp0) := by
  have fF : Same F F1 := (ov_f s.le).trans g.f
  refine ⟨Own.imm (fun a xs q => tpo_sqT fF q) i o, fun a m => ⟨s.fresh (nw a m).1, ?_, s.young (nw a m).1⟩⟩
  cases y : F a with
  | some o =>
    have z := fF a o y
    rw [(nw a m).2] at z
    cases z
  | none =>
    rw [jn_none y]
    unfold tpo
    rw [(nw a m).2]
theorem ds_retI (he : DE X cl W e cf.r h) (hp : ptB Δ cf.Δr = true) : DS X cl W cf Δc Δ (.Return (some e) pos) Δ' (retI cf.r h) := PS.imp (ps_ret he) fun D σ H ⟨E, F, ρ, fp, s, w⟩ => by
  refine ⟨_, ρ, ov_h s.le, s.view, ?_⟩
  unfold retI at w
  cases q : h ρ with
  | ok d =>
    rw [q] at w
    intro F1 H1 v fv g1 o1 n1 d1
    by_cases i : immAt cf.r d = true
    · have w' : wpS X.K cl W cf E Δc Δ' (if immAt cf.r d = true then .ret d ρ else .bad) D := w
      rw [if_pos i] at w'
      obtain ⟨o2, a2⟩ := s.apart g1 o1 n1 i
      obtain ⟨F2, fp2, b1, b2, b3, s2⟩ := (s.grow g1).part hp
      refine w' F2 fp2 σ H1 v fv s2 (Own.same b1 (Same.refl _) o2) (fun a m => ⟨fun m2 => (a2 a m).1 (b3 a m2), ?_, (a2 a m).2.2⟩) d1
      cases y : F2 a with
      | none => rfl
      | some o => exact absurd (b2 a (a2 a m).2.1 (by rw [y]; exact fun z => nomatch z)) (a2 a m).1
    · have w' : wpS X.K cl W cf E Δc Δ' (if immAt cf.r d = true then .ret d ρ else .bad) D := w
      rw [if_neg i] at w'
      exact w'.elim
  | ex x =>
    rw [q] at w
    exact s.exc hp w
  | bad => rw [q] at w; exact w
def retN : DEnv → SOut := fun ρ => .ret .non ρ
theorem ds_retN (hp : ptB Δ cf.Δr = true) : DS X cl W cf Δc Δ (.Return none pos) Δ' retN := PS.imp ps_retN fun D σ H ⟨E, F, ρ, fp, s, w⟩ => by
  obtain ⟨F2, fp2, b1, b2, b3, s2⟩ := s.part hp
  exact w F2 fp2 σ H .non [] s2 Own.nonn (fun a m => by cases m) List.nodup_nil
/-! ### name = e -/
def setS (i : Nat) (h : DEnv → Out D) : DEnv → SOut := fun ρ => match h ρ with
  | .ok d => .next (ρ.set i (some d))
  | .ex x => .ex x ρ
  | .bad => .bad
def setI (n i : Nat) (h : DEnv → Out D) : DEnv → SOut := fun ρ => match h ρ with
  | .ok d => if immAt n d = true then .next (ρ.set i (some d)) else .bad
  | .ex x => .ex x ρ
  | .bad => .bad
/-- all else is given up -/
theorem tS_set (hp : ptB Δ cf.Δr = true) (hi : cf.pn.contains i = false) : ∀ D σ H, tS X.K cl W cf Δc Δ ((zs Δ).set i n) (setS i h) D σ H → tAsg (tE X.K cl W n h) (gName i) D σ H := fun D σ H ⟨E, F, ρ, fp, s, w⟩ => by
  refine ⟨_, ρ, ov_h s.le, s.view, ?_⟩
  unfold setS at w
  cases q : h ρ with
  | ok d =>
    rw [q] at w
    intro F1 H1 v fv g1 o1 n1 d1
    obtain ⟨fp', s'⟩ := (s.frz g1 zs_len zs_zero).set (i := i) o1 d1 (fun a m z => by cases z) (fun a m => (n1 a m).2) (fun a m => s.young (n1 a m).1) hi
    exact w F1 fp' _ H1 s'
  | ex x =>
    rw [q] at w
    exact s.exc hp w
  | bad => rw [q] at w; exact w
theorem tS_setI (hp : ptB Δ cf.Δr = true) (hi : cf.pn.contains i = false) : ∀ D σ H, tS X.K cl W cf Δc Δ (Δ.set i n) (setI n i h) D σ H → tAsg (tE X.K cl W n h) (gName i) D σ H := fun D σ H ⟨E, F, ρ, fp, s, w⟩ => by
  refine ⟨_, ρ, ov_h s.le, s.view, ?_⟩
  unfold setI at w
  cases q : h ρ with
  | ok d =>
    rw [q] at w
    intro F1 H1 v fv g1 o1 n1 d1
    have w' : wpS X.K cl W cf E Δc (Δ.set i n) (if immAt n d = true then .next (ρ.set i (some d)) else .bad) D := w
    by_cases im : immAt n d = true
    · rw [if_pos im] at w'
      obtain ⟨o2, a2⟩ := s.apart g1 o1 n1 im
      obtain ⟨fp', s'⟩ := (s.grow g1).set (i := i) o2 d1 (fun a m => (a2 a m).1) (fun a m => (a2 a m).2.1) (fun a m => (a2 a m).2.2) hi
      exact w' _ fp' _ H1 s'
    · rw [if_neg im] at w'
      exact w'.elim
  | ex x =>
    rw [q] at w
    exact s.exc hp w
  | bad => rw [q] at w; exact w
end
end DL

namespace DL
open PySem PySem.Spec PyProof.Rows L2
/-! ### what is walked -/
structure Walks (K : PySem.W.Frag) (cl : Nat → Addr) (F : Hp) (J : It) (ds : List D) : Prop where
  go : ∀ H i, Same F H → i < ds.length → J.go i H
  stop : ∀ H, Same F H → J.stop ds.length H
  yld : ∀ H i x H', Same F H → J.yld i H x H' → i < ds.length → Same H H' ∧ ∀ Fz, Same F Fz → Same Fz H → ∃ d F', ds[i]? = some d ∧ Gr Fz H F' H' ∧ Rep K cl F' d x
def wpI (K : PySem.W.Frag) (cl : Nat → Addr) (o : Out (List D)) (F H : Hp) (R : It → Hp → Prop) (EX : XW) : Prop := match o with
  | .ok ds => ∀ F' H' J, Gr F H F' H' → Walks K cl F' J ds → R J H'
  | .ex x => exW K cl x F H EX
  | .bad => False
def tI (K : PySem.W.Frag) (cl : Nat → Addr) (W : WX) (f : DEnv → Out (List D)) : TI := fun σ H R => ∃ F ρ, Same F H ∧ RepS K cl F ρ σ ∧ wpI K cl (f ρ) F H R fun c dx H' => W c dx σ H'
def DI (X : Cx) (cl : Nat → Addr) (W : WX) (tg e : Expr) (f : DEnv → Out (List D)) : Prop := PI X tg e (tI X.K cl W f)
theorem PI.imp {X : Cx} {tg e : Expr} {t t' : TI} (h : PI X tg e t) (i : ∀ σ H R, t' σ H R → t σ H R) : PI X tg e t' := ⟨fun pins s σ H R I w => h.run pins s σ H R I (i σ H R w)⟩
def iterD : D → Out (List D)
  | .lst ds => .ok ds
  | .tup ds => .ok ds
  | .str z => .ok (z.cps.toList.map fun c => .str ⟨#[c]⟩)
  | _ => .bad
def itE (f : DEnv → Out D) : DEnv → Out (List D) := fun ρ => (f ρ).bind iterD
def rngL (lo : Int) (n : Nat) : List D := (List.range n).map fun (i : Nat) => .int (lo + (i : Int))
def rng1 : List D → Out (List D)
  | [.int n] => if n < 2 ^ 62 ∧ -(2 ^ 62) ≤ n then .ok (rngL 0 n.toNat) else .bad
  | _ => .bad
def rng2 : List D → Out (List D)
  | [.int i, .int j] => if -(2 ^ 62) ≤ i ∧ i < 2 ^ 62 ∧ -(2 ^ 62) ≤ j ∧ j < 2 ^ 62 then .ok (rngL i (j - i).toNat) else .bad
  | _ => .bad
def itA (h : List D → Out (List D)) (t : DEnv → Out (List D)) : DEnv → Out (List D) := fun ρ => (t ρ).bind h
section
variable {K : PySem.W.Frag} {cl : Nat → Addr} {F H : Hp}
theorem walks_lst {a : Addr} {vs : List V} {ds : List D} (h : F a = some (.lst vs)) (r : RepL K cl F ds vs) : Walks K cl F (Itl K a) ds where
  go := fun H i l hi => by
    obtain ⟨v, h1, _⟩ := r.get (List.getElem?_eq_getElem hi)
    exact ⟨vs, v, SqL.of (l _ _ h), h1⟩
  stop := fun H l => ⟨vs, SqL.of (l _ _ h), by rw [r.length]; exact Nat.le_refl _⟩
  yld := fun H i x H' l y hi => by
    obtain ⟨e, y⟩ := y
    subst e
    refine ⟨Same.refl _, fun Fz f1 f2 => ?_⟩
    have hx := y vs (SqL.of (l _ _ h))
    obtain ⟨d, h1, h2⟩ := r.get' hx
    exact ⟨d, Fz, h1, Gr.refl f2, h2.mono f1⟩
theorem walks_tup {a : Addr} {vs : List V} {ds : List D} (h : SqT K F a vs) (r : RepL K cl F ds vs) : Walks K cl F (Itt K a) ds where
  go := fun H i l hi => by
    obtain ⟨v, h1, _⟩ := r.get (List.getElem?_eq_getElem hi)
    exact ⟨vs, v, (Le.of l).sqT h, h1⟩
  stop := fun H l => ⟨vs, (Le.of l).sqT h, by rw [r.length]; exact Nat.le_refl _⟩
  yld := fun H i x H' l y hi => by
    obtain ⟨e, y⟩ := y
    subst e
    refine ⟨Same.refl _, fun Fz f1 f2 => ?_⟩
    have hx := y vs ((Le.of l).sqT h)
    obtain ⟨d, h1, h2⟩ := r.get' hx
    exact ⟨d, Fz, h1, Gr.refl f2, h2.mono f1⟩
theorem walks_str {z : Str} : Walks K cl F (Its z) (z.cps.toList.map fun c => .str ⟨#[c]⟩) where
  go := fun H i l hi => by
    rw [List.length_map, Array.length_toList] at hi
    exact hi
  stop := fun H l => by
    show z.cps.size ≤ _
    rw [List.length_map, Array.length_toList]
    exact Nat.le_refl _
  yld := fun H i x H' l y hi => by
    obtain ⟨e, c, h1, h2⟩ := y
    subst e h2
    refine ⟨Same.refl _, fun Fz f1 f2 => ⟨.str ⟨#[c]⟩, Fz, ?_, Gr.refl f2, rfl⟩⟩
    rw [List.getElem?_map, Array.getElem?_toList, h1] <;> rfl
theorem walks_rng {lo : Int} {n : Nat} : Walks K cl F (Itr lo n) (rngL lo n) where
  go := fun H i l hi => by
    unfold rngL at hi
    rw [List.length_map, List.length_range] at hi
    exact hi
  stop := fun H l => by
    show n ≤ _
    unfold rngL
    rw [List.length_map, List.length_range]
    exact Nat.le_refl _
  yld := fun H i x H' l y hi => by
    obtain ⟨e, h2⟩ := y
    subst e h2
    refine ⟨Same.refl _, fun Fz f1 f2 => ⟨.int (lo + (i : Int)), Fz, ?_, Gr.refl f2, rfl⟩⟩
    unfold rngL at hi ⊢
    rw [List.length_map, List.length_range] at hi
    rw [List.getElem?_map, List.getElem?_range hi] <;> rfl
theorem wpI.bnd {o : Out D} {k : D → Out (List D)} {R : It → Hp → Prop} {EX : XW} {Q1 : VK} (w : wpI K cl (o.bind k) F H R EX) (h : ∀ d F' H' v, Gr F H F' H' → Rep K cl F' d v → wpI K cl (k d) F' H' R EX → Q1 v H') : wpE K cl 0 o F H Q1 EX := by
  cases o with
  | ok d => exact wpE.ok0 fun F' H' v g q => h d F' H' v g q (by
      cases e : k d with
      | ok ds =>
        have w' : wpI K cl (k d) F H R EX := w
        rw [e] at w'
        exact fun F2 H2 J g2 ws => w' F2 H2 J (g.trans g2) ws
      | ex x =>
        have w' : wpI K cl (k d) F H R EX := w
        rw [e] at w'
        exact exW.grow g w'
      | bad =>
        have w' : wpI K cl (k d) F H R EX := w
        rw [e] at w'
        exact w')
  | ex x => exact w
  | bad => exact w
theorem wpI.bndA {o : Out (List D)} {k : List D → Out (List D)} {R : It → Hp → Prop} {EX : XW} {Q1 : List V → Hp → Prop} (w : wpI K cl (o.bind k) F H R EX) (h : ∀ ds F' H' vs, Gr F H F' H' → RepL K cl F' ds vs → wpI K cl (k ds) F' H' R EX → Q1 vs H') : wpA K cl 0 o F H Q1 EX := by
  cases o with
  | ok d => exact fun F' H' vs fv g q _ _ => h d F' H' vs g (LRel.zero q).1 (by
      cases e : k d with
      | ok ds =>
        have w' : wpI K cl (k d) F H R EX := w
        rw [e] at w'
        exact fun F2 H2 J g2 ws => w' F2 H2 J (g.trans g2) ws
      | ex x =>
        have w' : wpI K cl (k d) F H R EX := w
        rw [e] at w'
        exact exW.grow g w'
      | bad =>
        have w' : wpI K cl (k d) F H R EX := w
        rw [e] at w'
        exact w')
  | ex x => exact w
  | bad => exact w
end
def iAny (K : PySem.W.Frag) (tl : TE) : TI := fun σ H R => tl σ H fun x H1 => (∃ a xs, x = .ref a ∧ SqL K H1 a xs ∧ R (Itl K a) H1) ∨ ((∃ a xs, x = .ref a ∧ SqT K H1 a xs ∧ R (Itt K a) H1) ∨ ∃ z, x = .str z ∧ R (Its z) H1)
theorem pi_any {X : Cx} {tg l : Expr} {tl : TE} (hl : PE X l tl) : PI X tg l (iAny X.K tl) := by
  refine ⟨fun pins s σ H R I h => ?_⟩
  refine thn (hl.run pins s σ H _ I h) fun v s1 ⟨x, H1, I1, r1, q1⟩ => ?_
  rcases q1 with ⟨a, xs, e, hq, q⟩ | ⟨a, xs, e, hq, q⟩ | ⟨x, ex, q⟩
  · subst e
    cases r1
    obtain ⟨its, rv, p, hz⟩ := I1.list hq
    refine wpAny_pyIter_list p.isList ?_
    refine ⟨s1.heap.objs.size, [s1.heap.objs.size], _, _, H1, rfl, I1.kept (t' := s1.toks) fun b o e => Heap.get?_push_of_some _ e, turn_list a _, ⟨_, Heap.get?_push_size _ rfl, rfl, rfl⟩, fun b hb => ?_, q⟩
    have e : b = s1.heap.objs.size := by simpa using hb
    subst e
    exact I1.fpOk (Nat.le_refl _) (I1.hok.fresh (Nat.le_refl _))
  · subst e
    cases r1
    obtain ⟨its, rv, p, hz⟩ := I1.tuple hq
    refine wpAny_pyIter_tuple (show s1.heap.IsTuple a its.toArray from p) ?_
    refine ⟨s1.heap.objs.size, [s1.heap.objs.size], _, _, H1, rfl, I1.kept (t' := s1.toks) fun b o e => Heap.get?_push_of_some _ e, turn_tuple a _, ⟨_, Heap.get?_push_size _ rfl, rfl, rfl⟩, fun b hb => ?_, q⟩
    have e : b = s1.heap.objs.size := by simpa using hb
    subst e
    exact I1.fpOk (Nat.le_refl _) (I1.hok.fresh (Nat.le_refl _))
  · subst ex
    obtain ⟨t, rfl⟩ := r1
    cases ha : x.cps.all (· < 128)
    · exact wpAny_pyIter_wide ha (pi_one (tk := s1.toks) I1 _ (turn_str _ x t "str_iterator" (.inr rfl)) ⟨_, Heap.get?_push_size _ rfl, rfl, rfl⟩ q)
    · exact wpAny_pyIter_ascii ha (pi_one (tk := s1.toks) I1 _ (turn_str _ x t "str_ascii_iterator" (.inl rfl)) ⟨_, Heap.get?_push_size _ rfl, rfl, rfl⟩ q)
section
variable {X : Cx} {cl : Nat → Addr} {W : WX} {tg e : Expr} {r : Nat} {f : DEnv → Out D} {t : DEnv → Out (List D)}
theorem di_any (he : DE X cl W e 0 f) : DI X cl W tg e (itE f) := PI.imp (pi_any he.zero) fun σ H R ⟨F, ρ, l, s, w⟩ =>
  ⟨F, ρ, l, s, w.bnd fun d F1 H1 v g q w1 => by
    cases d with
    | lst ds =>
      obtain ⟨a, vs, rfl, ha, hr⟩ := q
      exact .inl ⟨a, vs, rfl, SqL.of (g.le _ _ ha), w1 F1 H1 _ (Gr.refl g.le) (walks_lst ha hr)⟩
    | tup ds =>
      obtain ⟨a, vs, rfl, ha, hr⟩ := q
      exact .inr (.inl ⟨a, vs, rfl, (Le.of g.le).sqT ha, w1 F1 H1 _ (Gr.refl g.le) (walks_tup ha hr)⟩)
    | str z =>
      cases q
      exact .inr (.inr ⟨z, rfl, w1 F1 H1 _ (Gr.refl g.le) walks_str⟩)
    | _ => exact w1.elim⟩
/-- over pi_range1, pi_range2 -/
theorem di_rng1 (p : PI X tg e (iRng1 (tA X.K cl W 0 t))) : DI X cl W tg e (itA rng1 t) := PI.imp p fun σ H R ⟨F, ρ, l, s, w⟩ =>
  ⟨F, ρ, l, s, w.bndA fun ds F1 H1 vs g q w1 => by
    cases ds with
    | nil => exact w1.elim
    | cons d tl =>
      cases tl with
      | cons _ _ => exact (show False by cases d <;> exact w1).elim
      | nil =>
        cases d with
        | int n =>
          obtain ⟨v, tl, e, q1, q2⟩ := q
          cases q1
          rw [show tl = [] from q2] at e
          have w2 : wpI X.K cl (if n < 2 ^ 62 ∧ -(2 ^ 62) ≤ n then .ok (rngL 0 n.toNat) else .bad) F1 H1 R (fun c dx H' => W c dx σ H') := w1
          by_cases c : n < 2 ^ 62 ∧ -(2 ^ 62) ≤ n
          · rw [if_pos c] at w2
            exact ⟨n, e, c.2, c.1, w2 F1 H1 _ (Gr.refl g.le) walks_rng⟩
          · rw [if_neg c] at w2
            exact w2.elim
        | _ => exact w1.elim⟩
theorem di_rng2 (p : PI X tg e (iRng2 (tA X.K cl W 0 t))) : DI X cl W tg e (itA rng2 t) := PI.imp p fun σ H R ⟨F, ρ, l, s, w⟩ =>
  ⟨F, ρ, l, s, w.bndA fun ds F1 H1 vs g q w1 => by
    cases ds with
    | nil => exact w1.elim
    | cons d tl =>
      cases tl with
      | nil => exact (show False by cases d <;> exact w1).elim
      | cons d2 tl2 =>
        cases tl2 with
        | cons _ _ => exact (show False by cases d <;> cases d2 <;> exact w1).elim
        | nil =>
          cases d with
          | int i =>
            cases d2 with
            | int j =>
              obtain ⟨v, tl, e, q1, v2, tl2, e2, q2, q3⟩ := q
              cases q1
              cases q2
              rw [show tl2 = [] from q3] at e2
              rw [e2] at e
              have w2 : wpI X.K cl (if -(2 ^ 62) ≤ i ∧ i < 2 ^ 62 ∧ -(2 ^ 62) ≤ j ∧ j < 2 ^ 62 then .ok (rngL i (j - i).toNat) else .bad) F1 H1 R (fun c dx H' => W c dx σ H') := w1
              by_cases c : -(2 ^ 62) ≤ i ∧ i < 2 ^ 62 ∧ -(2 ^ 62) ≤ j ∧ j < 2 ^ 62
              · rw [if_pos c] at w2
                exact ⟨i, j, e, c, w2 F1 H1 _ (Gr.refl g.le) walks_rng⟩
              · rw [if_neg c] at w2
                exact w2.elim
            | _ => exact w1.elim
          | _ => exact (show False by cases d2 <;> exact w1).elim⟩
end
/-! ### targets -/
inductive Tg where
  | nm (i : Nat) | tp (is : List Nat)
def tgs : List Nat → TGs
  | [] => gNil
  | i :: is => gCons (gName i) (tgs is)
def tgR (K : PySem.W.Frag) : Tg → TG
  | .nm i => gName i
  | .tp is => fun v σ H Q => gTup K is.length (tgs is) v σ H Q ∨ gUnl K is.length (tgs is) v σ H Q
def setsD : List Nat → List D → DEnv → Option DEnv
  | [], [], ρ => some ρ
  | i :: is, d :: ds, ρ => setsD is ds (ρ.set i (some d))
  | _, _, _ => none
def bindT : Tg → D → DEnv → Option DEnv
  | .nm i, d, ρ => some (ρ.set i (some d))
  | .tp is, .tup ds, ρ => setsD is ds ρ
  | .tp is, .lst ds, ρ => setsD is ds ρ
  | _, _, _ => none
def tgIs : Tg → List Nat
  | .nm i => [i]
  | .tp is => is
def setZ : List Nat → List Nat → List Nat
  | [], Δ => Δ
  | i :: is, Δ => setZ is (Δ.set i 0)
theorem PG.or {X : Cx} {e : Expr} {t t' : TG} (h : PG X e t) (h' : PG X e t') : PG X e (fun v σ H Q => t v σ H Q ∨ t' v σ H Q) := ⟨fun pins s σ H v u Q I r w => by
  rcases w with w | w
  · exact h.run pins s σ H v u Q I r w
  · exact h'.run pins s σ H v u Q I r w⟩
theorem pg_tp {X : Cx} {es : List Expr} {k : Nat} {is : List Nat} {pos : Pos} (hc : X.calm = true) (h : PGs X es (tgs is)) (hn : (assignEach es X.env).length = is.length := by rfl) (hst : (assignEach es X.env).findIdx? (·.1) = none := by rfl) : PG X (.Tuple es k pos) (tgR X.K (.tp is)) :=
  PG.or (pg_tup hc h hn hst) (pg_unl hc h hn hst)
section
variable {K : PySem.W.Frag} {cl : Nat → Addr} {pn : List Nat} {E : Ent pn} {Δ : List Nat} {F H F' H' : Hp} {ρ ρ' : DEnv} {σ : St} {fp : List Addr} {Q : St → Hp → Prop}
theorem setsD_len : ∀ {is : List Nat} {ds : List D} {ρ ρ' : DEnv}, setsD is ds ρ = some ρ' → is.length = ds.length
  | [], [], _, _, _ => rfl
  | _ :: is, _ :: ds, ρ, _, e => congrArg Nat.succ (setsD_len (is := is) (ds := ds) (ρ := ρ.set _ (some _)) e)
  | [], _ :: _, _, _, e => by cases e
  | _ :: _, [], _, _, e => by cases e
/-- none of these slots is held -/
def npn (pn is : List Nat) : Bool := is.all fun i => !pn.contains i
theorem npn_cons {pn : List Nat} {i : Nat} {is : List Nat} (h : npn pn (i :: is) = true) : pn.contains i = false ∧ npn pn is = true := by
  unfold npn at h
  rw [List.all_cons] at h
  obtain ⟨h1, h2⟩ := Bool.and_eq_true_iff.mp h
  refine ⟨?_, h2⟩
  cases q : pn.contains i with
  | false => rfl
  | true => rw [q] at h1; cases h1
theorem tgs_st : ∀ {is : List Nat} {ds : List D} {vs : List V} {Δ : List Nat} {ρ ρ' : DEnv} {σ : St} {fp : List Addr}, npn pn is = true → StOk K cl E Δ F H ρ σ fp → RepL K cl F ds vs → setsD is ds ρ = some ρ' →
    (∀ fp' σ', StOk K cl E (setZ is Δ) F H ρ' σ' fp' → Q σ' H) → tgs is vs σ H Q
  | [], [], vs, Δ, ρ, ρ', σ, fp, _, s, r, e, q => by
    cases e
    exact ⟨r, q fp σ s⟩
  | i :: is, d :: ds, vs, Δ, ρ, ρ', σ, fp, hi, s, r, e, q => by
    obtain ⟨v, t, e1, r1, r2⟩ := r
    obtain ⟨fp', s'⟩ := s.set (i := i) (n := 0) ⟨r1, rfl⟩ List.nodup_nil (fun a m => by cases m) (fun a m => by cases m) (fun a m => by cases m) (npn_cons hi).1
    exact ⟨v, t, e1, tgs_st (npn_cons hi).2 s' r2 e q⟩
  | [], _ :: _, _, _, _, _, _, _, _, _, _, e, _ => by cases e
  | _ :: _, [], _, _, _, _, _, _, _, _, _, e, _ => by cases e
theorem tgR_st {tg : Tg} {d : D} {v : V} (hi : npn pn (tgIs tg) = true) (s : StOk K cl E Δ F H ρ σ fp) (r : Rep K cl F d v) (e : bindT tg d ρ = some ρ') (q : ∀ fp' σ', StOk K cl E (setZ (tgIs tg) Δ) F H ρ' σ' fp' → Q σ' H) : tgR K tg v σ H Q := by
  cases tg with
  | nm i =>
    cases e
    obtain ⟨fp', s'⟩ := s.set (i := i) (n := 0) ⟨r, rfl⟩ List.nodup_nil (fun a m => by cases m) (fun a m => by cases m) (fun a m => by cases m) (npn_cons hi).1
    exact q fp' _ s'
  | tp is =>
    cases d with
    | tup ds =>
      obtain ⟨a, vs, e1, h1, r1⟩ := r
      exact .inl ⟨a, vs, e1, (Le.of s.le).sqT h1, by rw [← r1.length]; exact (setsD_len e).symm, tgs_st hi s r1 e q⟩
    | lst ds =>
      obtain ⟨a, vs, e1, h1, r1⟩ := r
      exact .inr ⟨a, vs, e1, SqL.of (s.le _ _ h1), by rw [← r1.length]; exact (setsD_len e).symm, tgs_st hi s r1 e q⟩
    | _ => cases e
theorem wipe_get : ∀ {vs : List Nat} {σ : St} {j : Nat}, (wipe σ vs)[j]? = if j ∈ vs then (σ[j]?).map fun _ => none else σ[j]?
  | [], σ, j => by simp [wipe]
  | v :: vs, σ, j => by
    unfold wipe
    by_cases h : v = j
    · subst h
      rw [if_pos List.mem_cons_self]
      by_cases hl : v < σ.length
      · rw [List.getElem?_set_self (by rw [wipe_length]; exact hl), List.getElem?_eq_getElem hl] <;> rfl
      · rw [List.getElem?_eq_none (by rw [List.length_set, wipe_length]; omega), List.getElem?_eq_none (by omega)] <;> rfl
    · rw [List.getElem?_set_ne h, wipe_get]
      by_cases m : j ∈ vs
      · rw [if_pos m, if_pos (List.mem_cons_of_mem _ m)]
      · rw [if_neg m, if_neg (fun z => (List.mem_cons.mp z).elim (fun y => h y.symm) m)]
theorem wipe_set {vs : List Nat} {σ : St} {i : Nat} {o : Option V} (m : i ∈ vs) : wipe (σ.set i o) vs = wipe σ vs := by
  apply List.ext_getElem?
  intro j
  rw [wipe_get, wipe_get]
  by_cases h : i = j
  · subst h
    rw [if_pos m, if_pos m]
    by_cases hl : i < σ.length
    · rw [List.getElem?_set_self hl, List.getElem?_eq_getElem hl] <;> rfl
    · rw [List.getElem?_eq_none (by rw [List.length_set]; omega), List.getElem?_eq_none (by omega)]
  · rw [List.getElem?_set_ne h]
theorem wipe_wipe {vs : List Nat} {σ : St} : wipe (wipe σ vs) vs = wipe σ vs := by
  apply List.ext_getElem?
  intro j
  rw [wipe_get, wipe_get]
  by_cases m : j ∈ vs
  · rw [if_pos m, if_pos m]
    cases σ[j]? <;> rfl
  · rw [if_neg m, if_neg m]
def wipeD (ρ : DEnv) : List Nat → DEnv
  | [] => ρ
  | v :: vs => (wipeD ρ vs).set v none
theorem RepS.setN {i : Nat} (r : RepS K cl F ρ σ) : RepS K cl F (ρ.set i none) (σ.set i none) := ⟨by rw [List.length_set, List.length_set]; exact r.1, fun j d h => by
  by_cases hj : i = j
  · subst hj
    by_cases hl : i < ρ.length
    · rw [List.getElem?_set_self hl] at h
      cases h
    · rw [List.getElem?_eq_none (by rw [List.length_set]; omega)] at h
      cases h
  · rw [List.getElem?_set_ne hj] at h
    rw [List.getElem?_set_ne hj]
    exact r.2 j d h⟩
theorem RepS.wipe (r : RepS K cl F ρ σ) : ∀ {vs : List Nat}, RepS K cl F (wipeD ρ vs) (L2.wipe σ vs)
  | [] => r
  | v :: vs => RepS.setN (RepS.wipe r)
theorem tgs_rs {σ0 : St} {ws : List Nat} : ∀ {is : List Nat} {ds : List D} {vs : List V} {ρ ρ' : DEnv} {σ : St}, (∀ i ∈ is, i ∈ ws) → L2.wipe σ ws = L2.wipe σ0 ws → RepS K cl F ρ σ → RepL K cl F ds vs → setsD is ds ρ = some ρ' →
    (∀ σ', L2.wipe σ' ws = L2.wipe σ0 ws → RepS K cl F ρ' σ' → Q σ' H) → tgs is vs σ H Q
  | [], [], vs, ρ, ρ', σ, _, hw, s, r, e, q => by
    cases e
    exact ⟨r, q σ hw s⟩
  | i :: is, d :: ds, vs, ρ, ρ', σ, hm, hw, s, r, e, q => by
    obtain ⟨v, t, e1, r1, r2⟩ := r
    exact ⟨v, t, e1, tgs_rs (fun j m => hm j (List.mem_cons_of_mem _ m)) (by rw [wipe_set (hm i List.mem_cons_self)]; exact hw) (s.set r1) r2 e q⟩
  | [], _ :: _, _, _, _, _, _, _, _, _, e, _ => by cases e
  | _ :: _, [], _, _, _, _, _, _, _, _, e, _ => by cases e
theorem tgR_rs {tg : Tg} {d : D} {v : V} {σ0 : St} {ws : List Nat} (hm : ∀ i ∈ tgIs tg, i ∈ ws) (hw : L2.wipe σ ws = L2.wipe σ0 ws) (l : Same F H) (s : RepS K cl F ρ σ) (r : Rep K cl F d v) (e : bindT tg d ρ = some ρ') (q : ∀ σ', L2.wipe σ' ws = L2.wipe σ0 ws → RepS K cl F ρ' σ' → Q σ' H) : tgR K tg v σ H Q := by
  cases tg with
  | nm i =>
    cases e
    exact q _ (by rw [wipe_set (hm i List.mem_cons_self)]; exact hw) (s.set r)
  | tp is =>
    cases d with
    | tup ds =>
      obtain ⟨a, vs, e1, h1, r1⟩ := r
      exact .inl ⟨a, vs, e1, (Le.of l).sqT h1, by rw [← r1.length]; exact (setsD_len e).symm, tgs_rs hm hw s r1 e q⟩
    | lst ds =>
      obtain ⟨a, vs, e1, h1, r1⟩ := r
      exact .inr ⟨a, vs, e1, SqL.of (l _ _ h1), by rw [← r1.length]; exact (setsD_len e).symm, tgs_rs hm hw s r1 e q⟩
    | _ => cases e
end
/-! ### comprehensions -/
def lcL (tg : Tg) (tt : DEnv → Out Bool) (h : DEnv → Out D) (ρ : DEnv) : List D → Out (List D)
  | [] => .ok []
  | d :: ds => match bindT tg d ρ with
    | none => .bad
    | some ρ' => match tt ρ' with
      | .ok true => (match h ρ' with
        | .ok y => (match lcL tg tt h ρ ds with
          | .ok ys => .ok (y :: ys)
          | _ => .bad)
        | _ => .bad)
      | .ok false => lcL tg tt h ρ ds
      | _ => .bad
def lcE (it : DEnv → Out (List D)) (ws : List Nat) (tg : Tg) (tt : DEnv → Out Bool) (h : DEnv → Out D) : DEnv → Out D := fun ρ => (it ρ).bind fun ds => if ds.length ≤ sizeLine then (match lcL tg tt h (wipeD ρ ws) ds with
  | .ok ys => .ok (.lst ys)
  | _ => .bad) else .bad
def yesT : DEnv → Out Bool := fun _ => .ok true
abbrev W0 : WX := fun _ _ _ _ => False
theorem lc_ok {K : PySem.W.Frag} {cl : Nat → Addr} {W : WX} {r : Nat} {it : DEnv → Out (List D)} {ws : List Nat} {tg : Tg} {tt : DEnv → Out Bool} {h : DEnv → Out D} (hm : ∀ i ∈ tgIs tg, i ∈ ws) : ∀ σ H Q, tE K cl W (r + 1) (lcE it ws tg tt h) σ H Q → tLc (tI K cl W it) (tgR K tg) (tB' K cl W0 tt) (tE K cl W0 r h) ws σ H Q := fun σ H Q ⟨F, ρ, l, s, w⟩ => by
  refine ⟨F, ρ, l, s, ?_⟩
  unfold lcE at w
  cases q : it ρ with
  | ex x => rw [q] at w; exact w
  | bad => rw [q] at w; exact w
  | ok ds =>
    rw [q] at w
    have w1 : wpE K cl (r + 1) (if ds.length ≤ sizeLine then (match lcL tg tt h (wipeD ρ ws) ds with | .ok ys => .ok (.lst ys) | _ => .bad) else .bad) F H Q (fun c dx H' => W c dx σ H') := w
    by_cases c : ds.length ≤ sizeLine
    · rw [if_pos c] at w1
      cases q2 : lcL tg tt h (wipeD ρ ws) ds with
      | ex x => rw [q2] at w1; exact w1.elim
      | bad => rw [q2] at w1; exact w1.elim
      | ok ys =>
        rw [q2] at w1
        intro F1 H1 J g1 wk P hP
        have FP : F1 P = none := none_of_le g1.le hP
        -- what the new list holds at turn i: zs, the rest gives the rest of ys
        refine ⟨fun i m H2 => m = ds.length - i ∧ i ≤ ds.length ∧ ∃ F2 zs us vs fv, Gr F1 H1 F2 H2 ∧ F2 P = none ∧ H2 P = some (.lst vs) ∧ zs.length ≤ i ∧ LRel (Own K cl r F2 H2) zs vs fv ∧ (∀ a ∈ fv, H1 a = none ∧ F2 a = none ∧ a ≠ P) ∧ fv.Nodup ∧ lcL tg tt h (wipeD ρ ws) (ds.drop i) = .ok us ∧ ys = zs ++ us,
          ⟨ds.length, by simp, Nat.zero_le _, F1, [], ys, [], [], Gr.newH _ g1.le hP, FP, upd_same, Nat.le_refl _, ⟨rfl, rfl⟩, (fun a m => by cases m), List.nodup_nil, q2, rfl⟩, ?_⟩
        rintro i m H2 ⟨rfl, hi, F2, zs, us, vs, fv, g2, FP2, hH, hz, lr, nw, nd, hl, he⟩
        by_cases hlt : i < ds.length
        · refine .inr ⟨wk.go H2 i (g2.f.trans g2.le) hlt, _, fun H' p' => ⟨ds.length - (i + 1), by omega, p'⟩, fun x H' y => ?_⟩
          obtain ⟨h1, h2⟩ := wk.yld H2 i x H' (g2.f.trans g2.le) y hlt
          obtain ⟨d, F3, hd, g3, rd⟩ := h2 F2 g2.f g2.le
          have hdr : ds.drop i = d :: ds.drop (i + 1) := by
            rw [List.drop_eq_getElem_cons hlt]
            congr 1
            exact Option.some.inj ((List.getElem?_eq_getElem hlt).symm.trans hd)
          rw [hdr] at hl
          unfold lcL at hl
          have FP3 : F3 P = none := by
            cases z : F3 P with
            | none => rfl
            | some o =>
              have := g3.nw P FP2 (by rw [z]; exact fun y => nomatch y)
              rw [hH] at this
              cases this
          have sW := (((s.mono g1.f).mono g2.f).mono g3.f).wipe (vs := ws)
          cases hb : bindT tg d (wipeD ρ ws) with
          | none => rw [hb] at hl; cases hl
          | some ρ' =>
            rw [hb] at hl
            dsimp only at hl
            refine tgR_rs (σ0 := σ) hm wipe_wipe g3.le sW rd hb fun σ' e1 s' => ⟨e1, F3, ρ', g3.le, s', ?_⟩
            cases ht : tt ρ' with
            | ex x => rw [ht] at hl; cases hl
            | bad => rw [ht] at hl; cases hl
            | ok b =>
              rw [ht] at hl
              intro F4 H4 g4
              have FP4 : F4 P = none := by
                cases z : F4 P with
                | none => rfl
                | some o =>
                  have := g4.nw P FP3 (by rw [z]; exact fun y => nomatch y)
                  rw [g3.h _ _ hH] at this
                  cases this
              cases b with
              | false =>
                rw [if_neg Bool.false_ne_true]
                have gg := (g2.trans g3).trans g4
                refine ⟨rfl, hlt, F4, zs, us, vs, fv, gg, FP4, g4.h _ _ (g3.h _ _ hH), Nat.le_succ_of_le hz, LRel.imp (fun _ _ _ o => Own.same (g3.f.trans g4.f) (g3.h.trans g4.h) o) lr, fun a m => ⟨(nw a m).1, ?_, (nw a m).2.2⟩, nd, hl, he⟩
                have ob : Ob (H2 a) := LRel.ob (P := Own K cl r F2 H2) (fun _ _ _ o => Own.ob o) lr a m
                cases z : F4 a with
                | none => rfl
                | some o => exact absurd ((g3.trans g4).nw a (nw a m).2.1 (by rw [z]; exact fun y => nomatch y)) ob.some
              | true =>
                rw [if_pos rfl]
                refine ⟨F4, ρ', g4.le, s'.mono g4.f, ?_⟩
                cases hy : h ρ' with
                | ex x => rw [hy] at hl; cases hl
                | bad => rw [hy] at hl; cases hl
                | ok y =>
                  rw [hy] at hl
                  intro F5 H5 v fy g5 oy ny dy
                  cases hr : lcL tg tt h (wipeD ρ ws) (ds.drop (i + 1)) with
                  | ex x => rw [hr] at hl; cases hl
                  | bad => rw [hr] at hl; cases hl
                  | ok us' =>
                    rw [hr] at hl
                    have eu : us = y :: us' := by injection hl with hl; exact hl.symm
                    have gg := ((g2.trans g3).trans g4).trans g5
                    have g25 := (g3.trans g4).trans g5
                    have hP5 : H5 P = some (.lst vs) := g25.h _ _ hH
                    have FP5 : F5 P = none := by
                      cases z : F5 P with
                      | none => rfl
                      | some o =>
                        have := g5.nw P FP4 (by rw [z]; exact fun y => nomatch y)
                        rw [g4.h _ _ (g3.h _ _ hH)] at this
                        cases this
                    have obz : ∀ a ∈ fv, Ob (H2 a) := LRel.ob (P := Own K cl r F2 H2) (fun _ _ _ o => Own.ob o) lr
                    have nPy : ∀ a ∈ fy, a ≠ P := fun a m e => by
                      have z := (ny a m).1
                      rw [e, g4.h _ _ (g3.h _ _ hH)] at z
                      cases z
                    have kp : ∀ a, a ≠ P → upd H5 P (.lst (vs ++ [v])) a = H5 a := fun a n => upd_ne n
                    refine ⟨vs, hP5, by have := LRel.length lr; omega, rfl, hlt, F5, zs ++ [y], us', vs ++ [v], fv ++ fy, ?_, FP5, upd_same, by rw [List.length_append]; exact Nat.succ_le_succ hz, ?_, fun a m => ?_, nodup_app nd dy fun a m m2 => ?_, hr, by rw [he, eu, List.append_assoc] <;> rfl⟩
                    · refine ⟨gg.f, fun a o e => ?_, fun a o e => ?_, gg.nw⟩
                      · have n : a ≠ P := fun z => by rw [z, hP] at e; cases e
                        rw [kp a n]
                        exact gg.h a o e
                      · have n : a ≠ P := fun z => by rw [z, FP5] at e; cases e
                        rw [kp a n]
                        exact gg.le a o e
                    · have app : ∀ {zs : List D} {vs : List V} {fv : List Addr}, LRel (Own K cl r F5 (upd H5 P (.lst (vs ++ [v])))) zs vs fv → True := fun _ => trivial
                      have a1 : LRel (Own K cl r F5 (upd H5 P (.lst (vs ++ [v])))) zs vs fv := LRel.impm (fun d u f m o => Own.keep g25.f (fun a z => by
                        rw [kp a (nw a (m a z)).2.2]
                        cases q : H2 a with
                        | none => exact absurd q (obz a (m a z)).some
                        | some o => exact g25.h a o q) o) lr
                      have a2 : Own K cl r F5 (upd H5 P (.lst (vs ++ [v]))) y v fy := Own.keep (Same.refl _) (fun a z => kp a (nPy a z)) oy
                      have glue : ∀ {zs : List D} {us : List V} {fu : List Addr} {Pr : D → V → List Addr → Prop}, LRel Pr zs us fu → Pr y v fy → LRel Pr (zs ++ [y]) (us ++ [v]) (fu ++ fy) := by
                        intro zs
                        induction zs with
                        | nil =>
                          intro us fu Pr r p
                          rw [r.1, r.2]
                          exact ⟨v, [], fy, [], rfl, by simp, p, rfl, rfl⟩
                        | cons z zs ih =>
                          intro us fu Pr r p
                          obtain ⟨u, t, f1, f2, e1, e2, p1, l1⟩ := r
                          subst e1 e2
                          exact ⟨u, t ++ [v], f1, f2 ++ fy, rfl, List.append_assoc .., p1, ih l1 p⟩
                      exact glue a1 a2
                    · rcases List.mem_append.mp m with m | m
                      · refine ⟨(nw a m).1, ?_, (nw a m).2.2⟩
                        cases z : F5 a with
                        | none => rfl
                        | some o => exact absurd (g25.nw a (nw a m).2.1 (by rw [z]; exact fun y => nomatch y)) (obz a m).some
                      · exact ⟨((g2.trans g3).trans g4).h.free (ny a m).1, (ny a m).2, nPy a m⟩
                    · have z := (ny a m2).1
                      have ob := obz a m
                      cases q : H2 a with
                      | none => exact absurd q ob.some
                      | some o =>
                        rw [(g3.trans g4).h a o q] at z
                        cases z
        · have e : i = ds.length := by omega
          subst e
          refine .inl ⟨wk.stop H2 (g2.f.trans g2.le), ?_⟩
          rw [List.drop_length] at hl
          have eu : us = [] := by
            have hl' : Out.ok ([] : List D) = .ok us := hl
            injection hl' with z
            exact z.symm
          subst eu
          rw [List.append_nil] at he
          subst he
          refine w1 F2 H2 (.ref P) (P :: fv) (g1.trans g2) ⟨P, vs, fv, rfl, hH, rfl, lr⟩ (fun a m => ?_) (List.nodup_cons.mpr ⟨fun m => (nw P m).2.2 rfl, nd⟩)
          rcases List.mem_cons.mp m with m | m
          · subst m
            exact ⟨g1.h.free hP, FP2⟩
          · exact ⟨g1.h.free (nw a m).1, (nw a m).2.1⟩
    · rw [if_neg c] at w1
      exact w1.elim
end DL

namespace DL
open PySem PySem.Spec PyProof.Rows L2
/-! ### only the slots that are not ours are seen -/
def mask : List Nat → DEnv → DEnv
  | n :: Δ, o :: ρ => (if n = 0 then o else none) :: mask Δ ρ
  | [], ρ => ρ
  | _, [] => []
section
variable {K : PySem.W.Frag} {cl : Nat → Addr} {W : WX} {cf : Cf} {E : Ent cf.pn} {Δ Δ' Δc : List Nat} {F H F' H' F1 H1 : Hp} {ρ : DEnv} {σ : St} {fp : List Addr}
theorem SRel.mask : ∀ {Δ : List Nat} {ρ : DEnv} {σ : St} {fp : List Addr}, SRel (fun n => Own K cl n F H) Δ ρ σ fp → RepS K cl F (DL.mask Δ ρ) σ
  | [], [], [], _, _ => ⟨rfl, fun i d e => by simp [DL.mask] at e⟩
  | n :: ns, o :: ρ, s :: σ, _, r => by
    obtain ⟨f1, f2, e1, q, l⟩ := r
    have ih := SRel.mask l
    refine ⟨by show (DL.mask ns ρ).length + 1 = σ.length + 1; rw [ih.1], fun i d e => ?_⟩
    cases i with
    | zero =>
      have e' : (if n = 0 then o else none) = some d := by simpa [DL.mask] using e
      by_cases h : n = 0
      · rw [if_pos h] at e'
        subst h e'
        obtain ⟨v, e2, p⟩ := q
        exact ⟨v, by rw [e2] <;> rfl, p.1⟩
      · rw [if_neg h] at e'
        cases e'
    | succ i =>
      obtain ⟨v, h1, h2⟩ := ih.2 i d (by simpa [DL.mask] using e)
      exact ⟨v, by simpa using h1, h2⟩
  | [], _ :: _, _, _, r => by cases r
  | [], [], _ :: _, _, r => by cases r
  | _ :: _, [], _, _, r => by cases r
  | _ :: _, _ :: _, [], _, r => by cases r
theorem StOk.mask (s : StOk K cl E Δ F H ρ σ fp) : RepS K cl F (DL.mask Δ ρ) σ := SRel.mask s.sl
/-- behind an expression that sees but what is not ours -/
theorem StOk.growM (s : StOk K cl E Δ F H ρ σ fp) (g : Gr F H F' H') : StOk K cl E Δ F' H' ρ σ fp := by
  have ob : ∀ a ∈ fp, H a ≠ none := fun a m e => s.fresh e m
  refine ⟨g.le, fun a m => ?_, s.nd, SRel.impm (fun n d v f m o => Own.same g.f g.h o) s.sl, fun a o e m => g.h a o (s.keep a o e m), s.f0.trans g.f, fun a e n => ?_, s.nwO, s.pn⟩
  · cases z : F' a with
    | none => rfl
    | some o => exact absurd (g.nw a (s.sep a m) (by rw [z]; exact fun y => nomatch y)) (ob a m)
  · cases q : F a with
    | some o => exact s.nwF a e (by rw [q]; exact fun z => nomatch z)
    | none => exact s.young (g.nw a q n)
theorem StOk.excM (s : StOk K cl E Δ F H ρ σ fp) (hp : ptB Δ cf.Δr = true) {x : Exn} (w : exS K cl W cf E x ρ) : exW K cl x F H fun c dx H' => W c dx σ H' := fun F1 H1 c dx fv g e nw nd => by
  obtain ⟨F2, fp2, a1, a2, a3, s2⟩ := (s.growM g).part hp
  have e2 : XRep K cl F2 x c dx H1 fv := e.imm fun a xs q => Same.sqT a1 q
  refine w F2 fp2 σ H1 c dx fv s2 e2 (fun a m => ?_) nd
  have na : a ∉ fp := s.fresh (nw a m).1
  refine ⟨fun m2 => na (a3 a m2), ?_, s.young (nw a m).1⟩
  cases q : F2 a with
  | none => rfl
  | some o => exact absurd (a2 a (nw a m).2 (by rw [q]; exact fun z => nomatch z)) na
theorem StOk.apartM (s : StOk K cl E Δ F H ρ σ fp) {fv : List Addr} (nw : ∀ a ∈ fv, H a = none ∧ F1 a = none) : ∀ a ∈ fv, a ∉ fp ∧ F1 a = none ∧ (E.H0 a = none ∨ a ∈ E.fp0) := fun a m => ⟨s.fresh (nw a m).1, (nw a m).2, s.young (nw a m).1⟩
/-- the entry's frozen part, taken later -/
def Ent.re {pn : List Nat} (E : Ent pn) (F : Hp) : Ent pn := ⟨F, E.H0, E.fp0, E.pin, E.hpin⟩
theorem StOk.re (s : StOk K cl E Δ F H ρ σ fp) : StOk K cl (E.re F) Δ F H ρ σ fp := ⟨s.le, s.sep, s.nd, s.sl, s.keep, Same.refl F, fun _ e n => absurd e n, s.nwO, s.pn⟩
theorem StOk.re1 {Fb : Hp} (s : StOk K cl (E.re Fb) Δ F H ρ σ fp) : Same Fb F := s.f0
theorem StOk.unre {Fb : Hp} {H0 : Hp} {Δ0 : List Nat} {ρ0 : DEnv} {σ0 : St} {fp0 : List Addr} (b : StOk K cl E Δ0 Fb H0 ρ0 σ0 fp0) (s : StOk K cl (E.re Fb) Δ F H ρ σ fp) : StOk K cl E Δ F H ρ σ fp := ⟨s.le, s.sep, s.nd, s.sl, s.keep, b.f0.trans s.f0, fun a e n => by
  cases q : Fb a with
  | none => exact s.nwF a q n
  | some o => exact b.nwF a e (by rw [q]; exact fun z => nomatch z), s.nwO, s.pn⟩
end
section
variable {X : Cx} {cl : Nat → Addr} {W : WX} {cf : Cf} {Δc Δ Δ' Δ1 Δl : List Nat} {st : Stmt} {rest body orelse : List Stmt} {f g : DEnv → SOut} {e c tge : Expr} {h : DEnv → Out D} {pos : Pos} {n r i : Nat} {tg : Tg} {it : DEnv → Out (List D)}
/-! ### name = e, by the three ways -/
/-- Z: all that was ours is given up; M: e sees but what is not ours; I: the value stands apart -/
theorem ds_setZ {te : TE} (p : PS X st (tAsg te (gName i))) (ht : ∀ σ H Q, tE X.K cl W n h σ H Q → te σ H Q) (hp : ptB Δ cf.Δr = true) (hi : cf.pn.contains i = false) : DS X cl W cf Δc Δ st ((zs Δ).set i n) (setS i h) := PS.imp p fun D σ H w => ht _ _ _ (tS_set hp hi D σ H w)
theorem ds_setI {te : TE} (p : PS X st (tAsg te (gName i))) (ht : ∀ σ H Q, tE X.K cl W n h σ H Q → te σ H Q) (hp : ptB Δ cf.Δr = true) (hi : cf.pn.contains i = false) : DS X cl W cf Δc Δ st (Δ.set i n) (setI n i h) := PS.imp p fun D σ H w => ht _ _ _ (tS_setI hp hi D σ H w)
def mE {α : Type} (Δ : List Nat) (h : DEnv → Out α) : DEnv → Out α := fun ρ => h (mask Δ ρ)
theorem ds_setM {te : TE} (p : PS X st (tAsg te (gName i))) (ht : ∀ σ H Q, tE X.K cl W n h σ H Q → te σ H Q) (hp : ptB Δ cf.Δr = true) (hi : cf.pn.contains i = false) : DS X cl W cf Δc Δ st (Δ.set i n) (setS i (mE Δ h)) := PS.imp p fun D σ H ⟨E, F, ρ, fp, s, w⟩ => ht _ _ _ (by
  refine ⟨F, mask Δ ρ, s.le, s.mask, ?_⟩
  unfold setS mE at w
  cases q : h (mask Δ ρ) with
  | ok d =>
    rw [q] at w
    intro F1 H1 v fv g1 o1 n1 d1
    have a1 := s.apartM n1
    obtain ⟨fp', s'⟩ := (s.growM g1).set (i := i) o1 d1 (fun a m => (a1 a m).1) (fun a m => (a1 a m).2.1) (fun a m => (a1 a m).2.2) hi
    exact w F1 fp' _ H1 s'
  | ex x =>
    rw [q] at w
    exact s.excM hp w
  | bad => rw [q] at w; exact w)
/-! ### a, b = e -/
def unpS (tg : Tg) (h : DEnv → Out D) : DEnv → SOut := fun ρ => match h ρ with
  | .ok d => (match bindT tg d ρ with
    | some ρ' => .next ρ'
    | none => .bad)
  | .ex x => .ex x ρ
  | .bad => .bad
def unpI (tg : Tg) (n : Nat) (h : DEnv → Out D) : DEnv → SOut := fun ρ => match h ρ with
  | .ok d => if immAt n d = true then (match bindT tg d ρ with
    | some ρ' => .next ρ'
    | none => .bad) else .bad
  | .ex x => .ex x ρ
  | .bad => .bad
theorem Own.give {K : PySem.W.Frag} {F H : Hp} {d : D} {v : V} {fv : List Addr} (l : Same F H) (o : Own K cl n F H d v fv) : Rep K cl (ov F H fv) d v := Own.rep l o
theorem ds_unpZ {te : TE} (p : PS X st (tAsg te (tgR X.K tg))) (ht : ∀ σ H Q, tE X.K cl W 0 h σ H Q → te σ H Q) (hp : ptB Δ cf.Δr = true) (hi : npn cf.pn (tgIs tg) = true) : DS X cl W cf Δc Δ st (setZ (tgIs tg) (zs Δ)) (unpS tg h) := PS.imp p fun D σ H ⟨E, F, ρ, fp, s, w⟩ => ht _ _ _ (by
  refine ⟨_, ρ, ov_h s.le, s.view, ?_⟩
  unfold unpS at w
  cases q : h ρ with
  | ok d =>
    rw [q] at w
    intro F1 H1 v fv g1 o1 n1 d1
    cases q2 : bindT tg d ρ with
    | none =>
      dsimp only at w
      rw [q2] at w
      exact w.elim
    | some ρ' =>
      dsimp only at w
      rw [q2] at w
      exact tgR_st hi (s.frz g1 zs_len zs_zero) o1.1 q2 fun fp' σ' s' => w F1 fp' σ' H1 s'
  | ex x =>
    rw [q] at w
    exact s.exc hp w
  | bad => rw [q] at w; exact w)
theorem ds_unpM {te : TE} (p : PS X st (tAsg te (tgR X.K tg))) (ht : ∀ σ H Q, tE X.K cl W 0 h σ H Q → te σ H Q) (hp : ptB Δ cf.Δr = true) (hi : npn cf.pn (tgIs tg) = true) : DS X cl W cf Δc Δ st (setZ (tgIs tg) Δ) (unpS tg (mE Δ h)) := PS.imp p fun D σ H ⟨E, F, ρ, fp, s, w⟩ => ht _ _ _ (by
  refine ⟨F, mask Δ ρ, s.le, s.mask, ?_⟩
  unfold unpS mE at w
  cases q : h (mask Δ ρ) with
  | ok d =>
    rw [q] at w
    intro F1 H1 v fv g1 o1 n1 d1
    cases q2 : bindT tg d ρ with
    | none =>
      dsimp only at w
      rw [q2] at w
      exact w.elim
    | some ρ' =>
      dsimp only at w
      rw [q2] at w
      exact tgR_st hi (s.growM g1) o1.1 q2 fun fp' σ' s' => w F1 fp' σ' H1 s'
  | ex x =>
    rw [q] at w
    exact s.excM hp w
  | bad => rw [q] at w; exact w)
/-! ### for -/
def forL (tg : Tg) (b : DEnv → SOut) : List D → DEnv → SOut
  | [], ρ => .next ρ
  | d :: ds, ρ => match bindT tg d ρ with
    | none => .bad
    | some ρ1 => match b ρ1 with
      | .next ρ2 => forL tg b ds ρ2
      | .cont ρ2 => forL tg b ds ρ2
      | .brk ρ2 => .next ρ2
      | o => o
def forS (tg : Tg) (it : DEnv → Out (List D)) (b : DEnv → SOut) : DEnv → SOut := fun ρ => match it ρ with
  | .ok ds => forL tg b ds ρ
  | .ex x => .ex x ρ
  | .bad => .bad
theorem wpS_re {K : PySem.W.Frag} {E : Ent cf.pn} {Fb Hb : Hp} {Δ0 : List Nat} {ρ0 : DEnv} {σ0 : St} {fp0 : List Addr} (b : StOk K cl E Δ0 Fb Hb ρ0 σ0 fp0) {o : SOut} {Dd : Ends} (w : wpS K cl W cf E Δc Δ' o Dd) : wpS K cl W cf (E.re Fb) Δc Δ' o Dd := by
  cases o with
  | next ρ => exact fun F fp σ H s => w F fp σ H (b.unre s)
  | brk ρ => exact fun F fp σ H s => w F fp σ H (b.unre s)
  | cont ρ => exact fun F fp σ H s => w F fp σ H (b.unre s)
  | ret d ρ => exact fun F fp σ H v fv s o a nd => w F fp σ H v fv (b.unre s) o a nd
  | ex x ρ => exact fun F fp σ H c dx fv s o a nd => w F fp σ H c dx fv (b.unre s) o a nd
  | bad => exact w
/-- the loop, from where what is walked stands in F -/
theorem for_core {K : PySem.W.Frag} {E : Ent cf.pn} {b : DEnv → SOut} {J : It} {ds : List D} {Fb Hb : Hp} {ρ0 : DEnv} {σ0 : St} {fp0 : List Addr} {Dd : Ends} (hpn : npn cf.pn (tgIs tg) = true) (hl : setZ (tgIs tg) Δl = Δl) (wk : Walks K cl Fb J ds) (s0 : StOk K cl E Δl Fb Hb ρ0 σ0 fp0) (w0 : wpS K cl W cf E Δc Δl (forL tg b ds ρ0) Dd) :
    ∃ Wi : Nat → Nat → St → Hp → Prop, (∃ m, Wi 0 m σ0 Hb) ∧ ∀ i m σ H, Wi i m σ H →
      (J.stop i H ∧ Dd.nx σ H) ∨ (J.go i H ∧ ∃ N : St → Hp → Prop, (∀ σ' H', N σ' H' → ∃ m', m' < m ∧ Wi (i + 1) m' σ' H') ∧ ∀ x H', J.yld i H x H' → tgR K tg x σ H' fun σ2 H2 => tS K cl W cf Δl Δl Δl b { Dd with nx := N, ct := N, bk := Dd.nx } σ2 H2) := by
  refine ⟨fun i m σ H => m = ds.length - i ∧ i ≤ ds.length ∧ ∃ F ρ fp, StOk K cl (E.re Fb) Δl F H ρ σ fp ∧ wpS K cl W cf (E.re Fb) Δc Δl (forL tg b (ds.drop i) ρ) Dd, ⟨ds.length, by simp, Nat.zero_le _, Fb, ρ0, fp0, s0.re, wpS_re s0 w0⟩, ?_⟩
  rintro i m σ H ⟨rfl, hi, F, ρ, fp, s, w⟩
  by_cases hlt : i < ds.length
  · refine .inr ⟨wk.go H i (s.re1.trans s.le) hlt, _, fun σ' H' p' => ⟨ds.length - (i + 1), by omega, p'⟩, fun x H' y => ?_⟩
    obtain ⟨h1, h2⟩ := wk.yld H i x H' (s.re1.trans s.le) y hlt
    obtain ⟨d, F3, hd, g3, rd⟩ := h2 F s.re1 s.le
    have hdr : ds.drop i = d :: ds.drop (i + 1) := by
      rw [List.drop_eq_getElem_cons hlt]
      congr 1
      exact Option.some.inj ((List.getElem?_eq_getElem hlt).symm.trans hd)
    rw [hdr] at w
    unfold forL at w
    cases hb : bindT tg d ρ with
    | none => rw [hb] at w; exact w.elim
    | some ρ1 =>
      rw [hb] at w
      dsimp only at w
      refine tgR_st hpn (s.growM g3) rd hb fun fp' σ' s' => ?_
      rw [hl] at s'
      refine ⟨E.re Fb, F3, ρ1, fp', s', ?_⟩
      cases q : b ρ1 with
      | next ρ2 =>
        rw [q] at w
        exact fun F4 fp4 σ4 H4 s4 => ⟨rfl, hlt, F4, ρ2, fp4, s4, w⟩
      | cont ρ2 =>
        rw [q] at w
        exact fun F4 fp4 σ4 H4 s4 => ⟨rfl, hlt, F4, ρ2, fp4, s4, w⟩
      | brk ρ2 => rw [q] at w; exact w
      | ret d2 ρ2 => rw [q] at w; exact w
      | ex x2 ρ2 => rw [q] at w; exact w
      | bad => rw [q] at w; exact w
  · have e : i = ds.length := by omega
    subst e
    rw [List.drop_length] at w
    exact .inl ⟨wk.stop H (s.re1.trans s.le), w F fp σ H s⟩
/-- what is walked is seen by what is not ours -/
theorem ds_forM {b : DEnv → SOut} (p : PS X st (tFor (tI X.K cl W it) (tgR X.K tg) (tS X.K cl W cf Δl Δl Δl b))) (hl : setZ (tgIs tg) Δl = Δl) (hpl : ptB Δ Δl = true) (hp : ptB Δ cf.Δr = true) (hpn : npn cf.pn (tgIs tg) = true) : DS X cl W cf Δc Δ st Δl (forS tg (mE Δ it) b) := PS.imp p fun D σ H ⟨E, F, ρ, fp, s, w⟩ => by
  refine ⟨F, mask Δ ρ, s.le, s.mask, ?_⟩
  unfold forS mE at w
  cases q : it (mask Δ ρ) with
  | ok ds =>
    rw [q] at w
    intro F1 H1 J g1 wk
    obtain ⟨F2, fp2, b1, b2, b3, s2⟩ := (s.growM g1).part hpl
    exact for_core hpn hl ⟨fun H i l => wk.go H i (b1.trans l), fun H l => wk.stop H (b1.trans l), fun H i x H' l y hi => by
      obtain ⟨h1, h2⟩ := wk.yld H i x H' (b1.trans l) y hi
      exact ⟨h1, fun Fz f1 f2 => h2 Fz (b1.trans f1) f2⟩⟩ s2 w
  | ex x =>
    rw [q] at w
    exact s.excM hp w
  | bad => rw [q] at w; exact w
/-- all that was ours is given up -/
theorem ds_forZ {b : DEnv → SOut} (p : PS X st (tFor (tI X.K cl W it) (tgR X.K tg) (tS X.K cl W cf (zs Δ) (zs Δ) (zs Δ) b))) (hl : setZ (tgIs tg) (zs Δ) = zs Δ) (hp : ptB Δ cf.Δr = true) (hpn : npn cf.pn (tgIs tg) = true) : DS X cl W cf Δc Δ st (zs Δ) (forS tg it b) := PS.imp p fun D σ H ⟨E, F, ρ, fp, s, w⟩ => by
  refine ⟨_, ρ, ov_h s.le, s.view, ?_⟩
  unfold forS at w
  cases q : it ρ with
  | ok ds =>
    rw [q] at w
    intro F1 H1 J g1 wk
    exact for_core hpn hl wk (s.frz g1 zs_len zs_zero) w
  | ex x =>
    rw [q] at w
    exact s.exc hp w
  | bad => rw [q] at w; exact w
end
/-! ### a list of our own is changed -/
section
variable {K : PySem.W.Frag} {cl : Nat → Addr} {W : WX} {cf : Cf} {E : Ent cf.pn} {Δ Δ' Δc : List Nat} {F H F' H' F1 H1 : Hp} {ρ : DEnv} {σ : St} {fp : List Addr}
/-- the slot i holds a list of ours: it is taken out -/
theorem SRel.take : ∀ {Δ : List Nat} {ρ : DEnv} {σ : St} {fp : List Addr} {i n : Nat} {d : D}, SRel (fun n => Own K cl n F H) Δ ρ σ fp → ρ[i]? = some (some d) → Δ[i]? = some n →
    ∃ v f1 f2 f3, σ[i]? = some (some v) ∧ fp = f1 ++ (f2 ++ f3) ∧ Own K cl n F H d v f2 ∧ ∀ (F' H' : Hp) (d' : D) (v' : V) (g : List Addr), (∀ n d v f, (∀ a ∈ f, a ∈ f1 ++ f3) → Own K cl n F H d v f → Own K cl n F' H' d v f) → Own K cl n F' H' d' v' g → SRel (fun n => Own K cl n F' H') Δ (ρ.set i (some d')) (σ.set i (some v')) (f1 ++ (g ++ f3))
  | [], [], [], _, i, n, d, _, e, _ => by simp at e
  | m :: ns, o :: ρ, s :: σ, _, i, n, d, r, e, e2 => by
    obtain ⟨f1, f2, e1, q, l⟩ := r
    subst e1
    cases i with
    | zero =>
      have e' : o = some d := by simpa using e
      have e2' : m = n := by simpa using e2
      subst e' e2'
      obtain ⟨v, e3, p⟩ := q
      subst e3
      refine ⟨v, [], f1, f2, rfl, rfl, p, fun F' H' d' v' g hk o' => ⟨g, f2, rfl, ⟨v', rfl, o'⟩, SRel.impm (fun n d v f m o => hk n d v f (fun a z => by simpa using m a z) o) l⟩⟩
    | succ i =>
      obtain ⟨v, g1, g2, g3, h1, h2, h3, h4⟩ := SRel.take (i := i) l (by simpa using e) (by simpa using e2)
      subst h2
      refine ⟨v, f1 ++ g1, g2, g3, by simpa using h1, by rw [List.append_assoc], h3, fun F' H' d' v' g hk o' => ?_⟩
      refine ⟨f1, g1 ++ (g ++ g3), by rw [List.append_assoc], ?_, h4 F' H' d' v' g (fun n d v f m o => hk n d v f (fun a z => by
        rcases List.mem_append.mp (m a z) with y | y
        · exact List.mem_append_left _ (List.mem_append_right _ y)
        · exact List.mem_append_right _ y) o) o'⟩
      cases o with
      | none => exact q
      | some d0 =>
        obtain ⟨v0, e3, p⟩ := q
        exact ⟨v0, e3, hk _ _ _ _ (fun a z => List.mem_append_left _ (List.mem_append_left _ z)) p⟩
  | [], _ :: _, _, _, _, _, _, r, _, _ => by cases r
  | [], [], _ :: _, _, _, _, _, r, _, _ => by cases r
  | _ :: _, [], _, _, _, _, _, r, _, _ => by cases r
  | _ :: _, _ :: _, [], _, _, _, _, r, _, _ => by cases r
theorem LRel.nodup {P : D → V → List Addr → Prop} : True := trivial
/-- a list of ours holds other items -/
theorem StOk.putN {i n : Nat} {ds : List D} (s : StOk K cl E Δ F H ρ σ fp) (e : ρ[i]? = some (some (.lst ds))) (e1 : Δ[i]? = some (n + 1)) :
    ∃ l vs fq, σ[i]? = some (some (.ref l)) ∧ H l = some (.lst vs) ∧ LRel (Own K cl n F H) ds vs fq ∧ l ∉ fq ∧ fq.Nodup ∧ (∀ a ∈ fq, a ∈ fp) ∧ l ∈ fp ∧
      ∀ (es : List D) (us : List V) (gq : List Addr), LRel (Own K cl n F H) es us gq → gq.Nodup → l ∉ gq → (∀ a ∈ gq, a ∈ fq ∨ (a ∉ fp ∧ F a = none ∧ (E.H0 a = none ∨ a ∈ E.fp0))) → ∃ fp', StOk K cl E Δ F (upd H l (.lst us)) (ρ.set i (some (.lst es))) σ fp' := by
  obtain ⟨v, f1, f2, f3, h1, h2, h3, h4⟩ := s.sl.take e e1
  obtain ⟨l, vs, fq, e2, e3, e4, e5⟩ := h3
  subst e2 e4
  have nd := s.nd
  rw [h2] at nd
  have nd2 : (l :: fq).Nodup := nodup_l (nodup_r nd)
  have ml : l ∈ fp := by rw [h2]; exact List.mem_append_right _ (List.mem_append_left _ List.mem_cons_self)
  have mq : ∀ a ∈ fq, a ∈ fp := fun a m => by rw [h2]; exact List.mem_append_right _ (List.mem_append_left _ (List.mem_cons_of_mem _ m))
  have fl : F l = none := s.sep l ml
  refine ⟨l, vs, fq, h1, e3, e5, (List.nodup_cons.mp nd2).1, (List.nodup_cons.mp nd2).2, mq, ml, fun es us gq lr ng nl hg => ?_⟩
  have hne : ∀ a ∈ f1 ++ f3, a ≠ l := fun a m e => by
    subst e
    rcases List.mem_append.mp m with m | m
    · exact nodup_d nd m (List.mem_append_left _ List.mem_cons_self)
    · exact nodup_d (nodup_r nd) List.mem_cons_self m
  have S := h4 F (upd H l (.lst us)) (.lst es) (.ref l) (l :: gq) (fun n d v f m o => Own.keep (Same.refl _) (fun a z => upd_ne (hne a (m a z))) o)
    ⟨l, us, gq, rfl, upd_same, rfl, LRel.impm (fun d v f m o => Own.keep (Same.refl _) (fun a z => upd_ne (fun y => nl (y ▸ m a z))) o) lr⟩
  have hset : σ.set i (some (V.ref l)) = σ := by
    apply List.ext_getElem?
    intro j
    by_cases hj : i = j
    · subst hj
      have hlt : i < σ.length := (List.getElem?_eq_some_iff.mp h1).1
      rw [List.getElem?_set_self hlt, h1]
    · rw [List.getElem?_set_ne hj]
  rw [hset] at S
  have dis : ∀ a ∈ gq, a ∉ f1 ∧ a ∉ f3 := fun a m => by
    rcases hg a m with z | z
    · exact ⟨fun y => nodup_d nd y (List.mem_append_left _ (List.mem_cons_of_mem _ z)), nodup_d (nodup_r nd) (List.mem_cons_of_mem _ z)⟩
    · exact ⟨fun y => z.1 (by rw [h2]; exact List.mem_append_left _ y), fun y => z.1 (by rw [h2]; exact List.mem_append_right _ (List.mem_append_right _ y))⟩
  refine ⟨f1 ++ ((l :: gq) ++ f3), fun a o z => ?_, fun a m => ?_, nodup_app (nodup_l nd) (nodup_app (List.nodup_cons.mpr ⟨nl, ng⟩) (nodup_r (nodup_r nd)) fun a m m3 => ?_) fun a m m2 => ?_, S, fun a o z m => ?_, s.f0, s.nwF, fun a m => ?_, s.pn⟩
  · rw [upd_ne (fun y => by subst y; rw [fl] at z; cases z)]
    exact s.le a o z
  · rcases List.mem_append.mp m with m | m
    · exact s.sep a (by rw [h2]; exact List.mem_append_left _ m)
    · rcases List.mem_append.mp m with m | m
      · rcases List.mem_cons.mp m with m | m
        · subst m; exact fl
        · exact (hg a m).elim (fun z => s.sep a (mq a z)) fun z => z.2.1
      · exact s.sep a (by rw [h2]; exact List.mem_append_right _ (List.mem_append_right _ m))
  · rcases List.mem_cons.mp m with m | m
    · subst m
      exact nodup_d (nodup_r nd) List.mem_cons_self m3
    · exact (dis a m).2 m3
  · rcases List.mem_append.mp m2 with m2 | m2
    · rcases List.mem_cons.mp m2 with m2 | m2
      · subst m2
        exact nodup_d nd m (List.mem_append_left _ List.mem_cons_self)
      · exact (dis a m2).1 m
    · exact nodup_d nd m (List.mem_append_right _ m2)
  · rw [upd_ne (fun y => by
      subst y
      rcases s.nwO a ml with w | w
      · rw [w] at z; cases z
      · exact m w)]
    exact s.keep a o z m
  · rcases List.mem_append.mp m with m | m
    · exact s.nwO a (by rw [h2]; exact List.mem_append_left _ m)
    · rcases List.mem_append.mp m with m | m
      · rcases List.mem_cons.mp m with m | m
        · subst m; exact s.nwO a ml
        · exact (hg a m).elim (fun z => s.nwO a (mq a z)) fun z => z.2.2
      · exact s.nwO a (by rw [h2]; exact List.mem_append_right _ (List.mem_append_right _ m))
theorem LRel.snoc {P : D → V → List Addr → Prop} {y : D} {v : V} {fy : List Addr} (p : P y v fy) : ∀ {zs : List D} {us : List V} {fu : List Addr}, LRel P zs us fu → LRel P (zs ++ [y]) (us ++ [v]) (fu ++ fy)
  | [], us, fu, r => by
    rw [r.1, r.2]
    exact ⟨v, [], fy, [], rfl, by simp, p, rfl, rfl⟩
  | z :: zs, us, fu, r => by
    obtain ⟨u, t, f1, f2, e1, e2, p1, l1⟩ := r
    subst e1 e2
    exact ⟨u, t ++ [v], f1, f2 ++ fy, rfl, List.append_assoc .., p1, LRel.snoc p l1⟩
theorem LRel.get {P : D → V → List Addr → Prop} : ∀ {ds : List D} {vs : List V} {fp : List Addr} {i : Nat} {d : D}, LRel P ds vs fp → ds[i]? = some d → ∃ v f, vs[i]? = some v ∧ P d v f ∧ ∀ a ∈ f, a ∈ fp
  | [], _, _, i, d, _, e => by simp at e
  | d0 :: ds, _, _, i, d, r, e => by
    obtain ⟨v, t, f1, f2, e1, e2, p, l⟩ := r
    subst e1 e2
    cases i with
    | zero =>
      have e' : d0 = d := by simpa using e
      subst e'
      exact ⟨v, f1, rfl, p, fun a m => List.mem_append_left _ m⟩
    | succ i =>
      obtain ⟨w, f, h1, h2, h3⟩ := LRel.get (i := i) l (by simpa using e)
      exact ⟨w, f, by simpa using h1, h2, fun a m => List.mem_append_right _ (h3 a m)⟩
/-- an item is stored -/
theorem LRel.set {P : D → V → List Addr → Prop} {y : D} {v : V} {fy : List Addr} (p : P y v fy) (ny : fy.Nodup) : ∀ {ds : List D} {vs : List V} {fp : List Addr} {i : Nat}, LRel P ds vs fp → fp.Nodup → (∀ a ∈ fy, a ∉ fp) → ∃ fp', LRel P (ds.set i y) (vs.set i v) fp' ∧ fp'.Nodup ∧ ∀ a ∈ fp', a ∈ fp ∨ a ∈ fy
  | [], vs, fp, i, r, nd, _ => ⟨fp, by rw [r.1]; exact ⟨rfl, r.2⟩, nd, fun a m => .inl m⟩
  | d0 :: ds, _, _, i, r, nd, hd => by
    obtain ⟨u, t, f1, f2, e1, e2, q, l⟩ := r
    subst e1 e2
    cases i with
    | zero =>
      refine ⟨fy ++ f2, ⟨v, t, fy, f2, rfl, rfl, p, l⟩, nodup_app ny (nodup_r nd) fun a z z2 => hd a z (List.mem_append_right _ z2), fun a z => ?_⟩
      rcases List.mem_append.mp z with z | z
      · exact .inr z
      · exact .inl (List.mem_append_right _ z)
    | succ i =>
      obtain ⟨fp', h1, h2, h3⟩ := LRel.set (i := i) p ny l (nodup_r nd) fun a z z2 => hd a z (List.mem_append_right _ z2)
      refine ⟨f1 ++ fp', ⟨u, t.set i v, f1, fp', rfl, rfl, q, h1⟩, nodup_app (nodup_l nd) h2 fun a z z2 => ?_, fun a z => ?_⟩
      · rcases h3 a z2 with w | w
        · exact nodup_d nd z w
        · exact hd a w (List.mem_append_left _ z)
      · rcases List.mem_append.mp z with z | z
        · exact .inl (List.mem_append_left _ z)
        · rcases h3 a z with w | w
          · exact .inl (List.mem_append_right _ w)
          · exact .inr w
end
/-! ### x.append(e), x[k] = e -/
section
variable {X : Cx} {cl : Nat → Addr} {W : WX} {cf : Cf} {Δc Δ Δ' Δ1 Δl : List Nat} {st : Stmt} {h k : DEnv → Out D} {n i : Nat}
def appG (i n : Nat) (ok : D → Bool) (h : DEnv → Out D) (hs : DEnv → DEnv) : DEnv → SOut := fun ρ => match ρ[i]? with
  | some (some (.lst ds)) => (match h (hs ρ) with
    | .ok d => if ok d = true ∧ ds.length < sizeLine then .next (ρ.set i (some (.lst (ds ++ [d])))) else .bad
    | .ex x => .ex x ρ
    | .bad => .bad)
  | _ => .bad
/-- e sees but what is not ours -/
def appM (Δ : List Nat) (i : Nat) (h : DEnv → Out D) : DEnv → SOut := appG i 0 (fun _ => true) h (mask Δ)
/-- e's value stands apart -/
def appI (n i : Nat) (h : DEnv → Out D) : DEnv → SOut := appG i n (immAt n) h id
theorem ds_appM (p : PS X st (tDrop (tBM X.K "list" rAppend (tVar i) (tCons (tE X.K cl W n h) tNil)))) (e1 : Δ[i]? = some (n + 1)) (hp : ptB Δ cf.Δr = true) : DS X cl W cf Δc Δ st Δ (appM Δ i h) := PS.imp p fun D σ H ⟨E, F, ρ, fp, s, w⟩ => by
  unfold appM appG at w
  cases q : ρ[i]? with
  | none => rw [q] at w; exact w.elim
  | some o =>
    rw [q] at w
    match o, q, w with
    | some (.lst ds), q, w =>
      dsimp only at w
      obtain ⟨l, vs, fq, h1, h2, _⟩ := s.putN q e1
      refine ⟨.ref l, h1, .inl ⟨rfl, vs, SqL.of h2⟩, F, mask Δ ρ, s.le, s.mask, ?_⟩
      cases q2 : h (mask Δ ρ) with
      | ok d =>
        rw [q2] at w
        dsimp only at w
        intro F1 H1 v fv g1 o1 n1 d1
        by_cases c : true = true ∧ ds.length < sizeLine
        · rw [if_pos c] at w
          have s1 := s.growM g1
          have a1 := s.apartM n1
          obtain ⟨l', vs', fq', h1', h2', lr, nl, nd, sub, ml, put⟩ := s1.putN q e1
          have el : l' = l := by
            rw [h1] at h1'
            exact ((V.ref.inj (Option.some.inj (Option.some.inj h1'))).symm)
          subst el
          obtain ⟨fp', s2⟩ := put (ds ++ [d]) (vs' ++ [v]) (fq' ++ fv) (LRel.snoc o1 lr) (nodup_app nd d1 fun a m m2 => (a1 a m2).1 (sub a m)) (fun m => by
            rcases List.mem_append.mp m with m | m
            · exact nl m
            · exact (a1 _ m).1 ml) fun a m => by
            rcases List.mem_append.mp m with m | m
            · exact .inl m
            · exact .inr (a1 a m)
          exact ⟨l', vs', v, rfl, rfl, h2', by rw [← LRel.length lr]; exact c.2, w F1 fp' σ _ s2⟩
        · rw [if_neg c] at w
          exact w.elim
      | ex x =>
        rw [q2] at w
        exact s.excM hp w
      | bad => rw [q2] at w; exact w
theorem ds_appI (p : PS X st (tDrop (tBM X.K "list" rAppend (tVar i) (tCons (tE X.K cl W n h) tNil)))) (e1 : Δ[i]? = some (n + 1)) (hp : ptB Δ cf.Δr = true) : DS X cl W cf Δc Δ st Δ (appI n i h) := PS.imp p fun D σ H ⟨E, F, ρ, fp, s, w⟩ => by
  unfold appI appG at w
  cases q : ρ[i]? with
  | none => rw [q] at w; exact w.elim
  | some o =>
    rw [q] at w
    match o, q, w with
    | some (.lst ds), q, w =>
      dsimp only [id] at w
      obtain ⟨l, vs, fq, h1, h2, _⟩ := s.putN q e1
      refine ⟨.ref l, h1, .inl ⟨rfl, vs, SqL.of h2⟩, _, ρ, ov_h s.le, s.view, ?_⟩
      cases q2 : h ρ with
      | ok d =>
        rw [q2] at w
        dsimp only at w
        intro F1 H1 v fv g1 o1 n1 d1
        by_cases c : immAt n d = true ∧ ds.length < sizeLine
        · rw [if_pos c] at w
          have s1 := s.grow g1
          obtain ⟨o2, a1⟩ := s.apart g1 o1 n1 c.1
          obtain ⟨l', vs', fq', h1', h2', lr, nl, nd, sub, ml, put⟩ := s1.putN q e1
          have el : l' = l := by
            rw [h1] at h1'
            exact ((V.ref.inj (Option.some.inj (Option.some.inj h1'))).symm)
          subst el
          obtain ⟨fp', s2⟩ := put (ds ++ [d]) (vs' ++ [v]) (fq' ++ fv) (LRel.snoc o2 lr) (nodup_app nd d1 fun a m m2 => (a1 a m2).1 (sub a m)) (fun m => by
            rcases List.mem_append.mp m with m | m
            · exact nl m
            · exact (a1 _ m).1 ml) fun a m => by
            rcases List.mem_append.mp m with m | m
            · exact .inl m
            · exact .inr (a1 a m)
          exact ⟨l', vs', v, rfl, rfl, h2', by rw [← LRel.length lr]; exact c.2, w _ fp' σ _ s2⟩
        · rw [if_neg c] at w
          exact w.elim
      | ex x =>
        rw [q2] at w
        exact s.exc hp w
      | bad => rw [q2] at w; exact w
/-- x[k] = e: e's value stands apart, k's is a number -/
def putI (n i : Nat) (h k : DEnv → Out D) : DEnv → SOut := fun ρ => match h ρ with
  | .ok d => if immAt n d = true then (match ρ[i]? with
    | some (some (.lst ds)) => (match k ρ with
      | .ok (.int j) => (match ixN ds.length j with
        | some m => .next (ρ.set i (some (.lst (ds.set m d))))
        | none => .bad)
      | _ => .bad)
    | _ => .bad) else .bad
  | .ex x => .ex x ρ
  | .bad => .bad
theorem ds_putI (p : PS X st (tAsg (tE X.K cl W n h) (gSub (tVar i) (tE X.K cl W 0 k) rSetL))) (e1 : Δ[i]? = some (n + 1)) (hp : ptB Δ cf.Δr = true) : DS X cl W cf Δc Δ st Δ (putI n i h k) := PS.imp p fun D σ H ⟨E, F, ρ, fp, s, w⟩ => by
  unfold putI at w
  refine ⟨_, ρ, ov_h s.le, s.view, ?_⟩
  cases q2 : h ρ with
  | ok d =>
    rw [q2] at w
    dsimp only at w
    intro F1 H1 v fv g1 o1 n1 d1
    by_cases c : immAt n d = true
    · rw [if_pos c] at w
      have s1 := s.grow g1
      obtain ⟨o2, a1⟩ := s.apart g1 o1 n1 c
      cases q : ρ[i]? with
      | none => rw [q] at w; exact w.elim
      | some o =>
        rw [q] at w
        match o, q, w with
        | some (.lst ds), q, w =>
          dsimp only at w
          obtain ⟨l, vs, fq, h1, h2, _⟩ := s1.putN q e1
          refine ⟨.ref l, h1, _, ρ, ov_h s1.le, s1.view, ?_⟩
          cases q3 : k ρ with
          | ex x => rw [q3] at w; exact w.elim
          | bad => rw [q3] at w; exact w
          | ok kd =>
            rw [q3] at w
            cases kd with
            | int j =>
              dsimp only at w
              refine wpE.ok0 fun F2 H2 u g2 o3 => ?_
              cases o3
              cases q4 : ixN ds.length j with
              | none => rw [q4] at w; exact w.elim
              | some m =>
                rw [q4] at w
                have s2 := s1.grow g2
                obtain ⟨l', vs', fq', h1', h2', lr, nl, nd, sub, ml, put⟩ := s2.putN q e1
                have el : l' = l := by
                  rw [h1] at h1'
                  exact ((V.ref.inj (Option.some.inj (Option.some.inj h1'))).symm)
                subst el
                have hl := LRel.length lr
                have o4 : Own X.K cl n (jn (jn F (tpo F1)) (tpo F2)) H2 d v fv := Own.same (jn_l _ _) g2.h o2
                have ob : ∀ a ∈ fv, H1 a ≠ none := fun a m => (o2.ob a m).some
                have a2 : ∀ a ∈ fv, a ∉ fp ∧ jn (jn F (tpo F1)) (tpo F2) a = none ∧ (E.H0 a = none ∨ a ∈ E.fp0) := fun a m => ⟨(a1 a m).1, by
                  rw [jn_none (a1 a m).2.1]
                  exact tpo_ob g2.le (by
                    have z := o2.ob a m
                    cases y : H1 a with
                    | none => exact absurd y z.some
                    | some o => rw [g2.h a o y, ← y]; exact z), (a1 a m).2.2⟩
                obtain ⟨gq, b1, b2, b3⟩ := LRel.set (i := m) o4 d1 lr nd fun a z z2 => (a2 a z).1 (sub a z2)
                obtain ⟨fp', s3⟩ := put (ds.set m d) (vs'.set m v) gq b1 b2 (fun z => by
                  rcases b3 _ z with y | y
                  · exact nl y
                  · exact (a2 _ y).1 ml) fun a z => by
                  rcases b3 a z with y | y
                  · exact .inl y
                  · exact .inr (a2 a y)
                exact ⟨l', vs', j, m, rfl, rfl, h2', by rw [← hl]; exact q4, w _ fp' σ _ s3⟩
            | _ => exact w.elim
    · rw [if_neg c] at w
      exact w.elim
  | ex x =>
    rw [q2] at w
    exact s.exc hp w
  | bad => rw [q2] at w; exact w
end
end DL

namespace DL
open PySem PySem.Spec PyProof.Rows L2
/-! ### defs and their calls -/
def spD (K : PySem.W.Frag) (cl : Nat → Addr) (r : Nat) (h : List D → Out D) : Sp := fun vs H Q E => ∃ F ds, Same F H ∧ RepL K cl F ds vs ∧ wpE K cl r (h ds) F H Q E
def fnD (n N : Nat) (b : DEnv → SOut) : List D → Out D := fun ds => if ds.length = n then (match b (ds.map some ++ List.replicate (N - n) none) with
  | .ret d _ => .ok d
  | .next _ => .ok .non
  | .ex x _ => .ex x
  | _ => .bad) else .bad
/-- a def of the text, as the head tells it -/
structure Def0 (K : PySem.W.Frag) (mg : Str → Option Value) (x : Str) (params : Arguments) (body : List Stmt) (scope : Scope) (dvs : List V) : Prop where
  ex : ∃ f fd, FunD K x x params body scope dvs [] f fd ∧ mg x = some (.ref f)
/-- a def that may be called -/
structure Cal (P : Program) (w : World) (K : PySem.W.Frag) (mg : Str → Option Value) (base : Heap) (x : Str) (k : Nat) (sp : Sp) : Prop where
  ex : ∃ f fd ps, FnOk P w K mg base (L2N.CX P w) k f fd ps sp ∧ mg x = some (.ref f) ∧ PySem.W.keepIn K (.ref f) = true ∧ Binds K fd ps []
section
variable {P : Program} {w : World} {K : PySem.W.Frag} {mg : Str → Option Value} {base : Heap} {cl : Nat → Addr}
theorem srel0 {F H : Hp} : ∀ {ds : List D} {vs : List V} {m : Nat}, RepL K cl F ds vs → SRel (fun n => Own K cl n F H) (List.replicate (ds.length + m) 0) (ds.map some ++ List.replicate m none) (vs.map some ++ List.replicate m none) []
  | [], vs, 0, r => by rw [show vs = [] from r]; exact rfl
  | [], vs, m + 1, r => by
    have ih := srel0 (H := H) (m := m) r
    rw [show vs = [] from r] at ih ⊢
    rw [show ([] : List D).length + (m + 1) = ([] : List D).length + m + 1 from rfl, List.replicate_succ, List.replicate_succ, List.replicate_succ]
    exact ⟨[], [], rfl, rfl, ih⟩
  | d :: ds, vs, m, r => by
    obtain ⟨v, t, e, q, l⟩ := r
    subst e
    rw [show (d :: ds).length + m = (ds.length + m) + 1 by rw [List.length_cons]; omega, List.replicate_succ]
    exact ⟨[], [], rfl, ⟨v, rfl, q, rfl⟩, srel0 l⟩
/-- an entry where nothing is ours -/
def Ent.of (F H : Hp) : Ent [] := ⟨F, H, [], [], fun p m => by cases m⟩
theorem wpS_fn {F H : Hp} {Δ' Δz : List Nat} {r : Nat} {o : SOut} {Q : VK} {E : XK} (hz : True) (w : wpE K cl r (match o with
  | .ret d _ => .ok d
  | .next _ => .ok .non
  | .ex x _ => .ex x
  | _ => .bad) F H Q E) : wpS K cl (fun c d _ H => E c d H) ⟨r, Δz, []⟩ (Ent.of F H) Δz Δ' o { nx := fun _ H' => Q .non H', rt := Q } := by
  have gr : ∀ {Δ : List Nat} {F' H' : Hp} {ρ : DEnv} {σ : St} {fp : List Addr}, StOk K cl (Ent.of F H) Δ F' H' ρ σ fp → Gr F H F' H' := fun s => ⟨s.f0, fun a o e => s.keep a o e (by intro m; cases m), s.le, fun a e n => (s.nwF a e n).elim id (fun m => by cases m)⟩
  cases o with
  | next ρ => exact fun F' fp σ H' s => wpE.val w (gr s) Own.nonn
  | ret d ρ => exact fun F' fp σ H' v fv s o a nd => w F' H' v fv (gr s) o (fun b m => ⟨(a b m).2.2.elim id (fun z => by cases z), (a b m).2.1⟩) nd
  | ex x ρ => exact fun F' fp σ H' c dx fv s e a nd => w F' H' c dx fv (gr s) e (fun b m => ⟨(a b m).2.2.elim id (fun z => by cases z), (a b m).2.1⟩) nd
  | brk ρ => exact w.elim
  | cont ρ => exact w.elim
  | bad => exact w
theorem spD_len {r n N : Nat} {b : DEnv → SOut} (vs : List V) (H : Hp) (Q : VK) (E : XK) (h : spD K cl r (fnD n N b) vs H Q E) : vs.length = n := by
  obtain ⟨F, ds, l, rl, w⟩ := h
  unfold fnD at w
  by_cases c : ds.length = n
  · rw [← rl.length]
    exact c
  · rw [if_neg c] at w
    exact w.elim
/-- a def keeps its promise, by its body -/
theorem cal_of {x : Str} {params : Arguments} {body : List Stmt} {scope : Scope} {N ps : List Str} {k r : Nat} {b : DEnv → SOut} {Δ' : List Nat} (D0 : Def0 K mg x params body scope []) (S : FnScope N ps scope)
    (hbind : ∀ (kV doc pm : Value) (an : Option Addr) (cdv ct : Value) (us : List Value), us.length = ps.length → bindArgs (PySem.W.fnOf x x params body scope .none kV doc pm an cdv ct) ⟨us, []⟩ = pure (ps.zip us))
    (hb : ∀ (f : Addr) (cdv : Value) (A : Around) (outer : List Env) (s : Shared) (H : Hp) (E : XK), Room k (A.deeper (envOfC x scope s.heap.objs.size f cdv)) →
      DSs (cxOf (L2N.CX P w) P w K mg base N x scope f cdv A outer s H E) cl (fun c d _ H => E c d H) ⟨r, List.replicate N.length 0, []⟩ (List.replicate N.length 0) (List.replicate N.length 0) body Δ' b) :
    Cal P w K mg base x (k + 1) (spD K cl r (fnD ps.length N.length b)) := by
  obtain ⟨f, fd, F, hm⟩ := D0.ex
  refine ⟨f, fd, ps, F.ok S spD_len (fun cdv A outer s H vs Q E hr hsp => ⟨_, hb f cdv A outer s H E hr, ?_⟩), hm, F.kp, F.bindsN hbind⟩
  have hl := spD_len _ _ _ _ hsp
  obtain ⟨F, ds, l, rl, w⟩ := hsp
  have hle : ps.length ≤ N.length := by
    have e := congrArg List.length S.pre
    rw [List.length_take] at e
    omega
  have hd : ds.length = ps.length := by rw [rl.length]; exact hl
  unfold fnD at w
  rw [if_pos hd] at w
  refine ⟨Ent.of F H, F, ds.map some ++ List.replicate (N.length - ps.length) none, [], ⟨l, (fun a m => by cases m), List.nodup_nil, ?_, fun a o e _ => e, Same.refl F, fun _ e n => absurd e n, (fun a m => by cases m), (fun p m => by cases m)⟩, wpS_fn trivial w⟩
  have z := srel0 (H := H) (m := N.length - ps.length) rl
  rw [show ds.length + (N.length - ps.length) = N.length by omega] at z
  unfold L2.start
  rw [hl]
  exact z
end
section
variable {X : Cx} {cl : Nat → Addr} {W : WX} {e : Expr} {es : List Expr} {r k j : Nat} {t : DEnv → Out (List D)} {h : List D → Out D} {x : Str} {p pos : Pos}
/-- what a callee may let out is what is wished for here -/
def Tk (X : Cx) (W : WX) : Prop := ∀ σ, PassesAt (L2N.CX X.prog X.w) X σ (WE W σ)
theorem tk_of (tk : L2N.Takes X W) : Tk X W := fun σ => L2N.passAt tk σ
theorem tk0 : Tk X W0 := fun σ pins H s e s' I c => by
  obtain ⟨_, _, _, _, _, _, _, _, _, _, _, _, z⟩ := c
  exact z.elim
theorem de_call (C : Cal X.prog X.w X.K X.mg X.base x k (spD X.K cl r h)) (hr : Room k X.A) (hg : Gl X x) (tk : Tk X W) (ha : DA X cl W (e :: es) 0 t)
    (hdb : (x == ("__debug__" : Str)) = false := by decide) (he : starEach (e :: es) X.env = (false, eval e X.env) :: starEach es X.env := by rfl) (hpl : (backTo pos (starEach es X.env)).any (·.1) = false := by rfl) : DE X cl W (.Call (.Name x p) (e :: es) [] pos) r (callE h t) := by
  obtain ⟨f, fd, ps, F, hm, hk, hb⟩ := C.ex
  exact PE.imp (pe_callS F hr hg hm hk hb tk ha hdb he hpl) fun σ H Q ⟨F, ρ, l, s, w⟩ => ⟨F, ρ, l, s, w.bndA fun ds F1 H1 vs g q w1 => ⟨F1, ds, g.le, q, w1⟩⟩
end
/-! ### built-ins -/
section
variable {K : PySem.W.Frag} {cl : Nat → Addr} {X : Cx} {W : WX} {e : Expr} {f : DEnv → Out D} {r : Nat}
def lenF : List D → Out D
  | [.lst xs] => .ok (.int xs.length)
  | [.tup xs] => .ok (.int xs.length)
  | [.str z] => if z.length ≤ sizeLine then .ok (.int z.length) else .bad
  | _ => .bad
abbrev rLen' (K : PySem.W.Frag) : List V → Hp → VK → Prop := fun xs H Q => ∃ x n, xs = [x] ∧ LenV K x H n ∧ Q (.int n) H
theorem sp_len : CalD K cl (rLen' K) r lenF := fun ds vs F H Q EX l hr w => by
  cases ds with
  | nil => exact w.elim
  | cons d tl =>
    cases tl with
    | cons _ _ => exact (show False by cases d <;> exact w).elim
    | nil =>
      obtain ⟨v, t, e, q, q2⟩ := hr
      rw [show t = [] from q2] at e
      subst e
      cases d with
      | lst xs =>
        obtain ⟨a, us, rfl, ha, hl⟩ := q
        exact ⟨.ref a, us.length, rfl, .inl ⟨us, SqL.of (l _ _ ha), rfl⟩, by rw [← hl.length]; exact wpE.val w (Gr.refl l) Own.intt⟩
      | tup xs =>
        obtain ⟨a, us, rfl, ha, hl⟩ := q
        exact ⟨.ref a, us.length, rfl, .inr ⟨us, (Le.of l).sqT ha, rfl⟩, by rw [← hl.length]; exact wpE.val w (Gr.refl l) Own.intt⟩
      | str z =>
        cases q
        have w' : wpE K cl r (if z.length ≤ sizeLine then .ok (.int z.length) else .bad) F H Q EX := w
        by_cases c : z.length ≤ sizeLine
        · rw [if_pos c] at w'
          exact ⟨.str z, z.length, rfl, ⟨c, rfl⟩, wpE.val w' (Gr.refl l) Own.intt⟩
        · rw [if_neg c] at w'
          exact w'.elim
      | _ => exact w.elim
/-- two numbers -/
def int2 (g : Int → Int → Int) : List D → Out D
  | [.int i, .int j] => .ok (.int (g i j))
  | _ => .bad
theorem sp_int2 {g : Int → Int → Int} : CalD K cl (fun xs H Q => ∃ i j, xs = [.int i, .int j] ∧ Q (.int (g i j)) H) r (int2 g) := fun ds vs F H Q EX l hr w => by
  cases ds with
  | nil => exact w.elim
  | cons d tl =>
    cases tl with
    | nil => exact (show False by cases d <;> exact w).elim
    | cons d2 tl2 =>
      cases tl2 with
      | cons _ _ => exact (show False by cases d <;> cases d2 <;> exact w).elim
      | nil =>
        obtain ⟨v, t, e, q, v2, t2, e2, q2, q3⟩ := hr
        rw [show t2 = [] from q3] at e2
        subst e2 e
        cases d with
        | int i =>
          cases d2 with
          | int j =>
            cases q
            cases q2
            exact ⟨i, j, rfl, wpE.val w (Gr.refl l) Own.intt⟩
          | _ => exact w.elim
        | _ => exact (show False by cases d2 <;> exact w).elim
def maxF := int2 fun i j => if j > i then j else i
def minF := int2 fun i j => if j < i then j else i
/-- one thing -/
def one1 (g : D → Out D) : List D → Out D
  | [d] => g d
  | _ => .bad
theorem sp_one {op : V → Hp → VK → Prop} {g : D → Out D} (h : ∀ (d : D) (v : V) (F H : Hp) (Q : VK) (EX : XW), Same F H → Rep K cl F d v → wpE K cl r (g d) F H Q EX → op v H Q) : CalD K cl (fun xs H Q => ∃ x, xs = [x] ∧ op x H Q) r (one1 g) := fun ds vs F H Q EX l hr w => by
  cases ds with
  | nil => exact w.elim
  | cons d tl =>
    cases tl with
    | cons _ _ => exact w.elim
    | nil =>
      obtain ⟨v, t, e, q, q2⟩ := hr
      rw [show t = [] from q2] at e
      exact ⟨v, e, h d v F H Q EX l q w⟩
def strF : D → Out D
  | .int i => if i.natAbs.log2 < 1920 then .ok (.str (toString i)) else .bad
  | _ => .bad
theorem sp_str : CalD K cl (fun xs H Q => ∃ i : Int, xs = [.int i] ∧ i.natAbs.log2 < 1920 ∧ Q (.str (toString i)) H) r (one1 strF) := fun ds vs F H Q EX l hr w => by
  obtain ⟨x, e, i, h1, h2, h3⟩ := sp_one (op := fun x H Q => ∃ i : Int, x = .int i ∧ i.natAbs.log2 < 1920 ∧ Q (.str (toString i)) H) (fun d v F H Q EX l q w => by
    cases d with
    | int i =>
      cases q
      have w' : wpE K cl r (if i.natAbs.log2 < 1920 then .ok (.str (toString i)) else .bad) F H Q EX := w
      by_cases c : i.natAbs.log2 < 1920
      · rw [if_pos c] at w'
        exact ⟨i, rfl, c, wpE.val w' (Gr.refl l) Own.strr⟩
      · rw [if_neg c] at w'
        exact w'.elim
    | _ => exact w.elim) ds vs F H Q EX l hr w
  subst h1
  exact ⟨i, e, h2, h3⟩
def listF : D → Out D
  | .lst xs => .ok (.lst xs)
  | .tup xs => .ok (.lst xs)
  | _ => .bad
theorem sp_list : CalD K cl (fun xs H Q => ∃ p ys, xs = [.ref p] ∧ (SqL K H p ys ∨ SqT K H p ys) ∧ ∀ l, H l = none → Q (.ref l) (upd H l (.lst ys))) 1 (one1 listF) := fun ds vs F H Q EX l hr w => by
  obtain ⟨x, e, p, ys, h1, h2, h3⟩ := sp_one (op := fun x H Q => ∃ p ys, x = .ref p ∧ (SqL K H p ys ∨ SqT K H p ys) ∧ ∀ l, H l = none → Q (.ref l) (upd H l (.lst ys))) (fun d v F H Q EX l q w => by
    cases d with
    | lst xs =>
      obtain ⟨a, us, rfl, ha, hl⟩ := q
      exact ⟨a, us, rfl, .inl (SqL.of (l _ _ ha)), fun p hp => wpE.newL (o := .non) w l hl hp⟩
    | tup xs =>
      obtain ⟨a, us, rfl, ha, hl⟩ := q
      exact ⟨a, us, rfl, .inr ((Le.of l).sqT ha), fun p hp => wpE.newL (o := .non) w l hl hp⟩
    | _ => exact w.elim) ds vs F H Q EX l hr w
  subst h1
  exact ⟨p, ys, e, h2, h3⟩
def tupleF : D → Out D
  | .lst xs => .ok (.tup xs)
  | .tup xs => .ok (.tup xs)
  | _ => .bad
theorem sp_tuple : CalD K cl (fun xs H Q => ∃ p ys, xs = [.ref p] ∧ ((SqL K H p ys ∧ ∀ l, H l = none → Q (.ref l) (upd H l (.tup ys))) ∨ (SqT K H p ys ∧ Q (.ref p) H))) 1 (one1 tupleF) := fun ds vs F H Q EX l hr w => by
  obtain ⟨x, e, p, ys, h1, h2⟩ := sp_one (op := fun x H Q => ∃ p ys, x = .ref p ∧ ((SqL K H p ys ∧ ∀ l, H l = none → Q (.ref l) (upd H l (.tup ys))) ∨ (SqT K H p ys ∧ Q (.ref p) H))) (fun d v F H Q EX l q w => by
    cases d with
    | lst xs =>
      obtain ⟨a, us, rfl, ha, hl⟩ := q
      exact ⟨a, us, rfl, .inl ⟨SqL.of (l _ _ ha), fun p hp => wpE.newT w l hl hp⟩⟩
    | tup xs =>
      have q0 := q
      obtain ⟨a, us, rfl, ha, hl⟩ := q
      exact ⟨a, us, rfl, .inr ⟨(Le.of l).sqT ha, wpE.val w (Gr.refl l) (Own.tupp q0)⟩⟩
    | _ => exact w.elim) ds vs F H Q EX l hr w
  subst h1
  exact ⟨p, ys, e, h2⟩
/-- all(list of truths) -/
def blsOf : List D → Option (List Bool)
  | [] => some []
  | .bl b :: ds => (blsOf ds).map (b :: ·)
  | _ => none
theorem blsOf_rep {F : Hp} : ∀ {ds : List D} {vs : List V} {bs : List Bool}, blsOf ds = some bs → RepL K cl F ds vs → vs = bs.map V.bl
  | [], vs, bs, e, r => by
    have e' : bs = [] := by
      have : some ([] : List Bool) = some bs := e
      injection this with h
      exact h.symm
    rw [e', show vs = [] from r] <;> rfl
  | d :: ds, vs, bs, e, r => by
    obtain ⟨v, t, e1, q, l⟩ := r
    cases d with
    | bl b =>
      cases h : blsOf ds with
      | none =>
        have e' : (blsOf ds).map (b :: ·) = some bs := e
        rw [h] at e'
        cases e'
      | some cs =>
        have e' : (blsOf ds).map (b :: ·) = some bs := e
        rw [h] at e'
        have e2 : b :: cs = bs := Option.some.inj e'
        cases q
        rw [e1, ← e2, List.map_cons, blsOf_rep h l]
    | _ => cases e
def allF : D → Out D
  | .lst xs => match blsOf xs with
    | some bs => .ok (.bl (bs.all id))
    | none => .bad
  | _ => .bad
def anyF : D → Out D
  | .lst xs => match blsOf xs with
    | some bs => .ok (.bl (bs.any id))
    | none => .bad
  | _ => .bad
theorem sp_all : CalD K cl (rAll K) r (one1 allF) := fun ds vs F H Q EX l hr w => by
  obtain ⟨x, e, a, bs, h1, h2⟩ := sp_one (op := fun x H Q => ∃ (a : Addr) (bs : List Bool), x = .ref a ∧ SqL K H a (bs.map V.bl) ∧ Q (.bl (bs.all id)) H) (fun d v F H Q EX l q w => by
    cases d with
    | lst xs =>
      obtain ⟨a, us, rfl, ha, hl⟩ := q
      have w' : wpE K cl r (match blsOf xs with | some bs => .ok (.bl (bs.all id)) | none => .bad) F H Q EX := w
      cases c : blsOf xs with
      | none => rw [c] at w'; exact w'.elim
      | some bs =>
        rw [c] at w'
        rw [blsOf_rep c hl] at ha
        exact ⟨a, bs, rfl, SqL.of (l _ _ ha), wpE.val w' (Gr.refl l) Own.bll⟩
    | _ => exact w.elim) ds vs F H Q EX l hr w
  subst h1
  exact ⟨a, bs, e, h2⟩
theorem sp_any : CalD K cl (rAny K) r (one1 anyF) := fun ds vs F H Q EX l hr w => by
  obtain ⟨x, e, a, bs, h1, h2⟩ := sp_one (op := fun x H Q => ∃ (a : Addr) (bs : List Bool), x = .ref a ∧ SqL K H a (bs.map V.bl) ∧ Q (.bl (bs.any id)) H) (fun d v F H Q EX l q w => by
    cases d with
    | lst xs =>
      obtain ⟨a, us, rfl, ha, hl⟩ := q
      have w' : wpE K cl r (match blsOf xs with | some bs => .ok (.bl (bs.any id)) | none => .bad) F H Q EX := w
      cases c : blsOf xs with
      | none => rw [c] at w'; exact w'.elim
      | some bs =>
        rw [c] at w'
        rw [blsOf_rep c hl] at ha
        exact ⟨a, bs, rfl, SqL.of (l _ _ ha), wpE.val w' (Gr.refl l) Own.bll⟩
    | _ => exact w.elim) ds vs F H Q EX l hr w
  subst h1
  exact ⟨a, bs, e, h2⟩
/-! ### isinstance(x, a built-in type) -/
inductive BT where
  | int | bool | str | list | tuple
def BT.nm : BT → String
  | .int => "int"
  | .bool => "bool"
  | .str => "str"
  | .list => "list"
  | .tuple => "tuple"
def isiD (T : BT) : D → Out D
  | .non => .ok (.bl false)
  | .bl _ => .ok (.bl (match T with | .int => true | .bool => true | _ => false))
  | .int _ => .ok (.bl (match T with | .int => true | _ => false))
  | .str _ => .ok (.bl (match T with | .str => true | _ => false))
  | .lst _ => .ok (.bl (match T with | .list => true | _ => false))
  | .tup _ => .ok (.bl (match T with | .tuple => true | _ => false))
  | .dic _ => .ok (.bl false)
  | .ins _ _ => .bad
  | .opq _ => .bad
theorem kit_non (T : BT) : kitB "NoneType" T.nm = some false := by cases T <;> decide +kernel
theorem kit_bl (T : BT) : kitB "bool" T.nm = some (match T with | .int => true | .bool => true | _ => false) := by cases T <;> decide +kernel
theorem kit_int (T : BT) : kitB "int" T.nm = some (match T with | .int => true | _ => false) := by cases T <;> decide +kernel
theorem kit_str (T : BT) : kitB "str" T.nm = some (match T with | .str => true | _ => false) := by cases T <;> decide +kernel
theorem kit_lst (T : BT) : kitB "list" T.nm = some (match T with | .list => true | _ => false) := by cases T <;> decide +kernel
theorem kit_tup (T : BT) : kitB "tuple" T.nm = some (match T with | .tuple => true | _ => false) := by cases T <;> decide +kernel
theorem kit_dic (T : BT) : kitB "dict" T.nm = some false := by cases T <;> decide +kernel
theorem de_isi {T : BT} (p : PE X e (tCB (rIsi X.K) (tCons (tE X.K cl W 0 f) (tCons (tC (.ty T.nm)) tNil)))) : DE X cl W e r (un1E (isiD T) f) := PE.imp p fun σ H Q ⟨F, ρ, l, s, w⟩ =>
  ⟨F, ρ, l, s, w.bnd fun d F1 H1 v g q w1 => by
    have go : ∀ (t : String) (b : Bool), TyX X.K H1 v (.type t) → kitB t T.nm = some b → wpE X.K cl r (.ok (.bl b)) F1 H1 Q (fun c dx H' => W c dx σ H') → rIsi X.K [v, .ty T.nm] H1 Q := fun t b ty k w => ⟨v, .ty T.nm, .type t, .type T.nm, b, rfl, .ty _, ty, kit_ty k, wpE.val w (Gr.refl g.le) Own.bll⟩
    cases d with
    | non => cases q; exact go _ _ (.base .non) (kit_non T) w1
    | bl b => cases q; exact go _ _ (.base (.bl b)) (kit_bl T) w1
    | int b => cases q; exact go _ _ (.base (.int b)) (kit_int T) w1
    | str b => cases q; exact go _ _ (.base (.str b)) (kit_str T) w1
    | opq u => exact w1.elim
    | lst xs =>
      obtain ⟨a, us, rfl, ha, hl⟩ := q
      exact go _ _ (.base (.lst (g.le _ _ ha))) (kit_lst T) w1
    | tup xs =>
      obtain ⟨a, us, rfl, ha, hl⟩ := q
      rcases (Le.of g.le).sqT ha with (h | ⟨o, h⟩) | ⟨o, its, n, hk, hc, _⟩
      · exact go _ _ (.base (.tup h)) (kit_tup T) w1
      · exact go _ _ (.fTuple h) (kit_tup T) w1
      · exact go _ _ (.kTuple hk hc) (kit_tup T) w1
    | dic kds =>
      obtain ⟨a, us, rfl, ha, hl⟩ := q
      rcases (Le.of g.le).rd _ _ ha with h | ⟨o, h⟩
      · exact go _ _ (.base (.dK h)) (kit_dic T) w1
      · exact go _ _ (.fDict h) (kit_dic T) w1
    | ins c fs => exact w1.elim⟩
/-! ### methods of texts, lists -/
def MtD (K : PySem.W.Frag) (cl : Nat → Addr) (T : String) (op : V → List V → Hp → VK → Prop) (r : Nat) (g : D → List D → Out D) : Prop := ∀ (d : D) (ds : List D) (v : V) (vs : List V) (F H : Hp) (Q : VK) (EX : XW), Same F H → Rep K cl F d v → RepL K cl F ds vs → wpE K cl r (g d ds) F H Q EX → op v vs H Q
/-- the receiver's kind is told by g's own -/
def mthE (kd : D → Bool) (g : D → List D → Out D) (f : DEnv → Out D) (t : DEnv → Out (List D)) : DEnv → Out D := fun ρ => (f ρ).bind fun d => if kd d = true then (t ρ).bind fun ds => g d ds else .bad
def kStr : D → Bool
  | .str _ => true
  | _ => false
def kLst : D → Bool
  | .lst _ => true
  | _ => false
theorem de_mth {T : String} {kd : D → Bool} {op : V → List V → Hp → VK → Prop} {g : D → List D → Out D} {t : DEnv → Out (List D)} (hk : ∀ (d : D) (v : V) (F H : Hp), kd d = true → Same F H → Rep X.K cl F d v → tyV X.K T v H) (hd : MtD X.K cl T op r g) (p : PE X e (tBM X.K T op (tE X.K cl W 0 f) (tA X.K cl W 0 t))) : DE X cl W e r (mthE kd g f t) :=
  PE.imp p fun σ H Q ⟨F, ρ, l, s, w⟩ => ⟨F, ρ, l, s, w.bnd fun d F1 H1 v g1 q w1 => by
    by_cases c : kd d = true
    · rw [if_pos c] at w1
      exact ⟨hk d v F1 H1 c g1.le q, F1, ρ, g1.le, s.mono g1.f, w1.bndA fun ds F2 H2 vs g2 q2 w2 => hd d ds v vs F2 H2 Q _ g2.le (q.mono g2.f) q2 w2⟩
    · rw [if_neg c] at w1
      exact w1.elim⟩
theorem ty_str {d : D} {v : V} {F H : Hp} (h : kStr d = true) (l : Same F H) (q : Rep K cl F d v) : tyV K "str" v H := by
  cases d with
  | str z => cases q; rfl
  | _ => cases h
theorem ty_lst {d : D} {v : V} {F H : Hp} (h : kLst d = true) (l : Same F H) (q : Rep K cl F d v) : tyV K "list" v H := by
  cases d with
  | lst z =>
    obtain ⟨a, us, rfl, ha, hl⟩ := q
    exact .inl ⟨rfl, us, SqL.of (l _ _ ha)⟩
  | _ => cases h
def strsOf : List D → Option (List Str)
  | [] => some []
  | .str b :: ds => (strsOf ds).map (b :: ·)
  | _ => none
theorem strsOf_rep {F : Hp} : ∀ {ds : List D} {vs : List V} {bs : List Str}, strsOf ds = some bs → RepL K cl F ds vs → vs = bs.map V.str
  | [], vs, bs, e, r => by
    have e' : bs = [] := by
      have : some ([] : List Str) = some bs := e
      injection this with h
      exact h.symm
    rw [e', show vs = [] from r] <;> rfl
  | d :: ds, vs, bs, e, r => by
    obtain ⟨v, t, e1, q, l⟩ := r
    cases d with
    | str b =>
      cases h : strsOf ds with
      | none =>
        have e' : (strsOf ds).map (b :: ·) = some bs := e
        rw [h] at e'
        cases e'
      | some cs =>
        have e' : (strsOf ds).map (b :: ·) = some bs := e
        rw [h] at e'
        have e2 : b :: cs = bs := Option.some.inj e'
        cases q
        rw [e1, ← e2, List.map_cons, strsOf_rep h l]
    | _ => cases e
def joinF : D → List D → Out D
  | .str a, [.lst xs] => match strsOf xs with
    | some ys => if (ys.map (·.length)).sum + ys.length * a.length ≤ 16777216 then .ok (.str (Txt.join a ys)) else .bad
    | none => .bad
  | _, _ => .bad
abbrev rJoin (K : PySem.W.Frag) : V → List V → Hp → VK → Prop := fun x xs H Q => ∃ a p, ∃ ys : List Str, x = .str a ∧ xs = [.ref p] ∧ (SqL K H p (ys.map V.str) ∨ SqT K H p (ys.map V.str)) ∧ (ys.map (·.length)).sum + ys.length * a.length ≤ 16777216 ∧ Q (.str (Txt.join a ys)) H
theorem sp_join : MtD K cl "str" (rJoin K) r joinF := fun d ds v vs F H Q EX l q qs w => by
  cases d with
  | str a =>
    cases q
    cases ds with
    | nil => exact w.elim
    | cons d tl =>
      cases tl with
      | cons _ _ => exact (show False by cases d <;> exact w).elim
      | nil =>
        obtain ⟨v, t, e, q, q2⟩ := qs
        rw [show t = [] from q2] at e
        subst e
        cases d with
        | lst xs =>
          obtain ⟨p, us, rfl, ha, hl⟩ := q
          have w' : wpE K cl r (match strsOf xs with | some ys => if (ys.map (·.length)).sum + ys.length * a.length ≤ 16777216 then .ok (.str (Txt.join a ys)) else .bad | none => .bad) F H Q EX := w
          cases c : strsOf xs with
          | none => rw [c] at w'; exact w'.elim
          | some ys =>
            rw [c] at w'
            dsimp only at w'
            rw [strsOf_rep c hl] at ha
            by_cases c2 : (ys.map (·.length)).sum + ys.length * a.length ≤ 16777216
            · rw [if_pos c2] at w'
              exact ⟨a, p, ys, rfl, rfl, .inl (SqL.of (l _ _ ha)), c2, wpE.val w' (Gr.refl l) Own.strr⟩
            · rw [if_neg c2] at w'
              exact w'.elim
        | _ => exact w.elim
  | _ => exact (show False by cases ds <;> exact w).elim
def zfillF : D → List D → Out D
  | .str a, [.int i] => if PadOk i = true then .ok (.str (Txt.zfill a i)) else .bad
  | _, _ => .bad
theorem sp_zfill : MtD K cl "str" (fun x xs H Q => ∃ (a : Str) (i : Int), x = .str a ∧ xs = [.int i] ∧ PadOk i = true ∧ Q (.str (Txt.zfill a i)) H) r zfillF := fun d ds v vs F H Q EX l q qs w => by
  cases d with
  | str a =>
    cases q
    cases ds with
    | nil => exact w.elim
    | cons d tl =>
      cases tl with
      | cons _ _ => exact (show False by cases d <;> exact w).elim
      | nil =>
        obtain ⟨v, t, e, q, q2⟩ := qs
        rw [show t = [] from q2] at e
        subst e
        cases d with
        | int i =>
          cases q
          have w' : wpE K cl r (if PadOk i = true then .ok (.str (Txt.zfill a i)) else .bad) F H Q EX := w
          by_cases c2 : PadOk i = true
          · rw [if_pos c2] at w'
            exact ⟨a, i, rfl, rfl, c2, wpE.val w' (Gr.refl l) Own.strr⟩
          · rw [if_neg c2] at w'
            exact w'.elim
        | _ => exact w.elim
  | _ => exact (show False by cases ds <;> exact w).elim
end
end DL

namespace DL
open PySem PySem.Spec PyProof.Rows L2
section
variable {X : Cx} {cl : Nat → Addr} {W : WX} {cf : Cf} {Δc Δ Δ' Δl : List Nat} {e c : Expr} {es : List Expr} {f : DEnv → Out D} {t : DEnv → Out Bool} {r i : Nat} {pos : Pos}
/-! ### targets, tests of comprehensions, in short -/
theorem dg_nm {x : Str} (i : Nat) (hN : X.N.Nodup) (hi : X.N[i]? = some x := by rfl) (hx : Loc X.env.scope x := by first | exact Or.inl rfl | exact Or.inr rfl) (hf : X.fn x = true ∨ X.env.scope.names.lookup x = some .local := by first | exact .inl rfl | exact .inr rfl) : PG X (.Name x pos) (tgR X.K (.nm i)) := pg_name hN hi hx hf
theorem dgs_nil : PGs X [] (tgs []) := pgs_nil
theorem dgs_nm {x : Str} {is : List Nat} (i : Nat) (hN : X.N.Nodup) (h2 : PGs X es (tgs is)) (hi : X.N[i]? = some x := by rfl) (hx : Loc X.env.scope x := by first | exact Or.inl rfl | exact Or.inr rfl) (hf : X.fn x = true ∨ X.env.scope.names.lookup x = some .local := by first | exact .inl rfl | exact .inr rfl)
    (hs : (assignEach (.Name x pos :: es) X.env).map (·.2) = assign (.Name x pos) X.env :: (assignEach es X.env).map (·.2) := by rfl) : PGs X (.Name x pos :: es) (tgs (i :: is)) := pgs_cons (pg_name hN hi hx hf) h2 hs
theorem dts_nil : PTs X [] (tB' X.K cl W yesT) := ⟨fun pins s σ H Q I ⟨F, ρ, l, _, w⟩ => pts_nil.run pins s σ H Q I (w F H (Gr.refl l))⟩
theorem dts_one (h : DT X cl W c t) : PTs X [c] (tB' X.K cl W t) := pts_one h
theorem de_lc {elt tge iter : Expr} {ifs : List Expr} {scope : Scope} {own : List (Str × Nat)} {it : DEnv → Out (List D)} {tg : Tg} {h : DEnv → Out D} (hc : X.calm = true) (hN : X.N.Nodup) (hi : DI X cl W tge iter it) (ok : BlkOk X.N X.env.scope scope own)
    (hg : ∀ (s : Shared) (H : Hp) (C : Addr) (cl : List (Str × Addr)) (fp : List Addr), PG (X.blk s H scope (compEnvC scope cl C X.env) fp) tge (tgR X.K tg)) (ht : ∀ (s : Shared) (H : Hp) (C : Addr) (cc : List (Str × Addr)) (fp : List Addr), PTs (X.blk s H scope (compEnvC scope cc C X.env) fp) ifs (tB' X.K cl W0 t))
    (he : ∀ (s : Shared) (H : Hp) (C : Addr) (cc : List (Str × Addr)) (fp : List Addr), DE (X.blk s H scope (compEnvC scope cc C X.env) fp) cl W0 elt r h) (hm : ∀ i ∈ tgIs tg, i ∈ own.map (·.2)) (hs : ∀ x, foldedSetIterable iter X.env x = pure x := by intro _; rfl) :
    DE X cl W (.ListComp elt [⟨tge, iter, ifs, 0⟩] scope pos) (r + 1) (lcE it (own.map (·.2)) tg t h) := PE.imp (pe_lc (te := tE X.K cl W0 r h) (g := tgR X.K tg) (tt := tB' X.K cl W0 t) hc hN hi ok hg ht he hs) (lc_ok hm)
end
/-! ### a law's first row: script = script[:63] -/
theorem cutV_all {α : Type} (xs : List V) (h : xs.length ≤ 63) : cutV xs none (some 63) = xs := by
  unfold cutV
  have e0 : HT.sIx xs.length 0 none = 0 := rfl
  have e1 : HT.sIx xs.length xs.length (some 63) = xs.length := by
    unfold HT.sIx
    simp
    omega
  rw [e0, e1, List.drop_zero, Nat.sub_zero, List.take_length]
def spLaw (K : PySem.W.Frag) : Sp := fun vs H Q _ => ∃ (a : Addr) (ns : List Int), vs = [.ref a] ∧ SqL K H a (ns.map V.int) ∧ ns.length ≤ 63 ∧ ∀ H', Q (.bl true) H'
def scr (ns : List Int) (m : Nat) : DEnv := some (.lst (ns.map D.int)) :: List.replicate m none
theorem repL_ints {K : PySem.W.Frag} {cl : Nat → Addr} {F : Hp} : ∀ (ns : List Int), RepL K cl F (ns.map D.int) (ns.map V.int)
  | [] => rfl
  | n :: ns => ⟨.int n, _, rfl, rfl, repL_ints ns⟩
theorem srelN {K : PySem.W.Frag} {cl : Nat → Addr} {F H : Hp} : ∀ (m : Nat), SRel (fun n => Own K cl n F H) (List.replicate m 0) (List.replicate m none) (List.replicate m none) []
  | 0 => rfl
  | m + 1 => by
    rw [List.replicate_succ, List.replicate_succ, List.replicate_succ]
    exact ⟨[], [], rfl, rfl, srelN m⟩
theorem law_ok {P : Program} {w : World} {K : PySem.W.Frag} {mg : Str → Option Value} {base : Heap} {cl : Nat → Addr} {x y : Str} {params : Arguments} {st : Stmt} {rest : List Stmt} {scope : Scope} {N : List Str} {k m : Nat} {b : DEnv → SOut} {Δ' : List Nat} {f : Addr} {fd : FuncData}
    (F : FunD K x x params (st :: rest) scope [] [] f fd) (S : FnScope N [y] scope) (hN : N.length = m + 1)
    (h1 : ∀ (f : Addr) (cdv : Value) (A : Around) (outer : List Env) (s : Shared) (H : Hp) (E : XK), PS (cxOf (L2N.CX P w) P w K mg base N x scope f cdv A outer s H E) st (tAsg (tSl (rSlL K) (tVar 0) tNoPart (tPart (tC (.int 63)))) (gName 0)))
    (hb : ∀ (f : Addr) (cdv : Value) (A : Around) (outer : List Env) (s : Shared) (H : Hp) (E : XK), Room k (A.deeper (envOfC x scope s.heap.objs.size f cdv)) →
      DSs (cxOf (L2N.CX P w) P w K mg base N x scope f cdv A outer s H E) cl (fun c d _ H => E c d H) ⟨0, List.replicate N.length 0, []⟩ (List.replicate N.length 0) (List.replicate N.length 0) rest Δ' b)
    (hp : ∀ ns : List Int, ns.length ≤ 63 → ∃ ρ', b (scr ns m) = .ret (.bl true) ρ') :
    FnOk P w K mg base (L2N.CX P w) (k + 1) f fd [y] (spLaw K) := by
  refine F.ok S (fun vs H Q E h => ?_) (fun cdv A outer s H vs Q E hr hsp => ⟨_, pss_cons (h1 f cdv A outer s H E) (hb f cdv A outer s H E hr), ?_⟩)
  · obtain ⟨a, ns, rfl, _⟩ := h
    rfl
  · obtain ⟨a, ns, rfl, hS, hl, k⟩ := hsp
    obtain ⟨ρ', hρ⟩ := hp ns hl
    refine ⟨.ref a, rfl, 63, rfl, a, ns.map V.int, rfl, hS, fun p hp => ?_⟩
    have hlen : (ns.map V.int).length ≤ 63 := by rw [List.length_map]; exact hl
    rw [cutV_all (α := Nat) _ hlen]
    refine ⟨Ent.of H H, upd H p (.lst (ns.map V.int)), scr ns m, [], ⟨Same.refl _, (fun a m => by cases m), List.nodup_nil, ?_, fun a o e _ => same_upd hp a o e, same_upd hp, fun b e n => .inl e, (fun a m => by cases m), (fun p m => by cases m)⟩, ?_⟩
    · unfold scr L2.start
      rw [hN]
      exact ⟨[], [], rfl, ⟨.ref p, rfl, ⟨p, _, rfl, upd_same, repL_ints ns⟩, rfl⟩, srelN m⟩
    · rw [hρ]
      intro F' fp σ H' v fv _ o _ _
      obtain ⟨e, _⟩ := o
      have e' : v = .bl true := e
      rw [e']
      exact k H'
end DL

namespace DL
open PySem PySem.Spec PyProof.Rows L2
section
variable {X : Cx} {cl : Nat → Addr} {W : WX} {cf : Cf} {Δc Δ Δ' Δl Δ1 : List Nat} {e c : Expr} {es : List Expr} {f h : DEnv → Out D} {t : DEnv → Out Bool} {r i n : Nat} {pos : Pos} {st : Stmt} {it : DEnv → Out (List D)} {tg : Tg} {rest body orelse : List Stmt} {g : DEnv → SOut}
/-! ### statements in short, for printed terms -/
theorem sa {x : Str} {e : Expr} {pos' : Pos} (hN : X.N.Nodup) (he : DE X cl W e n h) (hi : X.N[i]? = some x := by rfl) (hx : Loc X.env.scope x := by first | exact Or.inl rfl | exact Or.inr rfl) (hs : swapsWith e (some (.Name x pos')) pos.line X.env = pure false := by rfl) (hf : X.fn x = true ∨ X.env.scope.names.lookup x = some .local := by first | exact .inl rfl | exact .inr rfl) :
    PS X (.Assign [.Name x pos'] e pos) (tAsg (tE X.K cl W n h) (gName i)) := ps_set hN hi hx he hs hf
theorem salc {y : Str} {py spos : Pos} {elt tge iter : Expr} {ifs : List Expr} {scope : Scope} {own : List (Str × Nat)} (hc : X.calm = true) (hN : X.N.Nodup) (hi : DI X cl W tge iter it) (ok : BlkOk X.N X.env.scope scope own)
    (hg : ∀ (s : Shared) (H : Hp) (C : Addr) (cl : List (Str × Addr)) (fp : List Addr), PG (X.blk s H scope (compEnvC scope cl C X.env) fp) tge (tgR X.K tg)) (ht : ∀ (s : Shared) (H : Hp) (C : Addr) (cc : List (Str × Addr)) (fp : List Addr), PTs (X.blk s H scope (compEnvC scope cc C X.env) fp) ifs (tB' X.K cl W0 t))
    (he : ∀ (s : Shared) (H : Hp) (C : Addr) (cc : List (Str × Addr)) (fp : List Addr), DE (X.blk s H scope (compEnvC scope cc C X.env) fp) cl W0 elt r h) (hm : ∀ i ∈ tgIs tg, i ∈ own.map (·.2))
    (hsw : swapsWith (.ListComp elt [⟨tge, iter, ifs, 0⟩] scope pos) (some (.Name y py)) spos.line X.env = pure true)
    (hy : X.N[i]? = some y := by rfl) (hyl : X.env.scope.names.lookup y = some .local := by rfl) (hs : ∀ x, foldedSetIterable iter X.env x = pure x := by intro _; rfl) :
    PS X (.Assign [.Name y py] (.ListComp elt [⟨tge, iter, ifs, 0⟩] scope pos) spos) (tAsg (tE X.K cl W (r + 1) (lcE it (own.map (·.2)) tg t h)) (gName i)) :=
  PS.imp (ps_setLc (te := tE X.K cl W0 r h) (g := tgR X.K tg) (tt := tB' X.K cl W0 t) hc hN hy hyl hsw hi ok hg ht he hs) fun D σ H w => lc_ok hm σ H _ w
theorem dz (p : PS X st (tAsg (tE X.K cl W n h) (gName i))) (hΔ : (zs Δ).set i n = Δ' := by rfl) (hp : ptB Δ cf.Δr = true := by rfl) (hi : cf.pn.contains i = false := by rfl) : DS X cl W cf Δc Δ st Δ' (setS i h) := hΔ ▸ ds_setZ p (fun _ _ _ h => h) hp hi
theorem dm (p : PS X st (tAsg (tE X.K cl W n h) (gName i))) (hΔ : Δ.set i n = Δ' := by rfl) (hp : ptB Δ cf.Δr = true := by rfl) (hi : cf.pn.contains i = false := by rfl) : DS X cl W cf Δc Δ st Δ' (setS i (mE Δ h)) := hΔ ▸ ds_setM p (fun _ _ _ h => h) hp hi
theorem dq (p : PS X st (tAsg (tE X.K cl W n h) (gName i))) (hΔ : Δ.set i n = Δ' := by rfl) (hp : ptB Δ cf.Δr = true := by rfl) (hi : cf.pn.contains i = false := by rfl) : DS X cl W cf Δc Δ st Δ' (setI n i h) := hΔ ▸ ds_setI p (fun _ _ _ h => h) hp hi
/-- targets of a pair -/
theorem su {tge e : Expr} (he : DE X cl W e 0 h) (hg : PG X tge (tgR X.K tg)) (hs : swapsWithSole [tge] e pos.line X.env = pure false := by rfl) (hw : swappedStores [tge] e X.env = pure none := by rfl) (h1 : (assignEach [tge] X.env).map (·.2) = [assign tge X.env] := by rfl) :
    PS X (.Assign [tge] e pos) (tAsg (tE X.K cl W 0 h) (tgR X.K tg)) := ps_asg he hg hs hw h1
theorem uz (p : PS X st (tAsg (tE X.K cl W 0 h) (tgR X.K tg))) (hΔ : setZ (tgIs tg) (zs Δ) = Δ' := by rfl) (hp : ptB Δ cf.Δr = true := by rfl) (hi : npn cf.pn (tgIs tg) = true := by rfl) : DS X cl W cf Δc Δ st Δ' (unpS tg h) := hΔ ▸ ds_unpZ p (fun _ _ _ h => h) hp hi
theorem um (p : PS X st (tAsg (tE X.K cl W 0 h) (tgR X.K tg))) (hΔ : setZ (tgIs tg) Δ = Δ' := by rfl) (hp : ptB Δ cf.Δr = true := by rfl) (hi : npn cf.pn (tgIs tg) = true := by rfl) : DS X cl W cf Δc Δ st Δ' (unpS tg (mE Δ h)) := hΔ ▸ ds_unpM p (fun _ _ _ h => h) hp hi
/-- loops -/
theorem sfor {tge iter : Expr} {body : List Stmt} {b : DEnv → SOut} (hp : PassesOwn (model X.prog X.w) X.A X.env X.xe) (hi : DI X cl W tge iter it) (hg : PG X tge (tgR X.K tg)) (hb : DSs X cl W cf Δl Δl body Δl b) (hc : X.calm = true := by rfl)
    (hs : ∀ x, foldedSetIterable iter X.env x = pure x := by intro _; rfl) : PS X (.For tge iter body [] pos) (tFor (tI X.K cl W it) (tgR X.K tg) (tS X.K cl W cf Δl Δl Δl b)) := ps_for hp hc hi hg hb hs
theorem fm {b : DEnv → SOut} (Δl : List Nat) (p : PS X st (tFor (tI X.K cl W it) (tgR X.K tg) (tS X.K cl W cf Δl Δl Δl b))) (hl : setZ (tgIs tg) Δl = Δl := by rfl) (hpl : ptB Δ Δl = true := by rfl) (hp : ptB Δ cf.Δr = true := by rfl) (hi : npn cf.pn (tgIs tg) = true := by rfl) : DS X cl W cf Δc Δ st Δl (forS tg (mE Δ it) b) := ds_forM p hl hpl hp hi
theorem fz {b : DEnv → SOut} (Δl : List Nat) (p : PS X st (tFor (tI X.K cl W it) (tgR X.K tg) (tS X.K cl W cf Δl Δl Δl b))) (hΔ : zs Δ = Δl := by rfl) (hl : setZ (tgIs tg) Δl = Δl := by rfl) (hp : ptB Δ cf.Δr = true := by rfl) (hi : npn cf.pn (tgIs tg) = true := by rfl) : DS X cl W cf Δc Δ st Δl (forS tg it b) := by
  subst hΔ
  exact ds_forZ p hl hp hi
/-- what stands here is never reached -/
def badE {α : Type} : DEnv → Out α := fun _ => .bad
def badS : DEnv → SOut := fun _ => .bad
theorem de_bad : DE X cl W e r badE := ⟨fun _ _ _ _ _ _ ⟨_, _, _, _, w⟩ => w.elim⟩
theorem dt_bad : DT X cl W e badE := ⟨fun _ _ _ _ _ _ ⟨_, _, _, _, w⟩ => w.elim⟩
theorem ds_bad : DS X cl W cf Δc Δ st Δ' badS := ⟨fun _ _ _ _ _ _ ⟨_, _, _, _, _, w⟩ => w.elim⟩
theorem dss_bad : DSs X cl W cf Δc Δ rest Δ' badS := ⟨fun _ _ _ _ _ _ ⟨_, _, _, _, _, w⟩ => w.elim⟩
end
theorem de_gtupE {X : Cx} {cl : Nat → Addr} {W : WX} {r : Nat} {pos : Pos} {x : Str} {ds : List D} (hg : Gl X x) (h : ∃ p, X.mg x = some (.ref p) ∧ ∀ H, SqT X.K H p (ds.map vOf)) (hf : ds.all flatD = true) (hd : (x == ("__debug__" : Str)) = false := by decide) : DE X cl W (.Name x pos) r (cE (.tup ds)) := by
  obtain ⟨p, h1, h2⟩ := h
  exact de_gtup hg h1 h2 hf hd
/-! ### what a def may let out -/
section
variable {P : Program} {w : World} {K : PySem.W.Frag} {mg : Str → Option Value} {base : Heap} {N : List Str} {x : Str} {scope : Scope} {f : Addr} {cdv : Value} {A : Around} {outer : List Env} {s : Shared} {H : Hp} {E : XK}
theorem tkD : Tk (cxOf (L2N.CX P w) P w K mg base N x scope f cdv A outer s H E) (fun c d _ H => E c d H) := tk_of (L2N.takes_of rfl rfl rfl rfl)
theorem psD : PassesOwn (model (cxOf (L2N.CX P w) P w K mg base N x scope f cdv A outer s H E).prog (cxOf (L2N.CX P w) P w K mg base N x scope f cdv A outer s H E).w) (cxOf (L2N.CX P w) P w K mg base N x scope f cdv A outer s H E).A (cxOf (L2N.CX P w) P w K mg base N x scope f cdv A outer s H E).env (cxOf (L2N.CX P w) P w K mg base N x scope f cdv A outer s H E).xe := passes_of rfl
end
end DL
namespace DL
open PySem PySem.Spec PyProof.Rows L2
/-- a law lets nothing out -/
theorem law0 {P : Program} {w : World} {K : PySem.W.Frag} {mg : Str → Option Value} {base : Heap} {k : Nat} {f : Addr} {fd : FuncData} {ps : List Str} (F : FnOk P w K mg base (L2N.CX P w) k f fd ps (spLaw K)) : FnOk P w K mg base L2.CX0 k f fd ps (spLaw K) :=
  ⟨fun vs H Q E q => F.len vs H Q E q, fun A outer s H args us vs Q E hr he hb hv hs =>
    codeAny_mono (F.run A outer s H args us vs Q L2.E0 hr he hb hv hs) fun r s' h => by
      cases r with
      | ok r =>
        cases r with
        | ret u => exact h
        | _ => exact h
      | error e =>
        obtain ⟨_, _, _, _, _, _, _, _, _, _, _, _, z⟩ := (show L2N.CX P w outer H s L2.E0 e s' from h)
        exact z.elim⟩
end DL

namespace DL
open PySem PySem.Spec PyProof.Rows L2
/-! ### how the readings reckon: for simp -/
section
variable {f g : DEnv → Out D} {t u : DEnv → Out Bool} {a b : DEnv → SOut} {ρ : DEnv} {s : DEnv → Out (List D)}
@[simp] theorem r_seq : seqS a b ρ = (match a ρ with | .next ρ => b ρ | o => o) := rfl
@[simp] theorem r_next : nextS ρ = .next ρ := rfl
@[simp] theorem r_pass : passS ρ = .next ρ := rfl
@[simp] theorem r_brk : brkS ρ = .brk ρ := rfl
@[simp] theorem r_cont : contS ρ = .cont ρ := rfl
@[simp] theorem r_if : ifS t a b ρ = (match t ρ with | .ok b' => if b' = true then a ρ else b ρ | .ex x => .ex x ρ | .bad => .bad) := rfl
@[simp] theorem r_ret : retS f ρ = (match f ρ with | .ok d => .ret d ρ | .ex x => .ex x ρ | .bad => .bad) := rfl
@[simp] theorem r_retI {n} : retI n f ρ = (match f ρ with | .ok d => if immAt n d = true then .ret d ρ else .bad | .ex x => .ex x ρ | .bad => .bad) := rfl
@[simp] theorem r_retN : retN ρ = .ret .non ρ := rfl
@[simp] theorem r_set {i} : setS i f ρ = (match f ρ with | .ok d => .next (ρ.set i (some d)) | .ex x => .ex x ρ | .bad => .bad) := rfl
@[simp] theorem r_setI {n i} : setI n i f ρ = (match f ρ with | .ok d => if immAt n d = true then .next (ρ.set i (some d)) else .bad | .ex x => .ex x ρ | .bad => .bad) := rfl
@[simp] theorem r_for {tg it} : forS tg it b ρ = (match it ρ with | .ok ds => forL tg b ds ρ | .ex x => .ex x ρ | .bad => .bad) := rfl
@[simp] theorem r_mE {α : Type} {Δ : List Nat} {h : DEnv → Out α} : mE Δ h ρ = h (mask Δ ρ) := rfl
@[simp] theorem r_var {i} : varE i ρ = (match ρ[i]? with | some (some d) => .ok d | _ => .bad) := rfl
@[simp] theorem r_c {d} : cE d ρ = .ok d := rfl
@[simp] theorem r_op2 {h} : op2E h f g ρ = ((f ρ).bind fun x => (g ρ).bind fun y => h x y) := rfl
@[simp] theorem r_un1 {h} : un1E h f ρ = (f ρ).bind h := rfl
@[simp] theorem r_nil : nilA ρ = .ok [] := rfl
@[simp] theorem r_cons : consA f s ρ = ((f ρ).bind fun x => (s ρ).bind fun xs => .ok (x :: xs)) := rfl
@[simp] theorem r_call {h} : callE h s ρ = (s ρ).bind h := rfl
@[simp] theorem r_tst : tstE f ρ = ((f ρ).bind fun d => match d with | .bl b => .ok b | _ => .bad) := rfl
@[simp] theorem r_notT : notT t ρ = ((t ρ).bind fun b => .ok (!b)) := rfl
@[simp] theorem r_andT : andT t u ρ = ((t ρ).bind fun b => if b = true then u ρ else .ok false) := rfl
@[simp] theorem r_orT : orT t u ρ = ((t ρ).bind fun b => if b = true then .ok true else u ρ) := rfl
theorem r_andE : andE f g ρ = ((f ρ).bind fun d => match d with | .bl true => g ρ | .bl false => .ok (.bl false) | _ => .bad) := rfl
theorem r_orE : orE f g ρ = ((f ρ).bind fun d => match d with | .bl false => g ρ | .bl true => .ok (.bl true) | _ => .bad) := rfl
@[simp] theorem r_notE : notE f ρ = ((f ρ).bind fun d => match d with | .bl b => .ok (.bl (!b)) | _ => .bad) := rfl
@[simp] theorem r_ifE : ifE t f g ρ = ((t ρ).bind fun b => if b = true then f ρ else g ρ) := rfl
@[simp] theorem r_tup : tupE s ρ = ((s ρ).bind fun ds => if ds.length ≤ sizeLine then .ok (.tup ds) else .bad) := rfl
@[simp] theorem r_lst : lstE s ρ = ((s ρ).bind fun ds => if ds.length ≤ sizeLine then .ok (.lst ds) else .bad) := rfl
@[simp] theorem r_noO : noO ρ = .ok none := rfl
@[simp] theorem r_someO : someO f ρ = ((f ρ).bind fun d => match d with | .int i => .ok (some i) | _ => .bad) := rfl
@[simp] theorem r_sl {l u : DEnv → Out (Option Int)} : slE f l u ρ = ((f ρ).bind fun x => (l ρ).bind fun lo => (u ρ).bind fun hi => slD x lo hi) := rfl
@[simp] theorem r_itE : itE f ρ = (f ρ).bind iterD := rfl
@[simp] theorem r_itA {h} : itA h s ρ = (s ρ).bind h := rfl
@[simp] theorem r_mth {kd g'} : mthE kd g' f s ρ = ((f ρ).bind fun d => if kd d = true then (s ρ).bind fun ds => g' d ds else .bad) := rfl
@[simp] theorem r_lc {it ws tg tt h} : lcE it ws tg tt h ρ = ((it ρ).bind fun ds => if ds.length ≤ sizeLine then (match lcL tg tt h (wipeD ρ ws) ds with | .ok ys => .ok (.lst ys) | _ => .bad) else .bad) := rfl
@[simp] theorem r_yes : yesT ρ = .ok true := rfl
@[simp] theorem r_badE {α : Type} : (badE ρ : Out α) = .bad := rfl
@[simp] theorem r_badS : badS ρ = .bad := rfl
@[simp] theorem r_unp {tg} : unpS tg f ρ = (match f ρ with | .ok d => (match bindT tg d ρ with | some ρ' => .next ρ' | none => .bad) | .ex x => .ex x ρ | .bad => .bad) := by
  unfold unpS
  cases f ρ <;> rfl
@[simp] theorem r_bnm {i d} : bindT (.nm i) d ρ = some (ρ.set i (some d)) := rfl
@[simp] theorem r_btt {is ds} : bindT (.tp is) (.tup ds) ρ = setsD is ds ρ := rfl
@[simp] theorem r_btl {is ds} : bindT (.tp is) (.lst ds) ρ = setsD is ds ρ := rfl
@[simp] theorem r_sets0 : setsD [] [] ρ = some ρ := rfl
@[simp] theorem r_sets1 {i is d ds} : setsD (i :: is) (d :: ds) ρ = setsD is ds (ρ.set i (some d)) := rfl
@[simp] theorem r_wipe0 : wipeD ρ [] = ρ := rfl
@[simp] theorem r_wipe1 {v vs} : wipeD ρ (v :: vs) = (wipeD ρ vs).set v none := rfl
@[simp] theorem r_mask0 : mask [] ([] : DEnv) = [] := rfl
end
@[simp] theorem r_add {i j} : addD (.int i) (.int j) = .ok (.int (i + j)) := rfl
@[simp] theorem r_sub {i j} : subD (.int i) (.int j) = .ok (.int (i - j)) := rfl
@[simp] theorem r_mul {i j} : mulD (.int i) (.int j) = if CMul i j then .ok (.int (i * j)) else .bad := rfl
@[simp] theorem r_div {i j} : divD (.int i) (.int j) = if CDivW i j then .ok (.int (i / j)) else .bad := rfl
@[simp] theorem r_mod {i j} : modD (.int i) (.int j) = if 0 < j then .ok (.int (i % j)) else .bad := rfl
@[simp] theorem r_pow {i j} : powD (.int i) (.int j) = if CPow i j then .ok (.int (i ^ j.toNat)) else .bad := rfl
@[simp] theorem r_neg {i} : negD (.int i) = .ok (.int (-i)) := rfl
@[simp] theorem r_lt {i j} : ltD (.int i) (.int j) = .ok (.bl (decide (i < j))) := rfl
@[simp] theorem r_le {i j} : leD (.int i) (.int j) = .ok (.bl (decide (i ≤ j))) := rfl
@[simp] theorem r_gt {i j} : gtD (.int i) (.int j) = .ok (.bl (decide (j < i))) := rfl
@[simp] theorem r_ge {i j} : geD (.int i) (.int j) = .ok (.bl (decide (j ≤ i))) := rfl
@[simp] theorem r_adds {i j} : addD (.str i) (.str j) = if i.length + j.length ≤ sizeLine then .ok (.str (i ++ j)) else .bad := rfl
@[simp] theorem r_addl {i j} : addD (.lst i) (.lst j) = if i.length + j.length ≤ sizeLine then .ok (.lst (i ++ j)) else .bad := rfl
@[simp] theorem r_addt {i j} : addD (.tup i) (.tup j) = if i.length + j.length ≤ sizeLine then .ok (.tup (i ++ j)) else .bad := rfl
@[simp] theorem r_muls {s k} : mulD (.str s) (.int k) = if -(2 ^ 63) ≤ k ∧ k < 2 ^ 63 ∧ s.length * k.toNat ≤ sizeLine then .ok (.str (Txt.mul s k)) else .bad := rfl
@[simp] theorem r_mull {s k} : mulD (.lst s) (.int k) = if -(2 ^ 63) ≤ k ∧ k < 2 ^ 63 ∧ s.length * k.toNat ≤ sizeLine then .ok (.lst (List.replicate k.toNat s).flatten) else .bad := rfl
@[simp] theorem r_eqi {i j} : eqD (.int i) (.int j) = .ok (.bl (decide (i = j))) := rfl
@[simp] theorem r_eqs {i j} : eqD (.str i) (.str j) = .ok (.bl (decide (i = j))) := rfl
@[simp] theorem r_eqb {i j} : eqD (.bl i) (.bl j) = .ok (.bl (decide (i = j))) := rfl
@[simp] theorem r_ne {x y} : neD x y = ((eqD x y).bind fun d => match d with | .bl b => .ok (.bl (!b)) | _ => .bad) := rfl
@[simp] theorem r_is {x} : isD x .non = .ok (.bl (isN x)) := rfl
@[simp] theorem r_isnt {x} : isntD x .non = .ok (.bl (!isN x)) := rfl
@[simp] theorem r_inl {n x ys} : inDn n x (.lst ys) = if flatD x = true ∧ ys.all flatD = true then .ok (.bl (if n then !inL x ys else inL x ys)) else .bad := by cases x <;> rfl
@[simp] theorem r_int {n x ys} : inDn n x (.tup ys) = if flatD x = true ∧ ys.all flatD = true then .ok (.bl (if n then !inL x ys else inL x ys)) else .bad := by cases x <;> rfl
@[simp] theorem r_fb {b} : flatD (.bl b) = true := rfl
@[simp] theorem r_fi {b} : flatD (.int b) = true := rfl
@[simp] theorem r_fs {b} : flatD (.str b) = true := rfl
@[simp] theorem r_fn : flatD .non = true := rfl
@[simp] theorem r_ixl {xs i} : ixD (.lst xs) (.int i) = (match atI xs i with | some d => .ok d | none => .bad) := rfl
@[simp] theorem r_ixt {xs i} : ixD (.tup xs) (.int i) = (match atI xs i with | some d => .ok d | none => .bad) := rfl
@[simp] theorem r_lenl {xs} : lenF [.lst xs] = .ok (.int xs.length) := rfl
@[simp] theorem r_lent {xs} : lenF [.tup xs] = .ok (.int xs.length) := rfl
@[simp] theorem r_lens {z} : lenF [.str z] = if z.length ≤ sizeLine then .ok (.int z.length) else .bad := rfl
theorem atI_nn {α : Type} {xs : List α} {i : Int} (h : 0 ≤ i) : atI xs i = xs[i.toNat]? := by
  unfold atI ixN
  rw [if_pos h]
  by_cases c : i < xs.length
  · rw [if_pos c]
    rfl
  · rw [if_neg c]
    exact (List.getElem?_eq_none (by omega)).symm
@[simp] theorem atI_lit {α : Type} {xs : List α} (n : Nat) : atI xs (no_index (OfNat.ofNat n : Int)) = xs[(OfNat.ofNat n : Nat)]? := atI_nn (Int.natCast_nonneg n)
@[simp] theorem atI_cast {α : Type} {xs : List α} (n : Nat) : atI xs (n : Int) = xs[n]? := atI_nn (Int.natCast_nonneg n)
@[simp] theorem r_mask1 {n ns o ρ} : mask (n :: ns) (o :: ρ) = (if n = 0 then o else none) :: mask ns ρ := by
  cases n <;> rfl
@[simp] theorem r_max {i j} : maxF [.int i, .int j] = .ok (.int (if j > i then j else i)) := rfl
@[simp] theorem r_min {i j} : minF [.int i, .int j] = .ok (.int (if j < i then j else i)) := rfl
@[simp] theorem r_one {g d} : one1 g [d] = g d := rfl
/-- the text of a number -/
def numS (i : Int) : Str := Str.ofString (toString i)
@[simp] theorem r_str {i} : strF (.int i) = if i.natAbs.log2 < 1920 then .ok (.str (numS i)) else .bad := rfl
@[simp] theorem r_lis {xs} : listF (.lst xs) = .ok (.lst xs) := rfl
@[simp] theorem r_list {xs} : listF (.tup xs) = .ok (.lst xs) := rfl
@[simp] theorem r_tupl {xs} : tupleF (.lst xs) = .ok (.tup xs) := rfl
@[simp] theorem r_tupt {xs} : tupleF (.tup xs) = .ok (.tup xs) := rfl
@[simp] theorem r_itl {xs} : iterD (.lst xs) = .ok xs := rfl
@[simp] theorem r_itt {xs} : iterD (.tup xs) = .ok xs := rfl
@[simp] theorem sz_le {n : Nat} (h : n ≤ 1000) : n ≤ sizeLine := Nat.le_trans h (by decide)
@[simp] theorem sz_lt {n : Nat} (h : n < 1000) : n < sizeLine := Nat.lt_of_lt_of_le h (by decide)
theorem CMul_r {i j : Int} (h : -(2 ^ 64) < j ∧ j < 2 ^ 64) : CMul i j := .inr h
theorem CMul_l {i j : Int} (h : -(2 ^ 64) < i ∧ i < 2 ^ 64) : CMul i j := .inl h
/-! ### calls: a def of n parameters -/
theorem fnD_ret {n N : Nat} {b : DEnv → SOut} {ds : List D} {d : D} {ρ : DEnv} (hn : ds.length = n) (h : b (ds.map some ++ List.replicate (N - n) none) = .ret d ρ) : fnD n N b ds = .ok d := by
  unfold fnD
  rw [if_pos hn, h]
@[simp] theorem r_appM {Δ i h} {ρ : DEnv} : appM Δ i h ρ = (match ρ[i]? with
  | some (some (.lst ds)) => (match h (mask Δ ρ) with
    | .ok d => if true = true ∧ ds.length < sizeLine then .next (ρ.set i (some (.lst (ds ++ [d])))) else .bad
    | .ex x => .ex x ρ
    | .bad => .bad)
  | _ => .bad) := rfl
@[simp] theorem r_appI {n i h} {ρ : DEnv} : appI n i h ρ = (match ρ[i]? with
  | some (some (.lst ds)) => (match h ρ with
    | .ok d => if immAt n d = true ∧ ds.length < sizeLine then .next (ρ.set i (some (.lst (ds ++ [d])))) else .bad
    | .ex x => .ex x ρ
    | .bad => .bad)
  | _ => .bad) := rfl
@[simp] theorem r_putI {n i h k} {ρ : DEnv} : putI n i h k ρ = (match h ρ with
  | .ok d => if immAt n d = true then (match ρ[i]? with
    | some (some (.lst ds)) => (match k ρ with
      | .ok (.int j) => (match ixN ds.length j with
        | some m => .next (ρ.set i (some (.lst (ds.set m d))))
        | none => .bad)
      | _ => .bad)
    | _ => .bad) else .bad
  | .ex x => .ex x ρ
  | .bad => .bad) := rfl
@[simp] theorem r_im0 {d} : immAt 0 d = imm d := rfl
@[simp] theorem r_imi {i} : imm (.int i) = true := rfl
@[simp] theorem r_ims {i} : imm (.str i) = true := rfl
@[simp] theorem r_imb {i} : imm (.bl i) = true := rfl
@[simp] theorem r_imn : imm .non = true := rfl
@[simp] theorem r_rng1 {n} : rng1 [.int n] = if n < 2 ^ 62 ∧ -(2 ^ 62) ≤ n then .ok (rngL 0 n.toNat) else .bad := rfl
@[simp] theorem r_rng2 {i j} : rng2 [.int i, .int j] = if -(2 ^ 62) ≤ i ∧ i < 2 ^ 62 ∧ -(2 ^ 62) ≤ j ∧ j < 2 ^ 62 then .ok (rngL i (j - i).toNat) else .bad := rfl
@[simp] theorem r_sll {xs lo hi} : slD (.lst xs) lo hi = .ok (.lst (cut xs lo hi)) := rfl
@[simp] theorem r_slt {xs lo hi} : slD (.tup xs) lo hi = .ok (.tup (cut xs lo hi)) := rfl
/-- a loop that runs through, told by what rests -/
theorem forL_ind {tg : Tg} {b : DEnv → SOut} (P : List D → DEnv → Prop) (h : ∀ d ds ρ, P (d :: ds) ρ → ∃ ρ1 ρ2, bindT tg d ρ = some ρ1 ∧ (b ρ1 = .next ρ2 ∨ b ρ1 = .cont ρ2) ∧ P ds ρ2) : ∀ {ds : List D} {ρ : DEnv}, P ds ρ → ∃ ρ', forL tg b ds ρ = .next ρ' ∧ P [] ρ'
  | [], ρ, p => ⟨ρ, rfl, p⟩
  | d :: ds, ρ, p => by
    obtain ⟨ρ1, ρ2, e1, e2, p2⟩ := h d ds ρ p
    obtain ⟨ρ', e3, p3⟩ := forL_ind P h p2
    refine ⟨ρ', ?_, p3⟩
    unfold forL
    rw [e1]
    rcases e2 with e2 | e2
    · simp only [e2, e3]
    · simp only [e2, e3]
/-- the items told alone -/
theorem forL_all {tg : Tg} {b : DEnv → SOut} {ds : List D} (P : DEnv → Prop) (h : ∀ d ∈ ds, ∀ ρ, P ρ → ∃ ρ1 ρ2, bindT tg d ρ = some ρ1 ∧ (b ρ1 = .next ρ2 ∨ b ρ1 = .cont ρ2) ∧ P ρ2) {ρ : DEnv} (p : P ρ) : ∃ ρ', forL tg b ds ρ = .next ρ' ∧ P ρ' := by
  have := forL_ind (tg := tg) (b := b) (P := fun rest ρ => (∀ d ∈ rest, d ∈ ds) ∧ P ρ) (fun d rest ρ ⟨m, q⟩ => by
    obtain ⟨ρ1, ρ2, a1, a2, a3⟩ := h d (m d (List.mem_cons_self ..)) ρ q
    exact ⟨ρ1, ρ2, a1, a2, fun d' m' => m d' (List.mem_cons_of_mem _ m'), a3⟩) (ds := ds) (ρ := ρ) ⟨fun d m => m, p⟩
  obtain ⟨ρ', e, _, q⟩ := this
  exact ⟨ρ', e, q⟩
theorem mem_rngL {lo : Int} {n : Nat} {d : D} (h : d ∈ rngL lo n) : ∃ i : Nat, i < n ∧ d = .int (lo + (i : Int)) := by
  unfold rngL at h
  obtain ⟨i, hi, rfl⟩ := List.mem_map.mp h
  exact ⟨i, List.mem_range.mp hi, rfl⟩
/-- a comprehension without a test -/
theorem lcL_map {tg : Tg} {h : DEnv → Out D} {ρ : DEnv} (g : D → D) : ∀ {ds : List D}, (∀ d ∈ ds, ∃ ρ1, bindT tg d ρ = some ρ1 ∧ h ρ1 = .ok (g d)) → lcL tg yesT h ρ ds = .ok (ds.map g)
  | [], _ => rfl
  | d :: ds, k => by
    obtain ⟨ρ1, e1, e2⟩ := k d (List.mem_cons_self ..)
    have e3 := lcL_map g (ds := ds) (fun d m => k d (List.mem_cons_of_mem _ m))
    unfold lcL
    rw [e1]
    simp only [r_yes, e2, e3, List.map_cons]
end DL

namespace DL
open PySem PySem.Spec PyProof.Rows L2
/-! ### signs and texts -/
abbrev sg (c : Nat) : Str := ⟨#[c]⟩
theorem join_sg : ∀ cs : List Nat, Txt.join (Str.ofString "") (cs.map sg) = ⟨cs.toArray⟩ := fun cs => by
  rw [TL.join_eq]
  have e0 : Str.ofString "" = ⟨#[]⟩ := by decide +kernel
  rw [e0]
  induction cs with
  | nil => rfl
  | cons c cs ih =>
    cases cs with
    | nil => rfl
    | cons d cs =>
      show sg c ++ ⟨#[]⟩ ++ Str.join ⟨#[]⟩ ((d :: cs).map sg) = _
      rw [ih]
      show (⟨(#[c] ++ #[]) ++ (d :: cs).toArray⟩ : Str) = _
      simp
theorem strsOf_map (ss : List Str) : strsOf (ss.map D.str) = some ss := by
  induction ss with
  | nil => rfl
  | cons s ss ih =>
    unfold strsOf
    rw [List.map_cons] 
    simp [ih]
@[simp] theorem r_join {a ys} : joinF (.str a) [.lst ys] = (match strsOf ys with | some ys => if (ys.map (·.length)).sum + ys.length * a.length ≤ 16777216 then .ok (.str (Txt.join a ys)) else .bad | none => .bad) := rfl
@[simp] theorem r_zfill {a i} : zfillF (.str a) [.int i] = if PadOk i = true then .ok (.str (Txt.zfill a i)) else .bad := rfl
@[simp] theorem r_kStr {a} : kStr (.str a) = true := rfl
@[simp] theorem r_ixs {z i} : ixD (.str z) (.int i) = if z.length ≤ sizeLine then (match atI z.cps.toList i with | some c => .ok (.str ⟨#[c]⟩) | none => .bad) else .bad := rfl
theorem flat_strs (ss : List Str) : (ss.map D.str).all flatD = true := by
  induction ss with
  | nil => rfl
  | cons s ss ih =>
    rw [List.map_cons, List.all_cons, ih]
    rfl
theorem map_str_inj : ∀ {a b : List Str}, a.map D.str = b.map D.str → a = b
  | [], [], _ => rfl
  | [], _ :: _, h => by simp at h
  | _ :: _, [], h => by simp at h
  | x :: xs, y :: ys, h => by
    rw [List.map_cons, List.map_cons] at h
    injection h with h1 h2
    injection h1 with h3
    rw [h3, map_str_inj h2]
theorem inL_strs {x : Str} {ss : List Str} : inL (.str x) (ss.map .str) = decide (x ∈ ss) := by
  unfold inL
  induction ss with
  | nil => rfl
  | cons s ss ih =>
    rw [List.map_cons, List.any_cons, ih]
    show (eqF (.str s) (.str x) || decide (x ∈ ss)) = _
    have : eqF (.str s) (.str x) = decide (s = x) := rfl
    rw [this]
    by_cases h : s = x
    · subst h
      simp
    · have h' : ¬ x = s := fun e => h e.symm
      simp [h, h']
/-- a comprehension: of what kind its items are -/
theorem lcL_ex {tg : Tg} {h : DEnv → Out D} {ρ : DEnv} {Q : D → Prop} : ∀ {ds : List D}, (∀ d ∈ ds, ∃ ρ1 y, bindT tg d ρ = some ρ1 ∧ h ρ1 = .ok y ∧ Q y) → ∃ ys, lcL tg yesT h ρ ds = .ok ys ∧ ys.length = ds.length ∧ ∀ y ∈ ys, Q y
  | [], _ => ⟨[], rfl, rfl, fun y m => by cases m⟩
  | d :: ds, k => by
    obtain ⟨ρ1, y, e1, e2, q⟩ := k d (List.mem_cons_self ..)
    obtain ⟨ys, e3, l, qs⟩ := lcL_ex (ds := ds) (fun d m => k d (List.mem_cons_of_mem _ m))
    refine ⟨y :: ys, ?_, by rw [List.length_cons, List.length_cons, l], fun z m => ?_⟩
    · unfold lcL
      rw [e1]
      simp only [r_yes, e2, e3]
    · rcases List.mem_cons.mp m with rfl | m
      · exact q
      · exact qs z m
theorem map_of {α : Type} {f : α → D} {P : α → Prop} : ∀ {ys : List D}, (∀ y ∈ ys, ∃ c, P c ∧ y = f c) → ∃ cs : List α, ys = cs.map f ∧ ∀ c ∈ cs, P c
  | [], _ => ⟨[], rfl, fun c m => by cases m⟩
  | y :: ys, h => by
    obtain ⟨c, p, rfl⟩ := h y (List.mem_cons_self ..)
    obtain ⟨cs, rfl, q⟩ := map_of (ys := ys) (fun y m => h y (List.mem_cons_of_mem _ m))
    exact ⟨c :: cs, rfl, fun z m => by
      rcases List.mem_cons.mp m with rfl | m
      · exact p
      · exact q z m⟩
theorem ixN_nn {n : Nat} {i : Int} (h : 0 ≤ i) (h2 : i < n) : ixN n i = some i.toNat := by
  unfold ixN
  rw [if_pos h, if_pos h2]
theorem len_rngL {lo : Int} {n : Nat} : (rngL lo n).length = n := by
  unfold rngL
  rw [List.length_map, List.length_range]
/-- the signs a..z -/
abbrev abc : Str := Str.ofString "abcdefghijklmnopqrstuvwxyz"
theorem abc_at {i : Int} (h : 0 ≤ i) (h2 : i < 26) : atI abc.cps.toList i = some (97 + i.toNat) := by
  rw [atI_nn h]
  have e : abc.cps.toList = (List.range 26).map (97 + ·) := by decide +kernel
  rw [e, List.getElem?_map, List.getElem?_range (by omega)]
  rfl
theorem abc_len : abc.length = 26 := by decide +kernel
/-- a name of the law's pool -/
structure NameOk (s : Str) : Prop where
  pos : 1 ≤ s.length
  few : s.length ≤ 8
  low : ∀ c ∈ s.cps.toList, 97 ≤ c ∧ c ≤ 122
end DL
namespace DL
theorem seq_to {a b : DEnv → SOut} {ρ ρ1 : DEnv} {o : SOut} (h : a ρ = .next ρ1) (h2 : b ρ1 = o) : seqS a b ρ = o := by
  rw [r_seq, h]
  exact h2
end DL
namespace DL
open PySem PySem.Spec PyProof.Rows L2
/-! ### numbers as texts -/
theorem num_digits {n : Int} (h0 : 0 ≤ n) : ∀ c ∈ (numS n).cps.toList, 48 ≤ c ∧ c ≤ 57 := fun c hc => by
  unfold numS at hc
  obtain ⟨m, rfl⟩ := Int.eq_ofNat_of_zero_le h0
  rw [PySem.W.KIN.signs_num] at hc
  obtain ⟨ch, hch, e⟩ := List.mem_map.mp hc
  have r := PyProof.Rows.digit_range (Nat.isDigit_of_mem_toDigits (by decide) (by decide) hch)
  rw [← e]
  exact r
theorem zfill4 {x : Str} (hd : ∀ c ∈ x.cps.toList, 48 ≤ c ∧ c ≤ 57) : Txt.zfill x 4 = Txt.mul (Str.ofString "0") (4 - (x.length : Int)) ++ x := by
  have e0 : Str.ofString "0" = ⟨#[48]⟩ := by decide +kernel
  rw [e0]
  unfold Txt.zfill Txt.mul
  by_cases h : (4 : Int) ≤ x.length
  · rw [if_pos h, if_pos (show (4 : Int) - x.length < 1 by omega)]
    show x = (⟨#[] ++ x.cps⟩ : Str)
    rw [Array.empty_append]
  · rw [if_neg h, if_neg (show ¬ (4 : Int) - x.length < 1 by omega)]
    have hz : PySem.zfilled x ((4 : Int).toNat - x.length) = ⟨Array.replicate (4 - x.length) 48 ++ x.cps⟩ := by
      unfold PySem.zfilled
      have hp : Builtin.Str.padded x ((4 : Int).toNat - x.length) 0 48 = ⟨Array.replicate (4 - x.length) 48 ++ x.cps⟩ := by
        unfold Builtin.Str.padded
        simp
      split
      · rename_i q
        have m : 43 ∈ x.cps.toList := by
          obtain ⟨w, e⟩ := Array.getElem?_eq_some_iff.mp q
          exact Array.mem_toList_iff.mpr (e ▸ Array.getElem_mem w)
        exact absurd (hd 43 m).1 (by decide)
      · rename_i q
        have m : 45 ∈ x.cps.toList := by
          obtain ⟨w, e⟩ := Array.getElem?_eq_some_iff.mp q
          exact Array.mem_toList_iff.mpr (e ▸ Array.getElem_mem w)
        exact absurd (hd 45 m).1 (by decide)
      · exact hp
    rw [hz]
    obtain ⟨l, hl, hl4⟩ : ∃ l, x.length = l ∧ l < 4 := ⟨_, rfl, by omega⟩
    rw [hl]
    match l, hl4 with
    | 0, _ => rfl
    | 1, _ => rfl
    | 2, _ => rfl
    | 3, _ => rfl
theorem len_num {n : Int} (h0 : 0 ≤ n) (h1 : n < 100000) : (numS n).length ≤ 5 := toString_length_le h0 (by decide) (by omega)
theorem log_num {n : Int} (h0 : 0 ≤ n) (h1 : n < 100000) : n.natAbs.log2 < 1920 := by
  have := Nat.log2_le_self n.natAbs
  by_cases h : n.natAbs < 1920
  · omega
  · have h2 : n.natAbs < 2 ^ 17 := by omega
    have : n.natAbs.log2 < 17 := (Nat.log2_lt (by omega)).mpr h2
    omega
theorem sp_len1 : (Str.ofString " ").length = 1 := by decide +kernel
end DL

namespace DL
open PySem PySem.Spec PyProof.Rows L2
instance : LawfulBEq Key where
  eq_of_beq := fun {a b} h => by
    cases a <;> cases b <;> first | exact congrArg _ (eq_of_beq h) | exact of_decide_eq_true h | cases h
  rfl := fun {a} => by cases a <;> first | exact beq_self_eq_true _ | exact decide_eq_true rfl
/-! ### places within what is ours -/
inductive Sel where
  | fld (f : Str) | key (k : Key) | ix (j : Nat)
def setK {κ : Type} [BEq κ] (k : κ) (d : D) : List (κ × D) → List (κ × D)
  | [] => []
  | (k0, d0) :: r => if (k == k0) = true then (k0, d) :: r else (k0, d0) :: setK k d r
def getS : D → Sel → Option D
  | .ins _ fds, .fld f => fds.lookup f
  | .dic kds, .key k => kds.lookup k
  | .lst ds, .ix j => ds[j]?
  | _, _ => none
def putS : D → Sel → D → D
  | .ins c fds, .fld f, d => .ins c (setK f d fds)
  | .dic kds, .key k, d => .dic (setK k d kds)
  | .lst ds, .ix j, d => .lst (ds.set j d)
  | x, _, _ => x
/-- where it stands in the heap -/
def SelV (H : Hp) (v : V) : Sel → V → Prop
  | .fld f, v1 => ∃ a C dx fs, v = .ref a ∧ H a = some (.ins C dx fs) ∧ fs.lookup f = some v1
  | .key k, v1 => ∃ a kvs, v = .ref a ∧ H a = some (.dK kvs) ∧ kvs.lookup k = some v1
  | .ix j, v1 => ∃ a vs, v = .ref a ∧ H a = some (.lst vs) ∧ vs[j]? = some v1
section
variable {K : PySem.W.Frag} {cl : Nat → Addr}
theorem KRel.sel {κ : Type} [BEq κ] [LawfulBEq κ] {P : D → V → List Addr → Prop} {k : κ} {d1 : D} : ∀ {kds : List (κ × D)} {kvs : List (κ × V)} {fp : List Addr}, KRel P kds kvs fp → kds.lookup k = some d1 →
    ∃ v1 f0 f1 f2, kvs.lookup k = some v1 ∧ fp = f0 ++ (f1 ++ f2) ∧ P d1 v1 f1 ∧ ∀ (P' : D → V → List Addr → Prop) (d1' : D) (g : List Addr), (∀ d v f, (∀ a ∈ f, a ∈ f0 ++ f2) → P d v f → P' d v f) → P' d1' v1 g → KRel P' (setK k d1' kds) kvs (f0 ++ (g ++ f2))
  | [], _, _, _, e => by cases e
  | (k0, d0) :: r, kvs, fp, h, e => by
    obtain ⟨v, t, f1, f2, e1, e2, p, l⟩ := h
    subst e1 e2
    cases q : (k == k0) with
    | true =>
      rw [List.lookup_cons, q] at e
      cases e
      refine ⟨v, [], f1, f2, by rw [List.lookup_cons, q], rfl, p, fun P' d1' g h1 h2 => ?_⟩
      unfold setK
      rw [if_pos q]
      exact ⟨v, t, g, f2, rfl, rfl, h2, KRel.impm (fun d v f m => h1 d v f fun a z => m a z) l⟩
    | false =>
      rw [List.lookup_cons, q] at e
      obtain ⟨v1, g0, g1, g2, h1, h2, h3, h4⟩ := KRel.sel l e
      refine ⟨v1, f1 ++ g0, g1, g2, by rw [List.lookup_cons, q]; exact h1, by rw [h2, List.append_assoc], h3, fun P' d1' g y1 y2 => ?_⟩
      unfold setK
      rw [if_neg (by rw [q]; exact Bool.false_ne_true)]
      refine ⟨v, t, f1, g0 ++ (g ++ g2), rfl, by rw [List.append_assoc], y1 _ _ _ (fun a m => List.mem_append_left _ (List.mem_append_left _ m)) p, h4 P' d1' g (fun d v f m => y1 d v f fun a z => ?_) y2⟩
      rcases List.mem_append.mp (m a z) with w | w
      · exact List.mem_append_left _ (List.mem_append_right _ w)
      · exact List.mem_append_right _ w
theorem LRel.sel {P : D → V → List Addr → Prop} {d1 : D} : ∀ {ds : List D} {vs : List V} {fp : List Addr} {j : Nat}, LRel P ds vs fp → ds[j]? = some d1 →
    ∃ v1 f0 f1 f2, vs[j]? = some v1 ∧ fp = f0 ++ (f1 ++ f2) ∧ P d1 v1 f1 ∧ ∀ (P' : D → V → List Addr → Prop) (d1' : D) (g : List Addr), (∀ d v f, (∀ a ∈ f, a ∈ f0 ++ f2) → P d v f → P' d v f) → P' d1' v1 g → LRel P' (ds.set j d1') vs (f0 ++ (g ++ f2))
  | [], _, _, j, _, e => by simp at e
  | d0 :: r, vs, fp, 0, h, e => by
    obtain ⟨v, t, f1, f2, e1, e2, p, l⟩ := h
    subst e1 e2
    simp at e
    subst e
    exact ⟨v, [], f1, f2, rfl, rfl, p, fun P' d1' g h1 h2 => ⟨v, t, g, f2, rfl, rfl, h2, LRel.impm (fun d v f m => h1 d v f fun a z => m a z) l⟩⟩
  | d0 :: r, vs, fp, j + 1, h, e => by
    obtain ⟨v, t, f1, f2, e1, e2, p, l⟩ := h
    subst e1 e2
    simp at e
    obtain ⟨v1, g0, g1, g2, h1, h2, h3, h4⟩ := LRel.sel l e
    refine ⟨v1, f1 ++ g0, g1, g2, by simpa using h1, by rw [h2, List.append_assoc], h3, fun P' d1' g y1 y2 => ?_⟩
    refine ⟨v, t, f1, g0 ++ (g ++ g2), rfl, by rw [List.append_assoc], y1 _ _ _ (fun a m => List.mem_append_left _ (List.mem_append_left _ m)) p, h4 P' d1' g (fun d v f m => y1 d v f fun a z => ?_) y2⟩
    rcases List.mem_append.mp (m a z) with w | w
    · exact List.mem_append_left _ (List.mem_append_right _ w)
    · exact List.mem_append_right _ w
/-- a part, taken out and put back -/
structure Part (K : PySem.W.Frag) (cl : Nat → Addr) (n m : Nat) (F H : Hp) (v : V) (fp : List Addr) (d1 : D) (v1 : V) (f1 fr : List Addr) (put : D → D) : Prop where
  mem : ∀ a, a ∈ fp ↔ a ∈ f1 ∨ a ∈ fr
  nd1 : f1.Nodup
  dis : ∀ a ∈ f1, a ∉ fr
  own : Own K cl m F H d1 v1 f1
  back : ∀ (F' H' : Hp) (d1' : D) (g : List Addr), Same F F' → (∀ a ∈ fr, H' a = H a) → Own K cl m F' H' d1' v1 g → g.Nodup → (∀ a ∈ g, a ∉ fr) → ∃ fp', Own K cl n F' H' (put d1') v fp' ∧ fp'.Nodup ∧ ∀ a ∈ fp', a ∈ g ∨ a ∈ fr
theorem Own.sel {n : Nat} {F H : Hp} {d d1 : D} {v : V} {fp : List Addr} {s : Sel} (o : Own K cl (n + 1) F H d v fp) (nd : fp.Nodup) (e : getS d s = some d1) :
    ∃ v1 f1 fr, SelV H v s v1 ∧ Part K cl (n + 1) n F H v fp d1 v1 f1 fr (putS d s) := by
  cases d with
  | lst ds =>
    cases s with
    | ix j =>
      obtain ⟨a, vs, fq, e1, e2, e3, l⟩ := o
      subst e3
      obtain ⟨v1, f0, f1, f2, h1, h2, h3, h4⟩ := LRel.sel l e
      subst h2
      obtain ⟨na, nq⟩ := List.nodup_cons.mp nd
      refine ⟨v1, f1, a :: (f0 ++ f2), ⟨a, vs, e1, e2, h1⟩, fun b => ?_, nodup_l (nodup_r nq), fun b m z => ?_, h3, fun F' H' d1' g sf hk o' ng dg => ⟨a :: (f0 ++ (g ++ f2)), ?_, ?_, fun b m => ?_⟩⟩
      · simp only [List.mem_cons, List.mem_append]
        constructor
        · rintro (h | h | h | h)
          · exact .inr (.inl h)
          · exact .inr (.inr (.inl h))
          · exact .inl h
          · exact .inr (.inr (.inr h))
        · rintro (h | h | h | h)
          · exact .inr (.inr (.inl h))
          · exact .inl h
          · exact .inr (.inl h)
          · exact .inr (.inr (.inr h))
      · rcases List.mem_cons.mp z with z | z
        · subst z
          exact na (List.mem_append_right _ (List.mem_append_left _ m))
        · rcases List.mem_append.mp z with z | z
          · exact nodup_d nq z (List.mem_append_left _ m)
          · exact nodup_d (nodup_r nq) m z
      · refine ⟨a, vs, _, e1, by rw [hk a List.mem_cons_self]; exact e2, rfl, h4 (Own K cl n F' H') d1' g (fun d v f m p => Own.keep sf (fun b z => hk b (List.mem_cons_of_mem _ (m b z))) p) o'⟩
      · refine List.nodup_cons.mpr ⟨fun m => ?_, nodup_app (nodup_l nq) (nodup_app ng (nodup_r (nodup_r nq)) fun b m => ?_) fun b m z => ?_⟩
        · rcases List.mem_append.mp m with m | m
          · exact na (List.mem_append_left _ m)
          · rcases List.mem_append.mp m with m | m
            · exact dg a m List.mem_cons_self
            · exact na (List.mem_append_right _ (List.mem_append_right _ m))
        · exact fun z => dg b m (List.mem_cons_of_mem _ (List.mem_append_right _ z))
        · rcases List.mem_append.mp z with z | z
          · exact dg b z (List.mem_cons_of_mem _ (List.mem_append_left _ m))
          · exact nodup_d nq m (List.mem_append_right _ z)
      · rcases List.mem_cons.mp m with m | m
        · exact .inr (by rw [m]; exact List.mem_cons_self)
        · rcases List.mem_append.mp m with m | m
          · exact .inr (List.mem_cons_of_mem _ (List.mem_append_left _ m))
          · rcases List.mem_append.mp m with m | m
            · exact .inl m
            · exact .inr (List.mem_cons_of_mem _ (List.mem_append_right _ m))
    | _ => cases e
  | dic kds =>
    cases s with
    | key k =>
      obtain ⟨a, vs, fq, e1, e2, e3, l⟩ := o
      subst e3
      obtain ⟨v1, f0, f1, f2, h1, h2, h3, h4⟩ := KRel.sel l e
      subst h2
      obtain ⟨na, nq⟩ := List.nodup_cons.mp nd
      refine ⟨v1, f1, a :: (f0 ++ f2), ⟨a, vs, e1, e2, h1⟩, fun b => ?_, nodup_l (nodup_r nq), fun b m z => ?_, h3, fun F' H' d1' g sf hk o' ng dg => ⟨a :: (f0 ++ (g ++ f2)), ?_, ?_, fun b m => ?_⟩⟩
      · simp only [List.mem_cons, List.mem_append]
        constructor
        · rintro (h | h | h | h)
          · exact .inr (.inl h)
          · exact .inr (.inr (.inl h))
          · exact .inl h
          · exact .inr (.inr (.inr h))
        · rintro (h | h | h | h)
          · exact .inr (.inr (.inl h))
          · exact .inl h
          · exact .inr (.inl h)
          · exact .inr (.inr (.inr h))
      · rcases List.mem_cons.mp z with z | z
        · subst z
          exact na (List.mem_append_right _ (List.mem_append_left _ m))
        · rcases List.mem_append.mp z with z | z
          · exact nodup_d nq z (List.mem_append_left _ m)
          · exact nodup_d (nodup_r nq) m z
      · refine ⟨a, vs, _, e1, by rw [hk a List.mem_cons_self]; exact e2, rfl, h4 (Own K cl n F' H') d1' g (fun d v f m p => Own.keep sf (fun b z => hk b (List.mem_cons_of_mem _ (m b z))) p) o'⟩
      · refine List.nodup_cons.mpr ⟨fun m => ?_, nodup_app (nodup_l nq) (nodup_app ng (nodup_r (nodup_r nq)) fun b m => ?_) fun b m z => ?_⟩
        · rcases List.mem_append.mp m with m | m
          · exact na (List.mem_append_left _ m)
          · rcases List.mem_append.mp m with m | m
            · exact dg a m List.mem_cons_self
            · exact na (List.mem_append_right _ (List.mem_append_right _ m))
        · exact fun z => dg b m (List.mem_cons_of_mem _ (List.mem_append_right _ z))
        · rcases List.mem_append.mp z with z | z
          · exact dg b z (List.mem_cons_of_mem _ (List.mem_append_left _ m))
          · exact nodup_d nq m (List.mem_append_right _ z)
      · rcases List.mem_cons.mp m with m | m
        · exact .inr (by rw [m]; exact List.mem_cons_self)
        · rcases List.mem_append.mp m with m | m
          · exact .inr (List.mem_cons_of_mem _ (List.mem_append_left _ m))
          · rcases List.mem_append.mp m with m | m
            · exact .inl m
            · exact .inr (List.mem_cons_of_mem _ (List.mem_append_right _ m))
    | _ => cases e
  | ins c kds =>
    cases s with
    | fld k =>
      obtain ⟨a, dx, vs, fq, e1, e2, e4, e3, l⟩ := o
      subst e3
      obtain ⟨v1, f0, f1, f2, h1, h2, h3, h4⟩ := KRel.sel l e
      subst h2
      obtain ⟨na, nq'⟩ := List.nodup_cons.mp nd
      obtain ⟨nx, nq⟩ := List.nodup_cons.mp nq'
      refine ⟨v1, f1, a :: dx :: (f0 ++ f2), ⟨a, _, dx, vs, e1, e2, h1⟩, fun b => ?_, nodup_l (nodup_r nq), fun b m z => ?_, h3, fun F' H' d1' g sf hk o' ng dg => ⟨a :: dx :: (f0 ++ (g ++ f2)), ?_, ?_, fun b m => ?_⟩⟩
      · simp only [List.mem_cons, List.mem_append]
        constructor
        · rintro (h | h | h | h | h)
          · exact .inr (.inl h)
          · exact .inr (.inr (.inl h))
          · exact .inr (.inr (.inr (.inl h)))
          · exact .inl h
          · exact .inr (.inr (.inr (.inr h)))
        · rintro (h | h | h | h | h)
          · exact .inr (.inr (.inr (.inl h)))
          · exact .inl h
          · exact .inr (.inl h)
          · exact .inr (.inr (.inl h))
          · exact .inr (.inr (.inr (.inr h)))
      · rcases List.mem_cons.mp z with z | z
        · subst z
          exact na (List.mem_cons_of_mem _ (List.mem_append_right _ (List.mem_append_left _ m)))
        · rcases List.mem_cons.mp z with z | z
          · subst z
            exact nx (List.mem_append_right _ (List.mem_append_left _ m))
          · rcases List.mem_append.mp z with z | z
            · exact nodup_d nq z (List.mem_append_left _ m)
            · exact nodup_d (nodup_r nq) m z
      · refine ⟨a, dx, vs, _, e1, by rw [hk a List.mem_cons_self]; exact e2, by rw [hk dx (List.mem_cons_of_mem _ List.mem_cons_self)]; exact e4, rfl, h4 (Own K cl n F' H') d1' g (fun d v f m p => Own.keep sf (fun b z => hk b (List.mem_cons_of_mem _ (List.mem_cons_of_mem _ (m b z)))) p) o'⟩
      · refine List.nodup_cons.mpr ⟨fun m => ?_, List.nodup_cons.mpr ⟨fun m => ?_, nodup_app (nodup_l nq) (nodup_app ng (nodup_r (nodup_r nq)) fun b m => ?_) fun b m z => ?_⟩⟩
        · rcases List.mem_cons.mp m with m | m
          · subst m
            exact na List.mem_cons_self
          · rcases List.mem_append.mp m with m | m
            · exact na (List.mem_cons_of_mem _ (List.mem_append_left _ m))
            · rcases List.mem_append.mp m with m | m
              · exact dg a m List.mem_cons_self
              · exact na (List.mem_cons_of_mem _ (List.mem_append_right _ (List.mem_append_right _ m)))
        · rcases List.mem_append.mp m with m | m
          · exact nx (List.mem_append_left _ m)
          · rcases List.mem_append.mp m with m | m
            · exact dg dx m (List.mem_cons_of_mem _ List.mem_cons_self)
            · exact nx (List.mem_append_right _ (List.mem_append_right _ m))
        · exact fun z => dg b m (List.mem_cons_of_mem _ (List.mem_cons_of_mem _ (List.mem_append_right _ z)))
        · rcases List.mem_append.mp z with z | z
          · exact dg b z (List.mem_cons_of_mem _ (List.mem_cons_of_mem _ (List.mem_append_left _ m)))
          · exact nodup_d nq m (List.mem_append_right _ z)
      · rcases List.mem_cons.mp m with m | m
        · exact .inr (by rw [m]; exact List.mem_cons_self)
        · rcases List.mem_cons.mp m with m | m
          · exact .inr (by rw [m]; exact List.mem_cons_of_mem _ List.mem_cons_self)
          · rcases List.mem_append.mp m with m | m
            · exact .inr (List.mem_cons_of_mem _ (List.mem_cons_of_mem _ (List.mem_append_left _ m)))
            · rcases List.mem_append.mp m with m | m
              · exact .inl m
              · exact .inr (List.mem_cons_of_mem _ (List.mem_cons_of_mem _ (List.mem_append_right _ m)))
    | _ => cases e
  | _ => cases s <;> cases e
end
end DL

namespace DL
open PySem PySem.Spec PyProof.Rows L2
def getP : D → List Sel → Option D
  | d, [] => some d
  | d, s :: ss => (getS d s).bind fun e => getP e ss
def putP : D → List Sel → D → D
  | _, [], x => x
  | d, s :: ss, x => match getS d s with
    | some e => putS d s (putP e ss x)
    | none => d
def PathV (H : Hp) : V → List Sel → V → Prop
  | v, [], v1 => v1 = v
  | v, s :: ss, v1 => ∃ u, SelV H v s u ∧ PathV H u ss v1
section
variable {K : PySem.W.Frag} {cl : Nat → Addr}
theorem Part.self {n : Nat} {F H : Hp} {d : D} {v : V} {fp : List Addr} (o : Own K cl n F H d v fp) (nd : fp.Nodup) : Part K cl n n F H v fp d v fp [] id :=
  ⟨fun a => by simp, nd, fun a _ m => (by cases m), o, fun F' H' d1' g _ _ o' ng _ => ⟨g, o', ng, fun a m => .inl m⟩⟩
theorem Part.comp {n m k : Nat} {F H : Hp} {v v1 v2 : V} {fp f1 fr f2 fs : List Addr} {d1 d2 : D} {p q : D → D} (a : Part K cl n m F H v fp d1 v1 f1 fr p) (b : Part K cl m k F H v1 f1 d2 v2 f2 fs q) : Part K cl n k F H v fp d2 v2 f2 (fr ++ fs) (fun x => p (q x)) := by
  refine ⟨fun x => ?_, b.nd1, fun x m z => ?_, b.own, fun F' H' d1' g sf hk o' ng dg => ?_⟩
  · rw [a.mem, b.mem, List.mem_append]
    constructor
    · rintro ((h | h) | h)
      · exact .inl h
      · exact .inr (.inr h)
      · exact .inr (.inl h)
    · rintro (h | h | h)
      · exact .inl (.inl h)
      · exact .inr h
      · exact .inl (.inr h)
  · rcases List.mem_append.mp z with z | z
    · exact a.dis x ((b.mem x).mpr (.inl m)) z
    · exact b.dis x m z
  · obtain ⟨g2, o2, n2, m2⟩ := b.back F' H' d1' g sf (fun x m => hk x (List.mem_append_right _ m)) o' ng fun x m z => dg x m (List.mem_append_right _ z)
    obtain ⟨g3, o3, n3, m3⟩ := a.back F' H' _ g2 sf (fun x m => hk x (List.mem_append_left _ m)) o2 n2 fun x m z => by
      rcases m2 x m with y | y
      · exact dg x y (List.mem_append_left _ z)
      · exact a.dis x ((b.mem x).mpr (.inr y)) z
    exact ⟨g3, o3, n3, fun x m => by
      rcases m3 x m with y | y
      · rcases m2 x y with w | w
        · exact .inl w
        · exact .inr (List.mem_append_right _ w)
      · exact .inr (List.mem_append_left _ y)⟩
theorem Own.path {F H : Hp} {m : Nat} {d1 : D} : ∀ {ss : List Sel} {d : D} {v : V} {fp : List Addr}, Own K cl (m + ss.length) F H d v fp → fp.Nodup → getP d ss = some d1 →
    ∃ v1 f1 fr, PathV H v ss v1 ∧ Part K cl (m + ss.length) m F H v fp d1 v1 f1 fr (putP d ss)
  | [], d, v, fp, o, nd, e => by
    cases e
    exact ⟨v, fp, [], rfl, Part.self o nd⟩
  | s :: ss, d, v, fp, o, nd, e => by
    have e' : ((getS d s).bind fun e => getP e ss) = some d1 := e
    cases q : getS d s with
    | none => rw [q] at e'; cases e'
    | some x =>
      rw [q] at e'
      obtain ⟨u, f1, fr, h1, h2⟩ := Own.sel (n := m + ss.length) o nd q
      obtain ⟨v1, f2, fs, h3, h4⟩ := Own.path h2.own h2.nd1 e'
      refine ⟨v1, f2, fr ++ fs, ⟨u, h1, h3⟩, ?_⟩
      have c := h2.comp h4
      have ep : putP d (s :: ss) = fun y => putS d s (putP x ss y) := by
        funext y
        show (match getS d s with | some e => putS d s (putP e ss y) | none => d) = _
        rw [q]
      rw [ep]
      exact c
variable {pn : List Nat} {E : Ent pn} {Δ : List Nat} {F H : Hp} {ρ : DEnv} {σ : St} {fp : List Addr}
/-- a place of what is ours: looked at, and put back changed -/
structure Place (K : PySem.W.Frag) (cl : Nat → Addr) (E : Ent pn) (Δ : List Nat) (F H : Hp) (ρ : DEnv) (σ : St) (fp : List Addr) (i : Nat) (ss : List Sel) (d : D) (m : Nat) (d1 : D) (v v1 : V) (f1 : List Addr) : Prop where
  at_ : σ[i]? = some (some v)
  path : PathV H v ss v1
  own : Own K cl m F H d1 v1 f1
  sub : ∀ a ∈ f1, a ∈ fp
  nd : f1.Nodup
  back : ∀ (F' H' : Hp) (d1' : D) (g : List Addr), Same F F' → Same F' H' → (∀ a o, H a = some o → a ∉ f1 → H' a = some o) → (∀ a, F a = none → F' a ≠ none → H a = none ∨ a ∈ f1) → Own K cl m F' H' d1' v1 g → g.Nodup →
    (∀ a ∈ g, F' a = none ∧ (H a = none ∨ a ∈ f1)) → ∃ fp', StOk K cl E Δ F' H' (ρ.set i (some (putP d ss d1'))) σ fp' ∧ ∀ a ∈ fp', (a ∈ fp ∧ a ∉ f1) ∨ a ∈ g
theorem StOk.place (s : StOk K cl E Δ F H ρ σ fp) {i m : Nat} {ss : List Sel} {d d1 : D} (e : ρ[i]? = some (some d)) (e1 : Δ[i]? = some (m + ss.length)) (e2 : getP d ss = some d1) :
    ∃ v v1 f1, Place K cl E Δ F H ρ σ fp i ss d m d1 v v1 f1 := by
  obtain ⟨v, g1, g2, g3, h1, h2, h3, h4⟩ := SRel.take s.sl e e1
  subst h2
  have nd := s.nd
  obtain ⟨v1, f1, fr, p1, p2⟩ := Own.path h3 (nodup_l (nodup_r nd)) e2
  have sub : ∀ a ∈ f1, a ∈ g1 ++ (g2 ++ g3) := fun a m => List.mem_append_right _ (List.mem_append_left _ ((p2.mem a).mpr (.inl m)))
  refine ⟨v, v1, f1, ⟨h1, p1, p2.own, sub, p2.nd1, fun F' H' d1' g sf le hk nw o ng dg => ?_⟩⟩
  -- what else is ours is kept
  have hk2 : ∀ a ∈ g1 ++ (g2 ++ g3), a ∉ f1 → H' a = H a := fun a m n => by
    cases q : H a with
    | none => exact absurd (q) (fun z => by
        have := s.fresh z
        exact this m)
    | some o => exact hk a o q n
  have young : ∀ a, H a = none ∨ a ∈ f1 → E.H0 a = none ∨ a ∈ E.fp0 := fun a h => h.elim s.young fun m => s.nwO a (sub a m)
  have dg2 : ∀ a ∈ g, a ∉ fr := fun a m z => by
    have mf : a ∈ g1 ++ (g2 ++ g3) := List.mem_append_right _ (List.mem_append_left _ ((p2.mem a).mpr (.inr z)))
    rcases (dg a m).2 with h | h
    · exact s.fresh h mf
    · exact p2.dis a h z
  obtain ⟨q2, o2, n2, m2⟩ := p2.back F' H' d1' g sf (fun a z => hk2 a (List.mem_append_right _ (List.mem_append_left _ ((p2.mem a).mpr (.inr z)))) fun w => p2.dis a w z) o ng dg2
  have apart : ∀ a ∈ q2, a ∉ g1 ∧ a ∉ g3 := fun a m => by
    rcases m2 a m with z | z
    · rcases (dg a z).2 with h | h
      · exact ⟨fun w => s.fresh h (List.mem_append_left _ w), fun w => s.fresh h (List.mem_append_right _ (List.mem_append_right _ w))⟩
      · have mf := (p2.mem a).mpr (.inl h)
        exact ⟨fun w => nodup_d nd w (List.mem_append_left _ mf), nodup_d (nodup_r nd) mf⟩
    · have mf := (p2.mem a).mpr (.inr z)
      exact ⟨fun w => nodup_d nd w (List.mem_append_left _ mf), nodup_d (nodup_r nd) mf⟩
  have out : ∀ a, a ∈ g1 ∨ a ∈ g3 → a ∉ f1 := fun a h m => by
    have mf := (p2.mem a).mpr (.inl m)
    rcases h with h | h
    · exact nodup_d nd h (List.mem_append_left _ mf)
    · exact nodup_d (nodup_r nd) mf h
  have S := h4 F' H' (putP d ss d1') v q2 (fun n d v f m p => Own.keep sf (fun a z => by
    rcases List.mem_append.mp (m a z) with w | w
    · exact hk2 a (List.mem_append_left _ w) (out a (.inl w))
    · exact hk2 a (List.mem_append_right _ (List.mem_append_right _ w)) (out a (.inr w))) p) o2
  have hset : σ.set i (some v) = σ := by
    apply List.ext_getElem?
    intro j
    by_cases hj : i = j
    · subst hj
      obtain ⟨hlt, _⟩ := List.getElem?_eq_some_iff.mp h1
      rw [List.getElem?_set_self hlt, h1]
    · rw [List.getElem?_set_ne hj]
  rw [hset] at S
  have fn : ∀ a ∈ g1 ++ (g2 ++ g3), a ∉ f1 → F' a = none := fun a m n => by
    cases q : F' a with
    | none => rfl
    | some o =>
      rcases nw a (s.sep a m) (by rw [q]; exact fun z => nomatch z) with h | h
      · exact absurd m (s.fresh h)
      · exact absurd h n
  have kind : ∀ a ∈ g1 ++ (q2 ++ g3), a ∈ g1 ++ (g2 ++ g3) ∧ a ∉ f1 ∨ a ∈ g := fun a m => by
    rcases List.mem_append.mp m with m | m
    · exact .inl ⟨List.mem_append_left _ m, out a (.inl m)⟩
    · rcases List.mem_append.mp m with m | m
      · rcases m2 a m with z | z
        · exact .inr z
        · exact .inl ⟨List.mem_append_right _ (List.mem_append_left _ ((p2.mem a).mpr (.inr z))), fun w => p2.dis a w z⟩
      · exact .inl ⟨List.mem_append_right _ (List.mem_append_right _ m), out a (.inr m)⟩
  refine ⟨g1 ++ (q2 ++ g3), ⟨le, fun a m => ?_, nodup_app (nodup_l nd) (nodup_app n2 (nodup_r (nodup_r nd)) fun a m => (apart a m).2) fun a m z => ?_, S, fun a o z m => ?_, s.f0.trans sf, fun a z w => ?_, fun a m => ?_, s.pn⟩, fun a m => ?_⟩
  · rcases kind a m with h | h
    · exact fn a h.1 h.2
    · exact (dg a h).1
  · rcases List.mem_append.mp z with z | z
    · exact (apart a z).1 m
    · exact nodup_d nd m (List.mem_append_right _ z)
  · refine hk a o (s.keep a o z m) fun w => ?_
    rcases s.nwO a (sub a w) with h | h
    · rw [h] at z; cases z
    · exact m h
  · cases q : F a with
    | some o => exact s.nwF a z (by rw [q]; exact fun z => nomatch z)
    | none => exact young a (nw a q w)
  · rcases kind a m with h | h
    · exact s.nwO a h.1
    · exact young a (dg a h).2
  · exact kind a m
end
end DL

namespace DL
open PySem PySem.Spec PyProof.Rows L2
/-! ### expressions that change what is ours -/
inductive EOut where
  | ok (d : D) (ρ : DEnv) | ex (x : Exn) (ρ : DEnv) | bad
section
variable (K : PySem.W.Frag) (cl : Nat → Addr) (W : WX) (cf : Cf) (E : Ent cf.pn)
def wpX (Δ' : List Nat) (r : Nat) (σ : St) (o : EOut) (Q : VK) : Prop := match o with
  | .ok d ρ => ∀ F fp H v fv, StOk K cl E Δ' F H ρ σ fp → Own K cl r F H d v fv → (∀ a ∈ fv, a ∉ fp ∧ F a = none ∧ (E.H0 a = none ∨ a ∈ E.fp0)) → fv.Nodup → Q v H
  | .ex x ρ => exS K cl W cf E x ρ
  | .bad => False
end
def tX (K : PySem.W.Frag) (cl : Nat → Addr) (W : WX) (cf : Cf) (Δ Δ' : List Nat) (r : Nat) (f : DEnv → EOut) : TE := fun σ H Q => ∃ (E : Ent cf.pn) (F : Hp) (ρ : DEnv) (fp : List Addr), StOk K cl E Δ F H ρ σ fp ∧ wpX K cl W cf E Δ' r σ (f ρ) Q
def DX (X : Cx) (cl : Nat → Addr) (W : WX) (cf : Cf) (Δ Δ' : List Nat) (e : Expr) (r : Nat) (f : DEnv → EOut) : Prop := PE X e (tX X.K cl W cf Δ Δ' r f)
section
variable {X : Cx} {cl : Nat → Addr} {W : WX} {cf : Cf} {Δc Δ Δ' Δ1 : List Nat} {e tge : Expr} {h : DEnv → Out D} {f : DEnv → EOut} {r n i : Nat} {pos : Pos} {st : Stmt} {tg : Tg}
/-! ### an expression that changes nothing, so looked at -/
/-- e sees but what is not ours -/
def mX (Δ : List Nat) (h : DEnv → Out D) : DEnv → EOut := fun ρ => match h (mask Δ ρ) with
  | .ok d => .ok d ρ
  | .ex x => .ex x ρ
  | .bad => .bad
/-- the value stands apart -/
def iX (r : Nat) (h : DEnv → Out D) : DEnv → EOut := fun ρ => match h ρ with
  | .ok d => if immAt r d = true then .ok d ρ else .bad
  | .ex x => .ex x ρ
  | .bad => .bad
/-- all that was ours is given up -/
def zX (h : DEnv → Out D) : DEnv → EOut := fun ρ => match h ρ with
  | .ok d => .ok d ρ
  | .ex x => .ex x ρ
  | .bad => .bad
theorem dx_m (he : DE X cl W e r h) (hp : ptB Δ cf.Δr = true := by rfl) : DX X cl W cf Δ Δ e r (mX Δ h) := PE.imp he fun σ H Q ⟨E, F, ρ, fp, s, w⟩ => by
  refine ⟨F, mask Δ ρ, s.le, s.mask, ?_⟩
  unfold mX at w
  cases q : h (mask Δ ρ) with
  | ok d =>
    rw [q] at w
    intro F1 H1 v fv g1 o1 n1 d1
    exact w F1 fp H1 v fv (s.growM g1) o1 (s.apartM n1) d1
  | ex x =>
    rw [q] at w
    exact s.excM hp w
  | bad => rw [q] at w; exact w
theorem dx_i (he : DE X cl W e r h) (hp : ptB Δ cf.Δr = true := by rfl) : DX X cl W cf Δ Δ e r (iX r h) := PE.imp he fun σ H Q ⟨E, F, ρ, fp, s, w⟩ => by
  refine ⟨_, ρ, ov_h s.le, s.view, ?_⟩
  unfold iX at w
  cases q : h ρ with
  | ok d =>
    rw [q] at w
    intro F1 H1 v fv g1 o1 n1 d1
    have w' : wpX X.K cl W cf E Δ r σ (if immAt r d = true then .ok d ρ else .bad) Q := w
    by_cases im : immAt r d = true
    · rw [if_pos im] at w'
      obtain ⟨o2, a2⟩ := s.apart g1 o1 n1 im
      exact w' _ fp H1 v fv (s.grow g1) o2 a2 d1
    · rw [if_neg im] at w'
      exact w'.elim
  | ex x =>
    rw [q] at w
    exact s.exc hp w
  | bad => rw [q] at w; exact w
theorem dx_z (he : DE X cl W e r h) (hΔ : zs Δ = Δ' := by rfl) (hp : ptB Δ cf.Δr = true := by rfl) : DX X cl W cf Δ Δ' e r (zX h) := PE.imp he fun σ H Q ⟨E, F, ρ, fp, s, w⟩ => by
  subst hΔ
  refine ⟨_, ρ, ov_h s.le, s.view, ?_⟩
  unfold zX at w
  cases q : h ρ with
  | ok d =>
    rw [q] at w
    intro F1 H1 v fv g1 o1 n1 d1
    exact w F1 [] H1 v fv (s.frz g1 zs_len zs_zero) o1 (fun a m => ⟨fun z => (by cases z), (n1 a m).2, s.young (n1 a m).1⟩) d1
  | ex x =>
    rw [q] at w
    exact s.exc hp w
  | bad => rw [q] at w; exact w
/-- less of the value is ours -/
theorem tX.zero {σ : St} {H : Hp} {Q : VK} (w : tX X.K cl W cf Δ Δ' 0 f σ H Q) : tX X.K cl W cf Δ Δ' r f σ H Q := by
  obtain ⟨E, F, ρ, fp, s, w⟩ := w
  refine ⟨E, F, ρ, fp, s, ?_⟩
  cases q : f ρ with
  | ok d ρ1 =>
    rw [q] at w
    intro F1 fp1 H1 v fv s1 o1 a1 n1
    have rp := Own.rep s1.le o1
    have jk : ∀ a, a ∈ fv → a ∉ fp1 := fun a m => (a1 a m).1
    refine w (ov F1 H1 fv) fp1 H1 v [] ⟨ov_h s1.le, fun a m => ?_, s1.nd, SRel.impm (fun n d v f m o => Own.same (ov_f s1.le) (fun _ _ e => e) o) s1.sl, s1.keep, s1.f0.trans (ov_f s1.le), fun a z y => ?_, s1.nwO, s1.pn⟩ ⟨rp, rfl⟩ (fun a m => by cases m) List.nodup_nil
    · rw [ov_out fun z => jk a z m]
      exact s1.sep a m
    · by_cases m : a ∈ fv
      · exact (a1 a m).2.2
      · rw [ov_out m] at y
        exact s1.nwF a z y
  | ex x ρ1 => rw [q] at w; exact w
  | bad => rw [q] at w; exact w
theorem DX.zero (hx : DX X cl W cf Δ Δ' e r f) : DX X cl W cf Δ Δ' e 0 f := PE.imp hx fun _ _ _ w => tX.zero w
/-! ### statements with such -/
def exprX (f : DEnv → EOut) : DEnv → SOut := fun ρ => match f ρ with
  | .ok _ ρ' => .next ρ'
  | .ex x ρ' => .ex x ρ'
  | .bad => .bad
def retX (f : DEnv → EOut) : DEnv → SOut := fun ρ => match f ρ with
  | .ok d ρ' => .ret d ρ'
  | .ex x ρ' => .ex x ρ'
  | .bad => .bad
def setX (i : Nat) (f : DEnv → EOut) : DEnv → SOut := fun ρ => match f ρ with
  | .ok d ρ' => .next (ρ'.set i (some d))
  | .ex x ρ' => .ex x ρ'
  | .bad => .bad
def unpX (tg : Tg) (f : DEnv → EOut) : DEnv → SOut := fun ρ => match f ρ with
  | .ok d ρ' => (match bindT tg d ρ' with
    | some ρ2 => .next ρ2
    | none => .bad)
  | .ex x ρ' => .ex x ρ'
  | .bad => .bad
theorem ds_exprX (hx : DX X cl W cf Δ Δ' e 0 f) (hs : swapsWith e none pos.line X.env = pure false := by rfl) : DS X cl W cf Δc Δ (.Expr e pos) Δ' (exprX f) := PS.imp (ps_expr hx hs) fun D σ H ⟨E, F, ρ, fp, s, w⟩ => by
  refine ⟨E, F, ρ, fp, s, ?_⟩
  unfold exprX at w
  cases q : f ρ with
  | ok d ρ1 =>
    rw [q] at w
    intro F1 fp1 H1 v fv s1 o1 a1 n1
    exact w F1 fp1 σ H1 s1
  | ex x ρ1 => rw [q] at w; exact w
  | bad => rw [q] at w; exact w
theorem ds_retX (hx : DX X cl W cf Δ Δ1 e cf.r f) (hp : ptB Δ1 cf.Δr = true := by rfl) : DS X cl W cf Δc Δ (.Return (some e) pos) Δ' (retX f) := PS.imp (ps_ret hx) fun D σ H ⟨E, F, ρ, fp, s, w⟩ => by
  refine ⟨E, F, ρ, fp, s, ?_⟩
  unfold retX at w
  cases q : f ρ with
  | ok d ρ1 =>
    rw [q] at w
    intro F1 fp1 H1 v fv s1 o1 a1 n1
    obtain ⟨F2, fp2, b1, b2, b3, s2⟩ := s1.part hp
    have ne : ∀ a ∈ fv, F2 a = none := fun a m => by
      cases z : F2 a with
      | none => rfl
      | some o => exact absurd (b2 a (a1 a m).2.1 (by rw [z]; exact fun y => nomatch y)) (a1 a m).1
    exact w F2 fp2 σ H1 v fv s2 (Own.same b1 (fun _ _ e => e) o1) (fun a m => ⟨fun z => (a1 a m).1 (b3 a z), ne a m, (a1 a m).2.2⟩) n1
  | ex x ρ1 => rw [q] at w; exact w
  | bad => rw [q] at w; exact w
theorem ds_setX {te : TE} (p : PS X st (tAsg (tX X.K cl W cf Δ Δ1 n f) (gName i))) (hΔ : Δ1.set i n = Δ' := by rfl) (hi : cf.pn.contains i = false := by rfl) : DS X cl W cf Δc Δ st Δ' (setX i f) := PS.imp p fun D σ H ⟨E, F, ρ, fp, s, w⟩ => by
  subst hΔ
  refine ⟨E, F, ρ, fp, s, ?_⟩
  unfold setX at w
  cases q : f ρ with
  | ok d ρ1 =>
    rw [q] at w
    intro F1 fp1 H1 v fv s1 o1 a1 n1
    obtain ⟨fp', s'⟩ := s1.set (i := i) o1 n1 (fun a m => (a1 a m).1) (fun a m => (a1 a m).2.1) (fun a m => (a1 a m).2.2) hi
    exact w F1 fp' _ H1 s'
  | ex x ρ1 => rw [q] at w; exact w
  | bad => rw [q] at w; exact w
theorem ds_unpX (p : PS X st (tAsg (tX X.K cl W cf Δ Δ1 0 f) (tgR X.K tg))) (hΔ : setZ (tgIs tg) Δ1 = Δ' := by rfl) (hi : npn cf.pn (tgIs tg) = true := by rfl) : DS X cl W cf Δc Δ st Δ' (unpX tg f) := PS.imp p fun D σ H ⟨E, F, ρ, fp, s, w⟩ => by
  subst hΔ
  refine ⟨E, F, ρ, fp, s, ?_⟩
  unfold unpX at w
  cases q : f ρ with
  | ok d ρ1 =>
    rw [q] at w
    intro F1 fp1 H1 v fv s1 o1 a1 n1
    obtain ⟨o1, e⟩ := o1
    subst e
    have w1 : wpS X.K cl W cf E Δc (setZ (tgIs tg) Δ1) (match bindT tg d ρ1 with | some ρ2 => .next ρ2 | none => .bad) D := w
    cases q2 : bindT tg d ρ1 with
    | none => rw [q2] at w1; exact w1.elim
    | some ρ2 =>
      rw [q2] at w1
      exact tgR_st hi s1 o1 q2 fun fp' σ' s' => w1 F1 fp' σ' H1 s'
  | ex x ρ1 => rw [q] at w; exact w
  | bad => rw [q] at w; exact w
end
end DL

namespace DL
open PySem PySem.Spec PyProof.Rows L2
/-! ### how a place is written -/
abbrev Plc := DEnv → Out (List Sel × D)
def pvE (i : Nat) : Plc := fun ρ => match ρ[i]? with
  | some (some d) => .ok ([], d)
  | _ => .bad
def pfS (c : Nat) (f : Str) : List Sel × D → Out (List Sel × D)
  | (ss, .ins c' fds) => if c' = c then (match fds.lookup f with
    | some e => .ok (ss ++ [.fld f], e)
    | none => .bad) else .bad
  | _ => .bad
def pfE (c : Nat) (f : Str) (p : Plc) : Plc := fun ρ => (p ρ).bind (pfS c f)
/-- which part of the container d the value k tells -/
def selOf : D → D → Option Sel
  | .lst ds, .int j => (ixN ds.length j).map .ix
  | .dic _, .int j => some (.key (.inl j))
  | .dic _, .str j => some (.key (.inr j))
  | _, _ => none
def pkS (sd : List Sel × D) (k : D) : Out (List Sel × D) := match selOf sd.2 k with
  | some s => (match getS sd.2 s with
    | some e => .ok (sd.1 ++ [s], e)
    | none => .bad)
  | none => .bad
def pkE (p : Plc) (h : DEnv → Out D) : Plc := fun ρ => (p ρ).bind fun sd => (h ρ).bind (pkS sd)
theorem SelV.mono {H H' : Hp} (g : Same H H') {v : V} {s : Sel} {v1 : V} (h : SelV H v s v1) : SelV H' v s v1 := by
  cases s with
  | fld f => obtain ⟨a, C, dx, fs, e1, e2, e3⟩ := h; exact ⟨a, C, dx, fs, e1, g _ _ e2, e3⟩
  | key f => obtain ⟨a, C, e1, e2, e3⟩ := h; exact ⟨a, C, e1, g _ _ e2, e3⟩
  | ix f => obtain ⟨a, C, e1, e2, e3⟩ := h; exact ⟨a, C, e1, g _ _ e2, e3⟩
theorem SelV.fn {H : Hp} {v : V} {s : Sel} {v1 v2 : V} (h : SelV H v s v1) (h' : SelV H v s v2) : v1 = v2 := by
  cases s with
  | fld f =>
    obtain ⟨a, C, dx, fs, e1, e2, e3⟩ := h
    obtain ⟨b, C', dx', fs', q1, q2, q3⟩ := h'
    rw [e1] at q1
    cases q1
    rw [e2] at q2
    cases q2
    rw [e3] at q3
    cases q3
    rfl
  | key f =>
    obtain ⟨a, C, e1, e2, e3⟩ := h
    obtain ⟨b, C', q1, q2, q3⟩ := h'
    rw [e1] at q1
    cases q1
    rw [e2] at q2
    cases q2
    rw [e3] at q3
    cases q3
    rfl
  | ix f =>
    obtain ⟨a, C, e1, e2, e3⟩ := h
    obtain ⟨b, C', q1, q2, q3⟩ := h'
    rw [e1] at q1
    cases q1
    rw [e2] at q2
    cases q2
    rw [e3] at q3
    cases q3
    rfl
theorem PathV.mono {H H' : Hp} (g : Same H H') : ∀ {ss : List Sel} {v v1 : V}, PathV H v ss v1 → PathV H' v ss v1
  | [], _, _, h => h
  | _ :: _, _, _, ⟨u, h1, h2⟩ => ⟨u, h1.mono g, PathV.mono g h2⟩
theorem PathV.fn {H : Hp} : ∀ {ss : List Sel} {v v1 v2 : V}, PathV H v ss v1 → PathV H v ss v2 → v1 = v2
  | [], _, _, _, h, h' => by rw [show _ = _ from h, show _ = _ from h']
  | _ :: _, _, _, _, ⟨u, h1, h2⟩, ⟨u', h1', h2'⟩ => by
    rw [h1.fn h1'] at h2
    exact h2.fn h2'
theorem PathV.snoc {H : Hp} {s : Sel} {v2 : V} : ∀ {ss : List Sel} {v v1 : V}, PathV H v ss v1 → SelV H v1 s v2 → PathV H v (ss ++ [s]) v2
  | [], _, _, h, k => by
    rw [show _ = _ from h] at k
    exact ⟨v2, k, rfl⟩
  | _ :: _, _, _, ⟨u, h1, h2⟩, k => ⟨u, h1, PathV.snoc h2 k⟩
theorem getP_snoc {s : Sel} {d2 : D} : ∀ {ss : List Sel} {d d1 : D}, getP d ss = some d1 → getS d1 s = some d2 → getP d (ss ++ [s]) = some d2
  | [], d, d1, h, k => by
    cases h
    show (getS d s).bind (fun e => getP e []) = some d2
    rw [k]
    rfl
  | t :: ss, d, d1, h, k => by
    have h' : (getS d t).bind (fun e => getP e ss) = some d1 := h
    show (getS d t).bind (fun e => getP e (ss ++ [s])) = some d2
    cases q : getS d t with
    | none => rw [q] at h'; cases h'
    | some e =>
      rw [q] at h'
      exact getP_snoc (ss := ss) h' k
theorem srel_mem {K : PySem.W.Frag} {cl : Nat → Addr} {F H : Hp} {a : Addr} : ∀ {Δ : List Nat} {ρ : DEnv} {σ : St} {fq : List Addr}, SRel (fun n => Own K cl n F H) Δ ρ σ fq → a ∈ fq → ∃ n d v f, Own K cl n F H d v f ∧ a ∈ f := by
  intro Δ
  induction Δ with
  | nil =>
    intro ρ σ fq r m
    cases ρ with
    | cons _ _ => cases r
    | nil =>
      cases σ with
      | cons _ _ => cases r
      | nil => rw [show fq = [] from r] at m; cases m
  | cons n Δ ih =>
    intro ρ σ fq r m
    cases ρ with
    | nil => cases σ <;> cases r
    | cons o ρ =>
      cases σ with
      | nil => cases r
      | cons u σ =>
        obtain ⟨f1, f2, e, q, l⟩ := r
        subst e
        rcases List.mem_append.mp m with m | m
        · cases o with
          | none => first | (rw [q] at m; cases m) | (rw [q.2] at m; cases m) | (obtain ⟨q1, q2⟩ := q; subst q2; cases m)
          | some d =>
            obtain ⟨v, _, p⟩ := q
            exact ⟨n, d, v, f1, p, m⟩
        · exact ih l m
section
variable (K : PySem.W.Frag) (cl : Nat → Addr) (W : WX) (cf : Cf) (E : Ent cf.pn)
def wpP (Δ : List Nat) (i : Nat) (F H : Hp) (fp : List Addr) (σ : St) (ρ : DEnv) (o : Out (List Sel × D)) (Q : VK) : Prop := match o with
  | .ok sd => ∀ F' H' v0 v1, StOk K cl E Δ F' H' ρ σ fp → Gr F H F' H' → σ[i]? = some (some v0) → PathV H' v0 sd.1 v1 → Q v1 H'
  | .ex x => exS K cl W cf E x ρ
  | .bad => False
/-- an expression that but grows the heap -/
def wpG (Δ : List Nat) (r : Nat) (F H : Hp) (fp : List Addr) (σ : St) (ρ : DEnv) (o : Out D) (Q : VK) : Prop := match o with
  | .ok d => ∀ F' H' v fv, StOk K cl E Δ F' H' ρ σ fp → Gr F H F' H' → Own K cl r F' H' d v fv → (∀ a ∈ fv, H a = none ∧ F' a = none) → fv.Nodup → Q v H'
  | .ex x => exS K cl W cf E x ρ
  | .bad => False
end
def tP (K : PySem.W.Frag) (cl : Nat → Addr) (W : WX) (cf : Cf) (Δ : List Nat) (i : Nat) (p : Plc) : TE := fun σ H Q => ∃ (E : Ent cf.pn) (F : Hp) (ρ : DEnv) (fp : List Addr), StOk K cl E Δ F H ρ σ fp ∧ wpP K cl W cf E Δ i F H fp σ ρ (p ρ) Q
def tG (K : PySem.W.Frag) (cl : Nat → Addr) (W : WX) (cf : Cf) (Δ : List Nat) (r : Nat) (f : DEnv → Out D) : TE := fun σ H Q => ∃ (E : Ent cf.pn) (F : Hp) (ρ : DEnv) (fp : List Addr), StOk K cl E Δ F H ρ σ fp ∧ wpG K cl W cf E Δ r F H fp σ ρ (f ρ) Q
def DG (X : Cx) (cl : Nat → Addr) (W : WX) (cf : Cf) (Δ : List Nat) (e : Expr) (r : Nat) (f : DEnv → Out D) : Prop := PE X e (tG X.K cl W cf Δ r f)
section
variable {X : Cx} {cl : Nat → Addr} {W : WX} {cf : Cf} {Δ : List Nat} {e : Expr} {h f : DEnv → Out D} {r : Nat}
theorem dg_m (he : DE X cl W e r h) (hp : ptB Δ cf.Δr = true := by rfl) : DG X cl W cf Δ e r (mE Δ h) := PE.imp he fun σ H Q ⟨E, F, ρ, fp, s, w⟩ => by
  refine ⟨F, mask Δ ρ, s.le, s.mask, ?_⟩
  unfold mE at w
  cases q : h (mask Δ ρ) with
  | ok d =>
    rw [q] at w
    intro F1 H1 v fv g1 o1 n1 d1
    exact w F1 H1 v fv (s.growM g1) g1 o1 n1 d1
  | ex x =>
    rw [q] at w
    exact s.excM hp w
  | bad => rw [q] at w; exact w
def immE (r : Nat) (h : DEnv → Out D) : DEnv → Out D := fun ρ => (h ρ).bind fun d => if immAt r d = true then .ok d else .bad
theorem dg_i (he : DE X cl W e r h) (hp : ptB Δ cf.Δr = true := by rfl) : DG X cl W cf Δ e r (immE r h) := PE.imp he fun σ H Q ⟨E, F, ρ, fp, s, w⟩ => by
  refine ⟨_, ρ, ov_h s.le, s.view, ?_⟩
  unfold immE at w
  cases q : h ρ with
  | ok d =>
    rw [q] at w
    intro F1 H1 v fv g1 o1 n1 d1
    have w' : wpG X.K cl W cf E Δ r F H fp σ ρ (if immAt r d = true then .ok d else .bad) Q := w
    by_cases im : immAt r d = true
    · rw [if_pos im] at w'
      obtain ⟨o2, a2⟩ := s.apart g1 o1 n1 im
      refine w' _ H1 v fv (s.grow g1) ⟨jn_l F _, g1.h, (s.grow g1).le, fun a e y => ?_⟩ o2 (fun a m => ⟨(n1 a m).1, (a2 a m).2.1⟩) d1
      rw [jn_none e] at y
      cases z : H a with
      | none => rfl
      | some o =>
        by_cases m : a ∈ fp
        · obtain ⟨n, d, v, f, ow, mm⟩ : ∃ n d v f, Own X.K cl n F H d v f ∧ a ∈ f := by
            have : ∀ {Δ : List Nat} {ρ : DEnv} {σ : St} {fq : List Addr}, SRel (fun n => Own X.K cl n F H) Δ ρ σ fq → a ∈ fq → ∃ n d v f, Own X.K cl n F H d v f ∧ a ∈ f := srel_mem
            exact this s.sl m
          have ob := ow.ob a mm
          have e1 : F1 a = H a := by
            have := g1.f a o (by rw [ov_in m]; exact z)
            rw [this, z]
          rw [← e1] at ob
          exact absurd (tpo_ob (Same.refl F1) ob) y
        · have y1 : F1 a ≠ none := fun q => y (by unfold tpo; rw [q])
          have := g1.nw a (by rw [ov_out m]; exact e) y1
          rw [this] at z
          cases z
    · rw [if_neg im] at w'
      exact w'.elim
  | ex x =>
    rw [q] at w
    exact s.exc hp w
  | bad => rw [q] at w; exact w
theorem DG.zero (hg : DG X cl W cf Δ e r f) : DG X cl W cf Δ e 0 f := PE.imp hg fun σ H Q ⟨E, F, ρ, fp, s, w⟩ => by
  refine ⟨E, F, ρ, fp, s, ?_⟩
  cases q : f ρ with
  | ok d =>
    rw [q] at w
    intro F1 H1 v fv s1 g1 o1 a1 n1
    have rp := Own.rep s1.le o1
    have jk : ∀ a, a ∈ fv → a ∉ fp := fun a m => s.fresh (a1 a m).1
    refine w (ov F1 H1 fv) H1 v [] ⟨ov_h s1.le, fun a m => ?_, s1.nd, SRel.impm (fun n d v f m o => Own.same (ov_f s1.le) (fun _ _ e => e) o) s1.sl, s1.keep, s1.f0.trans (ov_f s1.le), fun a z y => ?_, s1.nwO, s1.pn⟩ ⟨g1.f.trans (ov_f s1.le), g1.h, ov_h s1.le, fun a e y => ?_⟩ ⟨rp, rfl⟩ (fun a m => by cases m) List.nodup_nil
    · rw [ov_out fun z => jk a z m]
      exact s1.sep a m
    · by_cases m : a ∈ fv
      · exact s.young (a1 a m).1
      · rw [ov_out m] at y
        exact s1.nwF a z y
    · by_cases m : a ∈ fv
      · exact (a1 a m).1
      · rw [ov_out m] at y
        exact g1.nw a e y
  | ex x => rw [q] at w; exact w
  | bad => rw [q] at w; exact w
end
/-- e is written as the place p of slot i, k steps deep -/
structure DP (X : Cx) (cl : Nat → Addr) (W : WX) (cf : Cf) (Δ : List Nat) (e : Expr) (i k : Nat) (p : Plc) : Prop where
  good : ∀ ρ sd, p ρ = .ok sd → ∃ d0, ρ[i]? = some (some d0) ∧ getP d0 sd.1 = some sd.2 ∧ sd.1.length = k
  walk : PE X e (tP X.K cl W cf Δ i p)
section
variable {X : Cx} {cl : Nat → Addr} {W : WX} {cf : Cf} {Δ : List Nat} {e a : Expr} {h : DEnv → Out D} {i k m c : Nat} {pos : Pos} {p : Plc} {f : Str}
theorem dp_var (i : Nat) {x : Str} (hN : X.N[i]? = some x := by rfl) (hv : Vis X.env.scope x := by first | exact Or.inl rfl | exact Or.inr (Or.inl rfl) | exact Or.inr (Or.inr rfl)) (hd : (x == ("__debug__" : Str)) = false := by decide)
    (hcd : (x == ("__classdict__" : Str)) = false := by decide) : DP X cl W cf Δ (.Name x pos) i 0 (pvE i) where
  good := fun ρ sd q => by
    unfold pvE at q
    cases z : ρ[i]? with
    | none => rw [z] at q; cases q
    | some o =>
      cases o with
      | none => rw [z] at q; cases q
      | some d =>
        rw [z] at q
        cases q
        exact ⟨d, rfl, rfl, rfl⟩
  walk := PE.imp (pe_var hN hv hd hcd) fun σ H Q ⟨E, F, ρ, fp, s, w⟩ => by
    unfold pvE at w
    cases z : ρ[i]? with
    | none => rw [z] at w; exact w.elim
    | some o =>
      cases o with
      | none => rw [z] at w; exact w.elim
      | some d =>
        rw [z] at w
        obtain ⟨v, n, f, h1, _⟩ := s.sl.get z
        exact ⟨v, h1, w F H v v s (Gr.refl s.le) h1 rfl⟩
theorem dp_fld (ha : DP X cl W cf Δ a i k p) (hΔ : ∃ m, Δ[i]? = some (m + (k + 1))) (hC : Cls X.K (cl c)) (hA : NoAttr X.K (cl c) f) (hb : attributeBase a f X.env (eval a X.env) = eval a X.env := by rfl) :
    DP X cl W cf Δ (.Attribute a f pos) i (k + 1) (pfE c f p) where
  good := fun ρ sd q => by
    unfold pfE at q
    cases z : p ρ with
    | ex x => rw [z] at q; cases q
    | bad => rw [z] at q; cases q
    | ok sd0 =>
      obtain ⟨d0, h1, h2, h3⟩ := ha.good ρ sd0 z
      rw [z] at q
      obtain ⟨ss, d⟩ := sd0
      cases d with
      | ins c' fds =>
        have q' : (if c' = c then (match fds.lookup f with | some e => .ok (ss ++ [.fld f], e) | none => .bad) else .bad) = Out.ok sd := q
        by_cases hc : c' = c
        · rw [if_pos hc] at q'
          cases y : fds.lookup f with
          | none => rw [y] at q'; cases q'
          | some e =>
            rw [y] at q'
            cases q'
            exact ⟨d0, h1, getP_snoc h2 (show fds.lookup f = some e from y), by
              show (ss ++ [_]).length = k + 1
              rw [List.length_append, h3]
              rfl⟩
        · rw [if_neg hc] at q'
          cases q'
      | _ => cases q
  walk := PE.imp (pe_fld ha.walk hb) fun σ H Q ⟨E, F, ρ, fp, s, w⟩ => by
    refine ⟨E, F, ρ, fp, s, ?_⟩
    unfold pfE at w
    cases z : p ρ with
    | ex x => rw [z] at w; exact w
    | bad => rw [z] at w; exact w
    | ok sd0 =>
      obtain ⟨d0, h1, h2, h3⟩ := ha.good ρ sd0 z
      rw [z] at w
      obtain ⟨ss, d⟩ := sd0
      cases d with
      | ins c' fds =>
        have w' : wpP X.K cl W cf E Δ i F H fp σ ρ (if c' = c then (match fds.lookup f with | some e => .ok (ss ++ [.fld f], e) | none => .bad) else .bad) Q := w
        by_cases hc : c' = c
        · rw [if_pos hc] at w'
          subst hc
          cases y : fds.lookup f with
          | none => rw [y] at w'; exact w'.elim
          | some e =>
            rw [y] at w'
            intro F1 H1 v0 v1 s1 gg e0 pv
            obtain ⟨m, hm⟩ := hΔ
            have h3' : ss.length = k := h3
            obtain ⟨v0', v1', f1, P⟩ := s1.place (m := m + 1) h1 (by rw [hm, h3']; congr 1; omega) h2
            have ev : v0' = v0 := by
              have := P.at_.symm.trans e0
              injection this with t
              injection t with t
            subst ev
            have ew := P.path.fn pv
            subst ew
            obtain ⟨b, dx, fvs, fq, q1, q2, q3, q4, q5⟩ := P.own
            obtain ⟨v2, _, _, _, l1, _⟩ := KRel.sel q5 y
            exact ⟨b, _, dx, fvs, v2, q1, q2, hC, hA, l1, w' F1 H1 v0' v2 s1 gg e0 (pv.snoc ⟨b, _, dx, fvs, q1, q2, l1⟩)⟩
        · rw [if_neg hc] at w'
          exact w'.elim
      | _ => exact w.elim
end
end DL

namespace DL
open PySem PySem.Spec PyProof.Rows L2
/-! ### dicts: items, membership, length -/
def rIxDk : R2 := fun x y H Q => ∃ a v, x = .ref a ∧ DGet H a y (some v) ∧ Q v H
theorem ix_dk {X : Cx} (hu : X.A.units + 1 < cLine) : IxR X rIxDk := by
  intro value slice pins s σ H x y v u Q I rx ry h hs
  obtain ⟨a, z, rfl, g, q⟩ := h
  obtain rfl : v = Value.ref a := rx
  exact tail_any (dict_typeIs I g) slot_dict_getitem.lookup (d_getItem hu I g ry fun w' s' I' r' => ⟨z, H, I', r', q⟩) hs
def rIxA (K : PySem.W.Frag) : R2 := fun x y H Q => rIx K x y H Q ∨ rIxDk x y H Q
theorem ix_all {X : Cx} (hu : X.A.units + 1 < cLine) : IxR X (rIxA X.K) := IxR.or ix_seq (ix_dk hu)
def keyOf : D → Option Key
  | .int i => some (.inl i)
  | .str s => some (.inr s)
  | _ => none
section
variable {K : PySem.W.Frag} {cl : Nat → Addr}
theorem rep_key {F : Hp} {d : D} {v : V} {k : Key} (h : keyOf d = some k) (r : Rep K cl F d v) : v = kV k := by
  cases d with
  | int i => cases h; exact r
  | str i => cases h; exact r
  | _ => cases h
theorem lookup_valV {F : Hp} {k : Key} : ∀ {kds : List (Key × D)} {kvs : List (Key × V)}, RepK K cl F kds kvs → (∀ d, kds.lookup k = some d → ∃ v, valV kvs k = some v ∧ Rep K cl F d v) ∧ (kds.lookup k = none → valV kvs k = none)
  | [], kvs, r => by
    rw [show kvs = [] from r]
    exact ⟨fun d e => (by cases e), fun _ => rfl⟩
  | (k0, d0) :: r, kvs, h => by
    obtain ⟨v, t, e, q, l⟩ := h
    subst e
    obtain ⟨h1, h2⟩ := lookup_valV (k := k) l
    by_cases c : k = k0
    · subst c
      have eb : (k == k) = true := beq_self_eq_true k
      refine ⟨fun d e => ?_, fun e => ?_⟩
      · rw [List.lookup_cons, eb] at e
        cases e
        exact ⟨v, valV_pos rfl, q⟩
      · rw [List.lookup_cons, eb] at e
        cases e
    · have eb : (k == k0) = false := by
        cases z : (k == k0) with
        | false => rfl
        | true => exact absurd (eq_of_beq z) c
      refine ⟨fun d e => ?_, fun e => ?_⟩
      · rw [List.lookup_cons, eb] at e
        obtain ⟨w, w1, w2⟩ := h1 d e
        exact ⟨w, by rw [valV_neg (fun z => c z.symm)]; exact w1, w2⟩
      · rw [List.lookup_cons, eb] at e
        rw [valV_neg (fun z => c z.symm)]
        exact h2 e
/-- d[k] of whatever -/
def ixA : D → D → Out D
  | .dic kds, y => (match keyOf y with
    | some k => (match kds.lookup k with
      | some d => .ok d
      | none => .bad)
    | none => .bad)
  | x, y => ixD x y
theorem sp_ixA : OpD K cl (rIxA K) 0 ixA := fun x y u v F H Q EX l hx hy w => by
  cases x with
  | dic kds =>
    have w' : wpE K cl 0 (match keyOf y with | some k => (match kds.lookup k with | some d => .ok d | none => .bad) | none => .bad) F H Q EX := w
    cases q : keyOf y with
    | none => rw [q] at w'; exact w'.elim
    | some k =>
      rw [q] at w'
      dsimp only at w'
      cases q2 : kds.lookup k with
      | none => rw [q2] at w'; exact w'.elim
      | some d =>
        rw [q2] at w'
        obtain ⟨a, kvs, rfl, ha, hl⟩ := hx
        obtain ⟨z, z1, z2⟩ := (lookup_valV hl).1 d q2
        refine .inr ⟨a, z, rfl, .inl ⟨kvs, k, (Le.of l).rd _ _ ha, rep_key q hy, z1.symm⟩, ?_⟩
        exact wpE.rep w' l z2
  | _ => exact .inl (sp_ix _ y u v F H Q EX l hx hy w)
/-- in, not in, of whatever -/
def inA (n : Bool) : D → D → Out D
  | x, .dic kds => (match keyOf x with
    | some k => .ok (.bl (if n then !(kds.lookup k).isSome else (kds.lookup k).isSome))
    | none => .bad)
  | x, y => inDn n x y
def rInDk (n : Bool) : R2 := fun x y H Q => ∃ a o, y = .ref a ∧ DGet H a x o ∧ Q (.bl (if n then !o.isSome else o.isSome)) H
theorem op_inDk {X : Cx} (hu : X.A.units + 1 < cLine) : OpR X (compareOp .In) (rInDk false) := by
  intro pins s σ H x y v u Q I rx ry h
  obtain ⟨a, o, rfl, g, q⟩ := h
  obtain rfl : u = Value.ref a := ry
  exact d_in hu I g rx fun s3 I3 => ⟨.bl o.isSome, H, I3, rfl, q⟩
theorem op_notInDk {X : Cx} (hu : X.A.units + 1 < cLine) : OpR X (compareOp .NotIn) (rInDk true) := by
  intro pins s σ H x y v u Q I rx ry h
  obtain ⟨a, o, rfl, g, q⟩ := h
  obtain rfl : u = Value.ref a := ry
  exact d_notIn hu I g rx fun s3 I3 => ⟨.bl (!o.isSome), H, I3, rfl, q⟩
def rInA (K : PySem.W.Frag) (n : Bool) : R2 := fun x y H Q => rInAll K n x y H Q ∨ rInDk n x y H Q
theorem op_inA {X : Cx} (hu : X.A.units + 1 < cLine) : OpR X (compareOp .In) (rInA X.K false) := OpR.or op_inAll (op_inDk hu)
theorem op_notInA {X : Cx} (hu : X.A.units + 1 < cLine) : OpR X (compareOp .NotIn) (rInA X.K true) := OpR.or op_notInAll (op_notInDk hu)
theorem sp_inA {r : Nat} {n : Bool} : OpD K cl (rInA K n) r (inA n) := fun x y u v F H Q EX l hx hy w => by
  cases y with
  | dic kds =>
    have w' : wpE K cl r (match keyOf x with | some k => .ok (.bl (if n then !(kds.lookup k).isSome else (kds.lookup k).isSome)) | none => .bad) F H Q EX := by
      cases x <;> exact w
    cases q : keyOf x with
    | none => rw [q] at w'; exact w'.elim
    | some k =>
      rw [q] at w'
      obtain ⟨a, kvs, rfl, ha, hl⟩ := hy
      refine .inr ⟨a, valV kvs k, rfl, .inl ⟨kvs, k, (Le.of l).rd _ _ ha, rep_key q hx, rfl⟩, ?_⟩
      have e : (valV kvs k).isSome = (kds.lookup k).isSome := by
        obtain ⟨h1, h2⟩ := lookup_valV (k := k) hl
        cases z : kds.lookup k with
        | none => rw [h2 z] <;> rfl
        | some d =>
          obtain ⟨y, y1, _⟩ := h1 d z
          rw [y1] <;> rfl
      rw [e]
      exact wpE.val w' (Gr.refl l) Own.bll
  | _ => exact .inl (sp_in x _ u v F H Q EX l hx hy (by cases x <;> exact w))
end
section
variable {X : Cx} {cl : Nat → Addr} {W : WX} {cf : Cf} {Δ : List Nat} {e a b : Expr} {h : DEnv → Out D} {i k m c : Nat} {pos : Pos} {p : Plc} {f : Str}
/-- the place o[k] -/
theorem dp_ix (ha : DP X cl W cf Δ a i k p) (hu : X.A.units + 1 < cLine) (hb : DG X cl W cf Δ b 0 h) (hΔ : ∃ m, Δ[i]? = some (m + (k + 1))) (hs : PlainIx b := by intro _ _; rfl) :
    DP X cl W cf Δ (.Subscript a b pos) i (k + 1) (pkE p h) where
  good := fun ρ sd q => by
    unfold pkE at q
    cases z : p ρ with
    | ex x => rw [z] at q; cases q
    | bad => rw [z] at q; cases q
    | ok sd0 =>
      obtain ⟨d0, h1, h2, h3⟩ := ha.good ρ sd0 z
      rw [z] at q
      have q1 : (h ρ).bind (pkS sd0) = .ok sd := q
      cases y : h ρ with
      | ex x => rw [y] at q1; cases q1
      | bad => rw [y] at q1; cases q1
      | ok kd =>
        rw [y] at q1
        have q2 : pkS sd0 kd = .ok sd := q1
        unfold pkS at q2
        cases y1 : selOf sd0.2 kd with
        | none => rw [y1] at q2; cases q2
        | some s =>
          rw [y1] at q2
          dsimp only at q2
          cases y2 : getS sd0.2 s with
          | none => rw [y2] at q2; cases q2
          | some e =>
            rw [y2] at q2
            cases q2
            exact ⟨d0, h1, getP_snoc h2 y2, by
              show (sd0.1 ++ [s]).length = k + 1
              rw [List.length_append, h3]
              rfl⟩
  walk := PE.imp (pe_ix (ix_all hu) ha.walk hb hs) fun σ H Q ⟨E, F, ρ, fp, s, w⟩ => by
    refine ⟨E, F, ρ, fp, s, ?_⟩
    unfold pkE at w
    cases z : p ρ with
    | ex x => rw [z] at w; exact w
    | bad => rw [z] at w; exact w
    | ok sd0 =>
      obtain ⟨d0, h1, h2, h3⟩ := ha.good ρ sd0 z
      rw [z] at w
      intro F1 H1 v0 v1 s1 gg e0 pv
      refine ⟨E, F1, ρ, fp, s1, ?_⟩
      have w1 : wpP X.K cl W cf E Δ i F H fp σ ρ ((h ρ).bind (pkS sd0)) Q := w
      cases y : h ρ with
      | ex x => rw [y] at w1; exact w1
      | bad => rw [y] at w1; exact w1
      | ok kd =>
        rw [y] at w1
        have w2 : wpP X.K cl W cf E Δ i F H fp σ ρ (pkS sd0 kd) Q := w1
        intro F2 H2 vk fv s2 g2 ok _ _
        obtain ⟨rk, ek⟩ := ok
        have pv2 := pv.mono g2.h
        unfold pkS at w2
        cases y1 : selOf sd0.2 kd with
        | none => rw [y1] at w2; exact w2.elim
        | some sl =>
          rw [y1] at w2
          dsimp only at w2
          cases y2 : getS sd0.2 sl with
          | none => rw [y2] at w2; exact w2.elim
          | some e =>
            rw [y2] at w2
            obtain ⟨m, hm⟩ := hΔ
            obtain ⟨v0', v1', f1, P⟩ := s2.place (m := m + 1) h1 (by rw [hm, h3]; congr 1; omega) h2
            have ev : v0' = v0 := by
              have := P.at_.symm.trans e0
              injection this with t
              injection t with t
            subst ev
            have ew := P.path.fn pv2
            subst ew
            obtain ⟨v2, _, _, sv, _⟩ := Own.sel P.own P.nd y2
            have fin := w2 F2 H2 v0' v2 s2 (gg.trans g2) e0 (pv2.snoc sv)
            have ow := P.own
            generalize sd0.2 = dd at y1 y2 ow
            cases dd with
            | lst ds =>
              cases kd with
              | int j =>
                have y1' : (ixN ds.length j).map Sel.ix = some sl := y1
                cases q : ixN ds.length j with
                | none => rw [q] at y1'; cases y1'
                | some n =>
                  rw [q] at y1'
                  cases y1'
                  obtain ⟨b1, vs, fq, e1, e2, e3, l⟩ := ow
                  obtain ⟨b2, vs2, q1, q2, q3⟩ := sv
                  rw [e1] at q1
                  cases q1
                  rw [e2] at q2
                  cases q2
                  refine .inl (.inl ⟨b1, vs, j, v2, e1, rk, SqL.of e2, ?_, fin⟩)
                  unfold L2.atI
                  rw [← LRel.length l, q]
                  exact q3
              | _ => cases y1
            | dic kds =>
              have hk : ∃ key, keyOf kd = some key ∧ sl = .key key := by
                cases kd with
                | int j => cases y1; exact ⟨_, rfl, rfl⟩
                | str j => cases y1; exact ⟨_, rfl, rfl⟩
                | _ => cases y1
              obtain ⟨key, hk1, hk2⟩ := hk
              subst hk2
              obtain ⟨b1, vs, fq, e1, e2, e3, l⟩ := ow
              obtain ⟨b2, vs2, q1, q2, q3⟩ := sv
              rw [e1] at q1
              cases q1
              rw [e2] at q2
              cases q2
              refine .inr ⟨b1, v2, e1, .inl ⟨vs, key, .inl e2, rep_key hk1 rk, ?_⟩, fin⟩
              clear e3 l e2 e1 P y2 w2 fin
              induction vs with
              | nil => cases q3
              | cons kv r ih =>
                obtain ⟨k0, x0⟩ := kv
                by_cases c : k0 = key
                · subst c
                  rw [List.lookup_cons, beq_self_eq_true] at q3
                  rw [valV_pos rfl]
                  exact q3.symm
                · have eb : (key == k0) = false := by
                    cases z : (key == k0) with
                    | false => rfl
                    | true => exact absurd (eq_of_beq z).symm c
                  rw [List.lookup_cons, eb] at q3
                  rw [valV_neg c]
                  exact ih q3
            | _ => cases kd <;> cases y1
end
end DL

namespace DL
open PySem PySem.Spec PyProof.Rows L2
section
variable {K : PySem.W.Frag} {cl : Nat → Addr} {pn : List Nat} {E : Ent pn} {Δ : List Nat} {F H F2 H2 : Hp} {ρ : DEnv} {σ : St} {fp f1 : List Addr} {i n : Nat} {ss : List Sel} {d0 : D} {v0 v1 : V}
theorem Gr.ours {l : Addr} (g : Gr F H F2 H2) (h : F l = none) (h2 : H l ≠ none) : F2 l = none := by
  cases q : F2 l with
  | none => rfl
  | some o => exact absurd (g.nw l h (by rw [q]; exact fun z => nomatch z)) h2
theorem same_put {F H : Hp} {l : Addr} {o : HO} (le : Same F H) (h : F l = none) : Same F (upd H l o) := fun a u e => by
  have : a ≠ l := fun z => by rw [z, h] at e; cases e
  rw [upd_ne this]
  exact le a u e
theorem place_lst {ds : List D} (s : StOk K cl E Δ F H ρ σ fp) (P : Place K cl E Δ F H ρ σ fp i ss d0 (n + 1) (.lst ds) v0 v1 f1) (g : Gr F H F2 H2) :
    ∃ l vs fq, v1 = .ref l ∧ H2 l = some (.lst vs) ∧ LRel (Own K cl n F2 H2) ds vs fq ∧ fq.Nodup ∧ l ∉ fq ∧ (∀ a ∈ fq, a ∈ fp) ∧ l ∈ fp ∧
      ∀ (es : List D) (us : List V) (gq : List Addr), LRel (Own K cl n F2 H2) es us gq → gq.Nodup → l ∉ gq → (∀ a ∈ gq, a ∈ fq ∨ (H a = none ∧ F2 a = none)) → ∃ fp', StOk K cl E Δ F2 (upd H2 l (.lst us)) (ρ.set i (some (putP d0 ss (.lst es)))) σ fp' ∧ ∀ a ∈ fp', (a ∈ fp ∧ a ∉ fq) ∨ a = l ∨ a ∈ gq := by
  obtain ⟨l, vs, fq, e1, e2, e3, lr⟩ := P.own
  subst e3
  obtain ⟨nl, nq⟩ := List.nodup_cons.mp P.nd
  have ml : l ∈ fp := P.sub l List.mem_cons_self
  have F2l : F2 l = none := g.ours (s.sep l ml) (by rw [e2]; exact fun z => nomatch z)
  refine ⟨l, vs, fq, e1, g.h l _ e2, LRel.imp (fun _ _ _ o => Own.same g.f g.h o) lr, nq, nl, fun a m => P.sub a (List.mem_cons_of_mem _ m), ml, fun es us gq lq ng nlg hg => ?_⟩
  subst e1
  have ob : ∀ a ∈ fq, F2 a = none := fun a m => g.ours (s.sep a (P.sub a (List.mem_cons_of_mem _ m))) fun z => s.fresh z (P.sub a (List.mem_cons_of_mem _ m))
  obtain ⟨fp', s', kd⟩ := P.back F2 (upd H2 l (.lst us)) (.lst es) (l :: gq) g.f (same_put g.le F2l) (fun a o z m => by
      have : a ≠ l := fun w => m (by rw [w]; exact List.mem_cons_self)
      rw [upd_ne this]
      exact g.h a o z) (fun a z w => .inl (g.nw a z w))
    ⟨l, us, gq, rfl, upd_same, rfl, LRel.impm (fun d v f m o => Own.keep (Same.refl _) (fun a q => upd_ne fun w => nlg (by rw [← w]; exact m a q)) o) lq⟩
    (List.nodup_cons.mpr ⟨nlg, ng⟩) (fun a m => by
      rcases List.mem_cons.mp m with m | m
      · rw [m]; exact ⟨F2l, .inr List.mem_cons_self⟩
      · rcases hg a m with z | z
        · exact ⟨ob a z, .inr (List.mem_cons_of_mem _ z)⟩
        · exact ⟨z.2, .inl z.1⟩)
  exact ⟨fp', s', fun a m => (kd a m).elim (fun z => .inl ⟨z.1, fun w => z.2 (List.mem_cons_of_mem _ w)⟩) fun z => (List.mem_cons.mp z).elim (fun w => .inr (.inl w)) fun w => .inr (.inr w)⟩
theorem place_dic {ds : List (Key × D)} (s : StOk K cl E Δ F H ρ σ fp) (P : Place K cl E Δ F H ρ σ fp i ss d0 (n + 1) (.dic ds) v0 v1 f1) (g : Gr F H F2 H2) :
    ∃ l vs fq, v1 = .ref l ∧ H2 l = some (.dK vs) ∧ KRel (Own K cl n F2 H2) ds vs fq ∧ fq.Nodup ∧ l ∉ fq ∧ (∀ a ∈ fq, a ∈ fp) ∧ l ∈ fp ∧
      ∀ (es : List (Key × D)) (us : List (Key × V)) (gq : List Addr), KRel (Own K cl n F2 H2) es us gq → gq.Nodup → l ∉ gq → (∀ a ∈ gq, a ∈ fq ∨ (H a = none ∧ F2 a = none)) → ∃ fp', StOk K cl E Δ F2 (upd H2 l (.dK us)) (ρ.set i (some (putP d0 ss (.dic es)))) σ fp' ∧ ∀ a ∈ fp', (a ∈ fp ∧ a ∉ fq) ∨ a = l ∨ a ∈ gq := by
  obtain ⟨l, vs, fq, e1, e2, e3, lr⟩ := P.own
  subst e3
  obtain ⟨nl, nq⟩ := List.nodup_cons.mp P.nd
  have ml : l ∈ fp := P.sub l List.mem_cons_self
  have F2l : F2 l = none := g.ours (s.sep l ml) (by rw [e2]; exact fun z => nomatch z)
  refine ⟨l, vs, fq, e1, g.h l _ e2, KRel.imp (fun _ _ _ o => Own.same g.f g.h o) lr, nq, nl, fun a m => P.sub a (List.mem_cons_of_mem _ m), ml, fun es us gq lq ng nlg hg => ?_⟩
  subst e1
  have ob : ∀ a ∈ fq, F2 a = none := fun a m => g.ours (s.sep a (P.sub a (List.mem_cons_of_mem _ m))) fun z => s.fresh z (P.sub a (List.mem_cons_of_mem _ m))
  obtain ⟨fp', s', kd⟩ := P.back F2 (upd H2 l (.dK us)) (.dic es) (l :: gq) g.f (same_put g.le F2l) (fun a o z m => by
      have : a ≠ l := fun w => m (by rw [w]; exact List.mem_cons_self)
      rw [upd_ne this]
      exact g.h a o z) (fun a z w => .inl (g.nw a z w))
    ⟨l, us, gq, rfl, upd_same, rfl, KRel.impm (fun d v f m o => Own.keep (Same.refl _) (fun a q => upd_ne fun w => nlg (by rw [← w]; exact m a q)) o) lq⟩
    (List.nodup_cons.mpr ⟨nlg, ng⟩) (fun a m => by
      rcases List.mem_cons.mp m with m | m
      · rw [m]; exact ⟨F2l, .inr List.mem_cons_self⟩
      · rcases hg a m with z | z
        · exact ⟨ob a z, .inr (List.mem_cons_of_mem _ z)⟩
        · exact ⟨z.2, .inl z.1⟩)
  exact ⟨fp', s', fun a m => (kd a m).elim (fun z => .inl ⟨z.1, fun w => z.2 (List.mem_cons_of_mem _ w)⟩) fun z => (List.mem_cons.mp z).elim (fun w => .inr (.inl w)) fun w => .inr (.inr w)⟩
theorem place_ins {c : Nat} {ds : List (Str × D)} (s : StOk K cl E Δ F H ρ σ fp) (P : Place K cl E Δ F H ρ σ fp i ss d0 (n + 1) (.ins c ds) v0 v1 f1) (g : Gr F H F2 H2) :
    ∃ l dx vs fq, v1 = .ref l ∧ H2 l = some (.ins (cl c) dx vs) ∧ KRel (Own K cl n F2 H2) ds vs fq ∧ fq.Nodup ∧ l ∉ fq ∧ dx ∉ fq ∧ (∀ a ∈ fq, a ∈ fp) ∧ l ∈ fp ∧ dx ∈ fp ∧
      ∀ (es : List (Str × D)) (us : List (Str × V)) (gq : List Addr), KRel (Own K cl n F2 H2) es us gq → gq.Nodup → l ∉ gq → dx ∉ gq → (∀ a ∈ gq, a ∈ fq ∨ (H a = none ∧ F2 a = none)) → ∃ fp', StOk K cl E Δ F2 (upd H2 l (.ins (cl c) dx us)) (ρ.set i (some (putP d0 ss (.ins c es)))) σ fp' ∧ ∀ a ∈ fp', (a ∈ fp ∧ a ∉ fq) ∨ a = l ∨ a = dx ∨ a ∈ gq := by
  obtain ⟨l, dx, vs, fq, e1, e2, e4, e3, lr⟩ := P.own
  subst e3
  obtain ⟨nl, nq'⟩ := List.nodup_cons.mp P.nd
  obtain ⟨nx, nq⟩ := List.nodup_cons.mp nq'
  have ml : l ∈ fp := P.sub l List.mem_cons_self
  have mx : dx ∈ fp := P.sub dx (List.mem_cons_of_mem _ List.mem_cons_self)
  have F2l : F2 l = none := g.ours (s.sep l ml) (by rw [e2]; exact fun z => nomatch z)
  have F2x : F2 dx = none := g.ours (s.sep dx mx) (by rw [e4]; exact fun z => nomatch z)
  have nlx : dx ≠ l := fun z => nl (by rw [z]; exact List.mem_cons_self)
  refine ⟨l, dx, vs, fq, e1, g.h l _ e2, KRel.imp (fun _ _ _ o => Own.same g.f g.h o) lr, nq, fun m => nl (List.mem_cons_of_mem _ m), nx, fun a m => P.sub a (List.mem_cons_of_mem _ (List.mem_cons_of_mem _ m)), ml, mx, fun es us gq lq ng nlg nxg hg => ?_⟩
  subst e1
  have ob : ∀ a ∈ fq, F2 a = none := fun a m => g.ours (s.sep a (P.sub a (List.mem_cons_of_mem _ (List.mem_cons_of_mem _ m)))) fun z => s.fresh z (P.sub a (List.mem_cons_of_mem _ (List.mem_cons_of_mem _ m)))
  obtain ⟨fp', s', kd⟩ := P.back F2 (upd H2 l (.ins (cl c) dx us)) (.ins c es) (l :: dx :: gq) g.f (same_put g.le F2l) (fun a o z m => by
      have : a ≠ l := fun w => m (by rw [w]; exact List.mem_cons_self)
      rw [upd_ne this]
      exact g.h a o z) (fun a z w => .inl (g.nw a z w))
    ⟨l, dx, us, gq, rfl, upd_same, by rw [upd_ne nlx]; exact g.h dx _ e4, rfl, KRel.impm (fun d v f m o => Own.keep (Same.refl _) (fun a q => upd_ne fun w => nlg (by rw [← w]; exact m a q)) o) lq⟩
    (List.nodup_cons.mpr ⟨fun m => by
      rcases List.mem_cons.mp m with m | m
      · exact nlx m.symm
      · exact nlg m, List.nodup_cons.mpr ⟨nxg, ng⟩⟩) (fun a m => by
      rcases List.mem_cons.mp m with m | m
      · rw [m]; exact ⟨F2l, .inr List.mem_cons_self⟩
      · rcases List.mem_cons.mp m with m | m
        · rw [m]; exact ⟨F2x, .inr (List.mem_cons_of_mem _ List.mem_cons_self)⟩
        · rcases hg a m with z | z
          · exact ⟨ob a z, .inr (List.mem_cons_of_mem _ (List.mem_cons_of_mem _ z))⟩
          · exact ⟨z.2, .inl z.1⟩)
  exact ⟨fp', s', fun a m => (kd a m).elim (fun z => .inl ⟨z.1, fun w => z.2 (List.mem_cons_of_mem _ (List.mem_cons_of_mem _ w))⟩) fun z => (List.mem_cons.mp z).elim (fun w => .inr (.inl w)) fun z => (List.mem_cons.mp z).elim (fun w => .inr (.inr (.inl w))) fun w => .inr (.inr (.inr w))⟩
end
/-! ### what a method of a list does to the list that stands at a place -/
/-- the result (told alone), the new items -/
abbrev LOp := List D → List D → Option (D × List D)
def opL (i : Nat) (p : Plc) (t : DEnv → Out (List D)) (op : LOp) : DEnv → EOut := fun ρ => match p ρ with
  | .ok (ss, .lst ds) => (match t ρ with
    | .ok as => (match op ds as, ρ[i]? with
      | some (d, es), some (some d0) => .ok d (ρ.set i (some (putP d0 ss (.lst es))))
      | _, _ => .bad)
    | .ex x => .ex x ρ
    | .bad => .bad)
  | .ex x => .ex x ρ
  | _ => .bad
section
variable (K : PySem.W.Frag) (cl : Nat → Addr) (W : WX) (cf : Cf) (E : Ent cf.pn)
def wpGA (Δ : List Nat) (r : Nat) (F H : Hp) (fp : List Addr) (σ : St) (ρ : DEnv) (o : Out (List D)) (Q : List V → Hp → Prop) : Prop := match o with
  | .ok ds => ∀ F' H' vs fv, StOk K cl E Δ F' H' ρ σ fp → Gr F H F' H' → LRel (Own K cl r F' H') ds vs fv → (∀ a ∈ fv, H a = none ∧ F' a = none) → fv.Nodup → Q vs H'
  | .ex x => exS K cl W cf E x ρ
  | .bad => False
end
def tGA (K : PySem.W.Frag) (cl : Nat → Addr) (W : WX) (cf : Cf) (Δ : List Nat) (r : Nat) (f : DEnv → Out (List D)) : TA := fun σ H Q => ∃ (E : Ent cf.pn) (F : Hp) (ρ : DEnv) (fp : List Addr), StOk K cl E Δ F H ρ σ fp ∧ wpGA K cl W cf E Δ r F H fp σ ρ (f ρ) Q
def DGA (X : Cx) (cl : Nat → Addr) (W : WX) (cf : Cf) (Δ : List Nat) (es : List Expr) (r : Nat) (f : DEnv → Out (List D)) : Prop := PA X es (tGA X.K cl W cf Δ r f)
section
variable {X : Cx} {cl : Nat → Addr} {W : WX} {cf : Cf} {Δ : List Nat} {e : Expr} {es : List Expr} {f : DEnv → Out D} {t : DEnv → Out (List D)} {r i k n : Nat} {p : Plc} {call : Expr}
theorem dga_nil : DGA X cl W cf Δ [] r nilA := PA.imp pa_nil fun σ H Q ⟨E, F, ρ, fp, s, w⟩ => w F H [] [] s (Gr.refl s.le) ⟨rfl, rfl⟩ (fun a m => by cases m) List.nodup_nil
theorem dga_cons (he : DG X cl W cf Δ e r f) (h : DGA X cl W cf Δ es r t) (hst : starEach (e :: es) X.env = (false, eval e X.env) :: starEach es X.env := by rfl) : DGA X cl W cf Δ (e :: es) r (consA f t) := PA.imp (pa_cons he h hst) fun σ H Q ⟨E, F, ρ, fp, s, w⟩ => by
  refine ⟨E, F, ρ, fp, s, ?_⟩
  unfold consA at w
  cases q : f ρ with
  | ex x => rw [q] at w; exact w
  | bad => rw [q] at w; exact w
  | ok d =>
    rw [q] at w
    intro F1 H1 v fv s1 g1 o1 a1 n1
    refine ⟨E, F1, ρ, fp, s1, ?_⟩
    have w1 : wpGA X.K cl W cf E Δ r F H fp σ ρ ((t ρ).bind fun xs => .ok (d :: xs)) Q := w
    cases q2 : t ρ with
    | ex x => rw [q2] at w1; exact w1
    | bad => rw [q2] at w1; exact w1
    | ok ds =>
      rw [q2] at w1
      intro F2 H2 vs fw s2 g2 l2 a2 n2
      have hd : ∀ a ∈ fv, a ∉ fw := fun a m m2 => absurd (a2 a m2).1 ((o1.ob a m).some)
      refine w1 F2 H2 (v :: vs) (fv ++ fw) s2 (g1.trans g2) ⟨v, vs, fv, fw, rfl, rfl, Own.same g2.f g2.h o1, l2⟩ (fun a m => ?_) (nodup_app n1 n2 hd)
      rcases List.mem_append.mp m with m | m
      · exact ⟨(a1 a m).1, g2.ours (a1 a m).2 (o1.ob a m).some⟩
      · exact ⟨g1.h.free (a2 a m).1, (a2 a m).2⟩
/-- o.m(..), o a place where a list of ours stands -/
theorem dx_lst {rd : V → List V → Hp → VK → Prop} {op : LOp} (good : ∀ ρ sd, p ρ = .ok sd → ∃ d0, ρ[i]? = some (some d0) ∧ getP d0 sd.1 = some sd.2 ∧ sd.1.length = k) (pe : PE X call (tBM X.K "list" rd (tP X.K cl W cf Δ i p) (tGA X.K cl W cf Δ n t))) (hΔ : Δ[i]? = some (n + 1 + k))
    (hop : ∀ (ds as : List D) (d : D) (es : List D), op ds as = some (d, es) → ∀ (F H : Hp) (l : Addr) (vs us : List V) (fq fa : List Addr) (Q : VK), Same F H → H l = some (.lst vs) → LRel (Own X.K cl n F H) ds vs fq → LRel (Own X.K cl n F H) as us fa → fq.Nodup → fa.Nodup → (∀ a ∈ fq, a ∉ fa) →
      (∀ (v : V) (ws : List V) (fv gq : List Addr), Own X.K cl r F H d v fv → LRel (Own X.K cl n F H) es ws gq → (fv ++ gq).Nodup → (∀ a ∈ fv ++ gq, a ∈ fq ∨ a ∈ fa) → Q v (upd H l (.lst ws))) → rd (.ref l) us H Q) :
    DX X cl W cf Δ Δ call r (opL i p t op) := PE.imp pe fun σ H Q ⟨E, F, ρ, fp, s, w⟩ => by
  refine ⟨E, F, ρ, fp, s, ?_⟩
  unfold opL at w
  cases z : p ρ with
  | ex x => rw [z] at w; exact w
  | bad => rw [z] at w; exact w.elim
  | ok sd =>
    obtain ⟨d0, h1, h2, h3⟩ := good ρ sd z
    rw [z] at w
    obtain ⟨ss, d⟩ := sd
    intro F1 H1 v0 v1 s1 g1 e0 pv
    cases d with
    | lst ds =>
      dsimp only at w
      obtain ⟨v0', v1', f1, P⟩ := s1.place (m := n + 1) h1 (by rw [hΔ, show ss.length = k from h3]) h2
      have ev : v0' = v0 := by
        have := P.at_.symm.trans e0
        injection this with t
        injection t with t
      subst ev
      have ew := P.path.fn pv
      subst ew
      obtain ⟨l, vs, fq, b1, b2, _⟩ := place_lst s1 P (Gr.refl s1.le)
      subst b1
      refine ⟨.inl ⟨rfl, vs, SqL.of b2⟩, E, F1, ρ, fp, s1, ?_⟩
      cases y : t ρ with
      | ex x => rw [y] at w; exact w
      | bad => rw [y] at w; exact w.elim
      | ok as =>
        rw [y, h1] at w
        dsimp only at w
        intro F2 H2 us fa s2 g2 la a2 na
        cases u : op ds as with
        | none => rw [u] at w; exact w.elim
        | some q =>
          obtain ⟨d, es⟩ := q
          rw [u] at w
          obtain ⟨l', vs', fq', c1, c2, c3, c4, c5, c6, c7, put⟩ := place_lst s1 P g2
          cases c1
          refine hop ds as d es u F2 H2 l vs' us fq' fa Q s2.le c2 c3 la c4 na (fun a m m2 => s1.fresh (a2 a m2).1 (c6 a m)) fun v ws fv gq ov lg nd sub => ?_
          have kind : ∀ a ∈ fv ++ gq, a ∈ fq' ∨ (H1 a = none ∧ F2 a = none) := fun a m => (sub a m).elim .inl fun z => .inr (a2 a z)
          have nlg : ∀ a ∈ fv ++ gq, a ≠ l := fun a m e => by
            rcases sub a m with z | z
            · exact c5 (by rw [← e]; exact z)
            · exact s1.fresh (a2 a z).1 (by rw [e]; exact c7)
          obtain ⟨fp', s3, kd⟩ := put es ws gq lg (nodup_r nd) (fun m => nlg l (List.mem_append_right _ m) rfl) fun a m => kind a (List.mem_append_right _ m)
          refine w F2 fp' _ v fv s3 (Own.keep (Same.refl _) (fun a m => upd_ne (nlg a (List.mem_append_left _ m))) ov) (fun a m => ⟨fun m2 => ?_, ?_, ?_⟩) (nodup_l nd)
          · rcases kd a m2 with z | z | z
            · rcases kind a (List.mem_append_left _ m) with y | y
              · exact z.2 y
              · exact s1.fresh y.1 z.1
            · exact nlg a (List.mem_append_left _ m) z
            · exact nodup_d nd m z
          · rcases kind a (List.mem_append_left _ m) with y | y
            · exact s2.sep a (c6 a y)
            · exact y.2
          · rcases kind a (List.mem_append_left _ m) with y | y
            · exact s1.nwO a (c6 a y)
            · exact s1.young y.1
    | _ => exact w.elim
end
end DL

namespace DL
open PySem PySem.Spec PyProof.Rows L2
theorem LRel.erase {P : D → V → List Addr → Prop} {d : D} : ∀ {ds : List D} {vs : List V} {fp : List Addr} {j : Nat}, LRel P ds vs fp → ds[j]? = some d →
    ∃ v f0 f1 f2, vs[j]? = some v ∧ fp = f0 ++ (f1 ++ f2) ∧ P d v f1 ∧ LRel P (ds.eraseIdx j) (vs.eraseIdx j) (f0 ++ f2)
  | [], _, _, j, _, e => by simp at e
  | d0 :: r, vs, fp, 0, h, e => by
    obtain ⟨v, t, f1, f2, e1, e2, p, l⟩ := h
    subst e1 e2
    simp at e
    subst e
    exact ⟨v, [], f1, f2, rfl, rfl, p, l⟩
  | d0 :: r, vs, fp, j + 1, h, e => by
    obtain ⟨v, t, f1, f2, e1, e2, p, l⟩ := h
    subst e1 e2
    simp at e
    obtain ⟨v1, g0, g1, g2, h1, h2, h3, h4⟩ := LRel.erase l e
    exact ⟨v1, f1 ++ g0, g1, g2, by simpa using h1, by rw [h2, List.append_assoc], h3, v, _, f1, g0 ++ g2, rfl, by rw [List.append_assoc], p, h4⟩
theorem LRel.app {P : D → V → List Addr → Prop} : ∀ {ds es : List D} {vs us : List V} {fp fq : List Addr}, LRel P ds vs fp → LRel P es us fq → LRel P (ds ++ es) (vs ++ us) (fp ++ fq)
  | [], _, _, _, _, _, h, k => by
    obtain ⟨e1, e2⟩ := h
    subst e1 e2
    exact k
  | d :: ds, _, _, _, _, _, h, k => by
    obtain ⟨v, t, f1, f2, e1, e2, p, l⟩ := h
    subst e1 e2
    exact ⟨v, _, f1, _, rfl, by rw [List.append_assoc], p, LRel.app l k⟩
theorem LRel.ins {P : D → V → List Addr → Prop} {d : D} {v : V} {f : List Addr} (p : P d v f) : ∀ {j : Nat} {ds : List D} {vs : List V} {fp : List Addr}, LRel P ds vs fp → ∃ fq, LRel P (ds.take j ++ d :: ds.drop j) (vs.take j ++ v :: vs.drop j) fq ∧ (∀ a ∈ fq, a ∈ fp ∨ a ∈ f) ∧ (fp.Nodup → f.Nodup → (∀ a ∈ fp, a ∉ f) → fq.Nodup)
  | 0, ds, vs, fp, h => ⟨f ++ fp, ⟨v, vs, f, fp, rfl, rfl, p, h⟩, fun a m => (List.mem_append.mp m).elim .inr .inl, fun n1 n2 n3 => nodup_app n2 n1 fun a m m2 => n3 a m2 m⟩
  | j + 1, [], vs, fp, h => by
    obtain ⟨e1, e2⟩ := h
    subst e1 e2
    exact ⟨f, ⟨v, [], f, [], rfl, by simp, p, rfl, rfl⟩, fun a m => .inr m, fun _ n2 _ => n2⟩
  | j + 1, d0 :: ds, vs, fp, h => by
    obtain ⟨v0, t, f1, f2, e1, e2, p0, l⟩ := h
    subst e1 e2
    obtain ⟨fq, h1, h2, h3⟩ := LRel.ins p (j := j) l
    refine ⟨f1 ++ fq, ⟨v0, _, f1, fq, rfl, rfl, p0, h1⟩, fun a m => ?_, fun n1 n2 n3 => nodup_app (nodup_l n1) (h3 (nodup_r n1) n2 fun a m => n3 a (List.mem_append_right _ m)) fun a m m2 => ?_⟩
    · rcases List.mem_append.mp m with m | m
      · exact .inl (List.mem_append_left _ m)
      · rcases h2 a m with z | z
        · exact .inl (List.mem_append_right _ z)
        · exact .inr z
    · rcases h2 a m2 with z | z
      · exact nodup_d n1 m z
      · exact n3 a (List.mem_append_left _ m) z
/-! ### the methods of lists -/
def appendO : LOp := fun ds as => match as with
  | [d] => if ds.length < sizeLine then some (.non, ds ++ [d]) else none
  | _ => none
def extendO : LOp := fun ds as => match as with
  | [.lst es] => if ds.length + es.length ≤ sizeLine then some (.non, ds ++ es) else none
  | _ => none
def popO : LOp := fun ds as => match as with
  | [] => (match ds[ds.length - 1]? with
    | some d => some (d, ds.eraseIdx (ds.length - 1))
    | none => none)
  | _ => none
def popAtO : LOp := fun ds as => match as with
  | [.int i] => (match ixN ds.length i with
    | some j => if ds.length < 2 ^ 62 then (match ds[j]? with
      | some d => some (d, ds.eraseIdx j)
      | none => none) else none
    | none => none)
  | _ => none
section
variable {X : Cx} {cl : Nat → Addr} {W : WX} {cf : Cf} {Δ : List Nat} {e o : Expr} {es : List Expr} {f : DEnv → Out D} {t : DEnv → Out (List D)} {r i k n : Nat} {p : Plc} {apos cpos : Pos}
theorem dx_append (ho : DP X cl W cf Δ o i k p) (he : DG X cl W cf Δ e n f) (hΔ : Δ[i]? = some (n + 1 + k) := by rfl)
    (hbase : attributeBase o "append" X.env (eval o X.env) = eval o X.env := by rfl)
    (hfew : ((backTo cpos (starEach [e] X.env)).all (fun x => !x.1) && (backToKw cpos (keywordEach [] X.env)).all (fun x => x.1.isSome)
      && decide ([e].length + ([] : List Keyword).length + (if ([] : List Keyword).isEmpty then 0 else 1) < 30)) = true := by rfl)
    (hline : (apos.endLine == cpos.line) = true := by rfl) (hs : starEach [e] X.env = (false, eval e X.env) :: starEach [] X.env := by rfl) (hplain : (backTo cpos (starEach [] X.env)).any (·.1) = false := by rfl) :
    DX X cl W cf Δ Δ (.Call (.Attribute o "append" apos) [e] [] cpos) r (opL i p (consA f nilA) appendO) :=
  dx_lst ho.good (pe_bm PySem.F.plainAttrs_list PySem.F.slot_list_append PySem.F.type_list_append mt_append ho.walk (dga_cons he dga_nil hs) hbase hfew hline hs hplain) hΔ fun ds as d es hop F H l vs us fq fa Q le hl lq la nq na dis q => by
    unfold appendO at hop
    match as, hop with
    | [d1], hop =>
      dsimp only at hop
      by_cases c : ds.length < sizeLine
      · rw [if_pos c] at hop
        cases hop
        obtain ⟨v, tt, g1, g2, e1, e2, pv, l0⟩ := la
        obtain ⟨e3, e4⟩ := l0
        subst e3 e4 e1 e2
        rw [List.append_nil] at na dis
        refine ⟨l, vs, v, rfl, rfl, hl, by rw [← LRel.length lq]; exact c, ?_⟩
        exact q .non _ [] (fq ++ g1) Own.nonn (LRel.snoc pv lq) (by rw [List.nil_append]; exact nodup_app nq na dis) fun a m => by
          rw [List.nil_append] at m
          rcases List.mem_append.mp m with m | m
          · exact .inl m
          · exact .inr (by rw [List.append_nil]; exact m)
      · rw [if_neg c] at hop
        cases hop
theorem dx_extend (ho : DP X cl W cf Δ o i k p) (he : DG X cl W cf Δ e 0 f) (hΔ : Δ[i]? = some (0 + 1 + k) := by rfl)
    (hbase : attributeBase o "extend" X.env (eval o X.env) = eval o X.env := by rfl)
    (hfew : ((backTo cpos (starEach [e] X.env)).all (fun x => !x.1) && (backToKw cpos (keywordEach [] X.env)).all (fun x => x.1.isSome)
      && decide ([e].length + ([] : List Keyword).length + (if ([] : List Keyword).isEmpty then 0 else 1) < 30)) = true := by rfl)
    (hline : (apos.endLine == cpos.line) = true := by rfl) (hs : starEach [e] X.env = (false, eval e X.env) :: starEach [] X.env := by rfl) (hplain : (backTo cpos (starEach [] X.env)).any (·.1) = false := by rfl) :
    DX X cl W cf Δ Δ (.Call (.Attribute o "extend" apos) [e] [] cpos) r (opL i p (consA f nilA) extendO) :=
  dx_lst ho.good (pe_bm PySem.F.plainAttrs_list PySem.F.slot_list_extend PySem.F.type_list_extend mt_extend ho.walk (dga_cons he dga_nil hs) hbase hfew hline hs hplain) hΔ fun ds as d es hop F H l vs us fq fa Q le hl lq la nq na dis q => by
    unfold extendO at hop
    match as, hop with
    | [.lst xs], hop =>
      dsimp only at hop
      by_cases c : ds.length + xs.length ≤ sizeLine
      · rw [if_pos c] at hop
        cases hop
        obtain ⟨v, tt, g1, g2, e1, e2, pv, l0⟩ := la
        obtain ⟨e3, e4⟩ := l0
        obtain ⟨rp, e5⟩ := pv
        subst e3 e4 e1 e2 e5
        obtain ⟨b, ws, rfl, hb, hw⟩ := rp
        refine ⟨l, b, vs, ws, rfl, rfl, hl, le _ _ hb, by rw [← LRel.length lq, ← hw.length]; exact c, ?_⟩
        exact q .non _ [] (fq ++ []) Own.nonn (LRel.app lq (LRel.of0 hw)) (by simpa using nq) fun a m => .inl (by simpa using m)
      · rw [if_neg c] at hop
        cases hop
theorem dx_popAt (ho : DP X cl W cf Δ o i k p) (he : DG X cl W cf Δ e n f) (hΔ : Δ[i]? = some (n + 1 + k) := by rfl)
    (hbase : attributeBase o "pop" X.env (eval o X.env) = eval o X.env := by rfl)
    (hfew : ((backTo cpos (starEach [e] X.env)).all (fun x => !x.1) && (backToKw cpos (keywordEach [] X.env)).all (fun x => x.1.isSome)
      && decide ([e].length + ([] : List Keyword).length + (if ([] : List Keyword).isEmpty then 0 else 1) < 30)) = true := by rfl)
    (hline : (apos.endLine == cpos.line) = true := by rfl) (hs : starEach [e] X.env = (false, eval e X.env) :: starEach [] X.env := by rfl) (hplain : (backTo cpos (starEach [] X.env)).any (·.1) = false := by rfl) :
    DX X cl W cf Δ Δ (.Call (.Attribute o "pop" apos) [e] [] cpos) n (opL i p (consA f nilA) popAtO) :=
  dx_lst ho.good (pe_bm PySem.F.plainAttrs_list PySem.F.slot_list_pop PySem.F.type_list_pop mt_popAt ho.walk (dga_cons he dga_nil hs) hbase hfew hline hs hplain) hΔ fun ds as d es hop F H l vs us fq fa Q le hl lq la nq na dis q => by
    unfold popAtO at hop
    match as, hop with
    | [.int i1], hop =>
      dsimp only at hop
      cases y : ixN ds.length i1 with
      | none => rw [y] at hop; cases hop
      | some j =>
        rw [y] at hop
        dsimp only at hop
        by_cases c : ds.length < 2 ^ 62
        · rw [if_pos c] at hop
          cases y2 : ds[j]? with
          | none => rw [y2] at hop; cases hop
          | some d1 =>
            rw [y2] at hop
            cases hop
            obtain ⟨v, tt, g1, g2, e1, e2, pv, l0⟩ := la
            obtain ⟨e3, e4⟩ := l0
            have ev : v = .int i1 := by
              cases n with
              | zero => exact pv.1
              | succ n => exact pv.1
            subst e3 e4 e1 e2 ev
            obtain ⟨v1, f0, f1, f2, h1, h2, h3, h4⟩ := LRel.erase lq y2
            subst h2
            obtain ⟨z1, z2, z3, z4⟩ := ixN_seq y
            have hlen := LRel.length lq
            refine ⟨l, vs, i1, j, v1, rfl, rfl, hl, by omega, by omega, by rw [← hlen]; exact z1, h1, ?_⟩
            refine q v1 _ f1 (f0 ++ f2) h3 h4 (nodup_app (nodup_l (nodup_r nq)) (nodup_app (nodup_l nq) (nodup_r (nodup_r nq)) fun a m m2 => nodup_d nq m (List.mem_append_right _ m2)) fun a m m2 => ?_) fun a m => .inl ?_
            · rcases List.mem_append.mp m2 with w | w
              · exact nodup_d nq w (List.mem_append_left _ m)
              · exact nodup_d (nodup_r nq) m w
            · rcases List.mem_append.mp m with m | m
              · exact List.mem_append_right _ (List.mem_append_left _ m)
              · rcases List.mem_append.mp m with m | m
                · exact List.mem_append_left _ m
                · exact List.mem_append_right _ (List.mem_append_right _ m)
        · rw [if_neg c] at hop
          cases hop
end
end DL

namespace DL
open PySem PySem.Spec PyProof.Rows L2
/-! ### o[k] = e -/
def putKD (kds : List (Key × D)) (k : Key) (d : D) : List (Key × D) := if (kds.any fun kv => decide (kv.1 = k)) = true then kds.map (fun kv => if kv.1 = k then (kv.1, d) else kv) else kds ++ [(k, d)]
/-- the container with d at k -/
def putC : D → D → D → Option D
  | .lst ds, .int j, d => (ixN ds.length j).map fun m => .lst (ds.set m d)
  | .dic kds, k, d => (match keyOf k with
    | some key => if kds.length < sizeLine then some (.dic (putKD kds key d)) else none
    | none => none)
  | _, _, _ => none
section
variable {K : PySem.W.Frag} {cl : Nat → Addr} {F H : Hp}
theorem KRel.zero {κ : Type} : ∀ {kds : List (κ × D)} {kvs : List (κ × V)} {fp : List Addr}, KRel (Own K cl 0 F H) kds kvs fp → fp = []
  | [], _, _, h => h.2
  | (k, d) :: r, _, _, h => by
    obtain ⟨v, t, f1, f2, e1, e2, p, l⟩ := h
    rw [e2, p.2, KRel.zero l]
    rfl
theorem KRel.map0 {k : Key} {d : D} {v : V} (p : Rep K cl F d v) : ∀ {kds : List (Key × D)} {kvs : List (Key × V)}, KRel (Own K cl 0 F H) kds kvs [] →
    KRel (Own K cl 0 F H) (kds.map fun kv => if kv.1 = k then (kv.1, d) else kv) (kvs.map fun kv => if kv.1 = k then (kv.1, v) else kv) []
  | [], _, h => by
    obtain ⟨e, _⟩ := h
    subst e
    exact ⟨rfl, rfl⟩
  | (k0, d0) :: r, _, h => by
    obtain ⟨v0, t, f1, f2, e1, e2, p0, l⟩ := h
    have z := KRel.zero l
    have z2 := p0.2
    subst e1 z z2
    have ih := KRel.map0 (k := k) p l
    rw [List.map_cons, List.map_cons]
    by_cases c : k0 = k
    · rw [if_pos c, if_pos c]
      exact ⟨v, _, [], [], rfl, rfl, ⟨p, rfl⟩, ih⟩
    · rw [if_neg c, if_neg c]
      exact ⟨v0, _, [], [], rfl, rfl, p0, ih⟩
theorem KRel.snoc0 {k : Key} {d : D} {v : V} (p : Rep K cl F d v) : ∀ {kds : List (Key × D)} {kvs : List (Key × V)}, KRel (Own K cl 0 F H) kds kvs [] → KRel (Own K cl 0 F H) (kds ++ [(k, d)]) (kvs ++ [(k, v)]) []
  | [], _, h => by
    obtain ⟨e, _⟩ := h
    subst e
    exact ⟨v, [], [], [], rfl, rfl, ⟨p, rfl⟩, rfl, rfl⟩
  | (k0, d0) :: r, _, h => by
    obtain ⟨v0, t, f1, f2, e1, e2, p0, l⟩ := h
    have z := KRel.zero l
    have z2 := p0.2
    subst e1 z z2
    exact ⟨v0, _, [], [], rfl, rfl, p0, KRel.snoc0 p l⟩
theorem KRel.any {k : Key} {P : D → V → List Addr → Prop} : ∀ {kds : List (Key × D)} {kvs : List (Key × V)} {fp : List Addr}, KRel P kds kvs fp → (kds.any fun kv => decide (kv.1 = k)) = (kvs.any fun kv => decide (kv.1 = k)) ∧ kds.length = kvs.length
  | [], _, _, h => by
    obtain ⟨e, _⟩ := h
    subst e
    exact ⟨rfl, rfl⟩
  | (k0, d0) :: r, _, _, h => by
    obtain ⟨v0, t, f1, f2, e1, e2, p0, l⟩ := h
    subst e1
    obtain ⟨h1, h2⟩ := KRel.any (k := k) l
    rw [List.any_cons, List.any_cons, h1, List.length_cons, List.length_cons, h2]
    exact ⟨rfl, rfl⟩
theorem KRel.put0 {k : Key} {d : D} {v : V} {kds : List (Key × D)} {kvs : List (Key × V)} {fp : List Addr} (p : Rep K cl F d v) (h : KRel (Own K cl 0 F H) kds kvs fp) : KRel (Own K cl 0 F H) (putKD kds k d) (putK kvs k v) [] := by
  have z := KRel.zero h
  subst z
  unfold putKD putK
  rw [(KRel.any (k := k) h).1]
  by_cases c : (kvs.any fun kv => decide (kv.1 = k)) = true
  · rw [if_pos c, if_pos c]
    exact KRel.map0 p h
  · rw [if_neg c, if_neg c]
    exact KRel.snoc0 p h
end
def putE (i : Nat) (p : Plc) (g h : DEnv → Out D) : DEnv → SOut := fun ρ => match g ρ with
  | .ok d => (match p ρ with
    | .ok (ss, c) => (match h ρ with
      | .ok kd => (match putC c kd d, ρ[i]? with
        | some c', some (some d0) => .next (ρ.set i (some (putP d0 ss c')))
        | _, _ => .bad)
      | .ex x => .ex x ρ
      | .bad => .bad)
    | .ex x => .ex x ρ
    | .bad => .bad)
  | .ex x => .ex x ρ
  | .bad => .bad
theorem PSet.or {X : Cx} {t t' : TSet} (h : PSet X t) (h' : PSet X t') : PSet X (fun o i v H Q => t o i v H Q ∨ t' o i v H Q) := by
  intro pins s σ H o i v ov iv u Q I ro ri rv q
  rcases q with q | q
  · exact h pins s σ H o i v ov iv u Q I ro ri rv q
  · exact h' pins s σ H o i v ov iv u Q I ro ri rv q
section
variable {X : Cx} {cl : Nat → Addr} {W : WX} {cf : Cf} {Δc Δ : List Nat} {e o b : Expr} {g h : DEnv → Out D} {i k n : Nat} {p : Plc} {pos pos' : Pos}
theorem ds_put {st : Stmt} (ho : DP X cl W cf Δ o i k p) (ps : PS X st (tAsg (tG X.K cl W cf Δ 0 g) (gSub (tP X.K cl W cf Δ i p) (tG X.K cl W cf Δ 0 h) (fun o i v H Q => rSetL o i v H Q ∨ rSetD o i v H Q)))) (hΔ : Δ[i]? = some (0 + 1 + k) := by rfl) :
    DS X cl W cf Δc Δ st Δ (putE i p g h) := PS.imp ps fun Dn σ H ⟨E, F, ρ, fp, s, w⟩ => by
  refine ⟨E, F, ρ, fp, s, ?_⟩
  unfold putE at w
  cases q : g ρ with
  | ex x => rw [q] at w; exact w
  | bad => rw [q] at w; exact w
  | ok d =>
    rw [q] at w
    intro F1 H1 v fv s1 g1 o1 a1 n1
    obtain ⟨rv, e1⟩ := o1
    refine ⟨E, F1, ρ, fp, s1, ?_⟩
    dsimp only at w
    cases z : p ρ with
    | ex x => rw [z] at w; exact w
    | bad => rw [z] at w; exact w.elim
    | ok sd =>
      obtain ⟨d0, h1, h2, h3⟩ := ho.good ρ sd z
      rw [z] at w
      obtain ⟨ss, c⟩ := sd
      dsimp only at w
      intro F2 H2 v0 v1 s2 g2 e0 pv
      refine ⟨E, F2, ρ, fp, s2, ?_⟩
      cases y : h ρ with
      | ex x => rw [y] at w; exact w
      | bad => rw [y] at w; exact w.elim
      | ok kd =>
        rw [y, h1] at w
        dsimp only at w
        intro F3 H3 vk fk s3 g3 o3 _ _
        obtain ⟨rk, ek⟩ := o3
        cases u : putC c kd d with
        | none => rw [u] at w; exact w.elim
        | some c' =>
          rw [u] at w
          have rv3 := (rv.mono g2.f).mono g3.f
          obtain ⟨v0', v1', f1, P⟩ := s2.place (m := 0 + 1) h1 (by rw [hΔ, show ss.length = k from h3]) h2
          have ev : v0' = v0 := by
            have := P.at_.symm.trans e0
            injection this with t
            injection t with t
          subst ev
          have ew := P.path.fn pv
          subst ew
          cases c with
          | lst ds =>
            cases kd with
            | int j =>
              have u' : (ixN ds.length j).map (fun m => D.lst (ds.set m d)) = some c' := u
              cases y2 : ixN ds.length j with
              | none => rw [y2] at u'; cases u'
              | some m =>
                rw [y2] at u'
                cases u'
                obtain ⟨l, vs, fq, b1, b2, lr, b4, b5, b6, b7, put⟩ := place_lst s2 P g3
                subst b1
                have zq := (LRel.zero lr).2
                subst zq
                have lr2 : LRel (Own X.K cl 0 F3 H3) (ds.set m d) (vs.set m v) [] := by
                  obtain ⟨fp', l1, _, l3⟩ := LRel.set (P := Own X.K cl 0 F3 H3) (i := m) (y := d) (v := v) (fy := []) ⟨rv3, rfl⟩ List.nodup_nil lr List.nodup_nil (fun a m => by cases m)
                  have : fp' = [] := (LRel.zero l1).2
                  rw [← this]
                  exact l1
                obtain ⟨fp', s4, _⟩ := put _ _ [] lr2 List.nodup_nil (fun m => by cases m) (fun a m => by cases m)
                exact .inl ⟨l, vs, j, m, rfl, rk, b2, by rw [← LRel.length lr]; exact y2, w F3 fp' σ _ s4⟩
            | _ => cases u
          | dic kds =>
            have u' : (match keyOf kd with | some key => if kds.length < sizeLine then some (D.dic (putKD kds key d)) else none | none => none) = some c' := u
            cases y2 : keyOf kd with
            | none => rw [y2] at u'; cases u'
            | some key =>
              rw [y2] at u'
              dsimp only at u'
              by_cases cc : kds.length < sizeLine
              · rw [if_pos cc] at u'
                cases u'
                obtain ⟨l, vs, fq, b1, b2, lr, b4, b5, b6, b7, put⟩ := place_dic s2 P g3
                subst b1
                obtain ⟨fp', s4, _⟩ := put _ _ [] (KRel.put0 (k := key) rv3 lr) List.nodup_nil (fun m => by cases m) (fun a m => by cases m)
                exact .inr ⟨l, _, rfl, .inl ⟨vs, key, b2, rep_key y2 rk, by rw [← (KRel.any (k := key) lr).2]; exact cc, rfl⟩, w F3 fp' σ _ s4⟩
              · rw [if_neg cc] at u'
                cases u'
          | _ => cases u
end
end DL

namespace DL
open PySem PySem.Spec PyProof.Rows L2
/-! ### fields -/
def putFD (f : Str) (d : D) : List (Str × D) → List (Str × D)
  | [] => [(f, d)]
  | (g, x) :: r => if g = f then (g, d) :: r else (g, x) :: putFD f d r
theorem KRel.putF {P : D → V → List Addr → Prop} {f : Str} {d : D} {v : V} {g : List Addr} (p : P d v g) : ∀ {kds : List (Str × D)} {kvs : List (Str × V)} {fp : List Addr}, KRel P kds kvs fp →
    ∃ fp', KRel P (putFD f d kds) (L2.putF f v kvs) fp' ∧ (∀ a ∈ fp', a ∈ fp ∨ a ∈ g) ∧ (fp.Nodup → g.Nodup → (∀ a ∈ fp, a ∉ g) → fp'.Nodup)
  | [], _, _, h => by
    obtain ⟨e1, e2⟩ := h
    subst e1 e2
    exact ⟨g, ⟨v, [], g, [], rfl, by simp, p, rfl, rfl⟩, fun a m => .inr m, fun _ n _ => n⟩
  | (k0, d0) :: r, _, _, h => by
    obtain ⟨v0, t, f1, f2, e1, e2, p0, l⟩ := h
    subst e1 e2
    unfold putFD L2.putF
    by_cases c : k0 = f
    · rw [if_pos c, if_pos c]
      refine ⟨g ++ f2, ⟨v, t, g, f2, rfl, rfl, p, l⟩, fun a m => ?_, fun n1 n2 n3 => nodup_app n2 (nodup_r n1) fun a m m2 => n3 a (List.mem_append_right _ m2) m⟩
      rcases List.mem_append.mp m with m | m
      · exact .inr m
      · exact .inl (List.mem_append_right _ m)
    · rw [if_neg c, if_neg c]
      obtain ⟨fq, h1, h2, h3⟩ := KRel.putF p l
      refine ⟨f1 ++ fq, ⟨v0, _, f1, fq, rfl, rfl, p0, h1⟩, fun a m => ?_, fun n1 n2 n3 => nodup_app (nodup_l n1) (h3 (nodup_r n1) n2 fun a m => n3 a (List.mem_append_right _ m)) fun a m m2 => ?_⟩
      · rcases List.mem_append.mp m with m | m
        · exact .inl (List.mem_append_left _ m)
        · rcases h2 a m with z | z
          · exact .inl (List.mem_append_right _ z)
          · exact .inr z
      · rcases h2 a m2 with z | z
        · exact nodup_d n1 m z
        · exact n3 a (List.mem_append_left _ m) z
theorem KRel.len {κ : Type} {P : D → V → List Addr → Prop} : ∀ {kds : List (κ × D)} {kvs : List (κ × V)} {fp : List Addr}, KRel P kds kvs fp → kds.length = kvs.length
  | [], _, _, h => by
    obtain ⟨e, _⟩ := h
    subst e
    rfl
  | (k0, d0) :: r, _, _, h => by
    obtain ⟨v0, t, f1, f2, e1, e2, p0, l⟩ := h
    subst e1
    rw [List.length_cons, List.length_cons, KRel.len l]
def fldS (c i : Nat) (p : Plc) (f : Str) (g : DEnv → Out D) : DEnv → SOut := fun ρ => match g ρ with
  | .ok d => (match p ρ with
    | .ok (ss, .ins c' fds) => (match ρ[i]? with
      | some (some d0) => if c' = c ∧ fds.length < 1000 then .next (ρ.set i (some (putP d0 ss (.ins c' (putFD f d fds))))) else .bad
      | _ => .bad)
    | .ex x => .ex x ρ
    | _ => .bad)
  | .ex x => .ex x ρ
  | .bad => .bad
def fldAug (c i : Nat) (p : Plc) (f : Str) (g : DEnv → Out D) : DEnv → SOut := fun ρ => match p ρ with
  | .ok (ss, .ins c' fds) => (match fds.lookup f, g ρ, ρ[i]? with
    | some (.int x), .ok (.int y), some (some d0) => if c' = c ∧ fds.length < 1000 then .next (ρ.set i (some (putP d0 ss (.ins c' (putFD f (.int (x + y)) fds))))) else .bad
    | some (.int _), .ex x, some (some _) => .ex x ρ
    | _, _, _ => .bad)
  | .ex x => .ex x ρ
  | _ => .bad
section
variable {X : Cx} {cl : Nat → Addr} {W : WX} {cf : Cf} {Δc Δ : List Nat} {e o : Expr} {g h : DEnv → Out D} {i k n c : Nat} {p : Plc} {pos pos' : Pos} {f : Str}
theorem ds_fld (ho : DP X cl W cf Δ o i k p) (he : DG X cl W cf Δ e n g) (hC : Cls X.K (cl c)) (hA : NoAttr X.K (cl c) f) (hΔ : Δ[i]? = some (n + 1 + k) := by rfl) (hs : swapsWith e (some (.Attribute o f pos')) pos.line X.env = pure false := by rfl) :
    DS X cl W cf Δc Δ (.Assign [.Attribute o f pos'] e pos) Δ (fldS c i p f g) := PS.imp (ps_fld ho.walk he hs) fun Dn σ H ⟨E, F, ρ, fp, s, w⟩ => by
  refine ⟨E, F, ρ, fp, s, ?_⟩
  unfold fldS at w
  cases q : g ρ with
  | ex x => rw [q] at w; exact w
  | bad => rw [q] at w; exact w
  | ok d =>
    rw [q] at w
    intro F1 H1 v fv s1 g1 o1 a1 n1
    refine ⟨E, F1, ρ, fp, s1, ?_⟩
    dsimp only at w
    cases z : p ρ with
    | ex x => rw [z] at w; exact w
    | bad => rw [z] at w; exact w.elim
    | ok sd =>
      obtain ⟨d0, h1, h2, h3⟩ := ho.good ρ sd z
      rw [z] at w
      obtain ⟨ss, cc⟩ := sd
      intro F2 H2 v0 v1 s2 g2 e0 pv
      cases cc with
      | ins c' fds =>
        dsimp only at w
        rw [h1] at w
        dsimp only at w
        have w' : wpS X.K cl W cf E Δc Δ (if c' = c ∧ fds.length < 1000 then .next (ρ.set i (some (putP d0 ss (.ins c' (putFD f d fds))))) else .bad) Dn := w
        by_cases hc : c' = c ∧ fds.length < 1000
        · rw [if_pos hc] at w'
          obtain ⟨hc1, hc2⟩ := hc
          subst hc1
          obtain ⟨v0', v1', f1, P⟩ := s.place (m := n + 1) h1 (by rw [hΔ, show ss.length = k from h3]) h2
          have ev : v0' = v0 := by
            have := P.at_.symm.trans e0
            injection this with t
            injection t with t
          subst ev
          have ew := (P.path.mono (g1.h.trans g2.h)).fn pv
          subst ew
          obtain ⟨l, dx, vs, fq, b1, b2, lr, b4, b5, b6, b7, b8, b9, put⟩ := place_ins s P (g1.trans g2)
          subst b1
          have dis : ∀ a ∈ fq, a ∉ fv := fun a m m2 => s.fresh (a1 a m2).1 (b7 a m)
          have fv2 : ∀ a ∈ fv, F2 a = none := fun a m => g2.ours (a1 a m).2 (o1.ob a m).some
          obtain ⟨fq', k1, k2, k3⟩ := KRel.putF (f := f) (Own.same g2.f g2.h o1) lr
          obtain ⟨fp', s4, _⟩ := put _ _ fq' k1 (k3 b4 n1 dis) (fun m => by
            rcases k2 l m with y | y
            · exact b5 y
            · exact s.fresh (a1 l y).1 b8) (fun m => by
            rcases k2 dx m with y | y
            · exact b6 y
            · exact s.fresh (a1 dx y).1 b9) (fun a m => (k2 a m).elim .inl fun y => .inr ⟨(a1 a y).1, fv2 a y⟩)
          exact ⟨l, _, dx, vs, rfl, b2, hC, hA, by rw [← KRel.len lr]; exact hc2, w' F2 fp' σ _ s4⟩
        · rw [if_neg hc] at w'
          exact w'.elim
      | _ => exact w.elim
end
/-! ### a field, read -/
def fldF (c : Nat) (f : Str) : D → Out D
  | .ins c' fds => if c' = c then (match fds.lookup f with
    | some d => .ok d
    | none => .bad) else .bad
  | _ => .bad
theorem RepF.get {K : PySem.W.Frag} {cl : Nat → Addr} {F : Hp} {f : Str} {d : D} : ∀ {fds : List (Str × D)} {fvs : List (Str × V)}, RepF K cl F fds fvs → fds.lookup f = some d → ∃ v, fvs.lookup f = some v ∧ Rep K cl F d v
  | [], _, _, e => by cases e
  | (k0, d0) :: r, _, h, e => by
    obtain ⟨v, t, e1, q, l⟩ := h
    subst e1
    cases b : (f == k0) with
    | true =>
      rw [List.lookup_cons, b] at e
      cases e
      exact ⟨v, by rw [List.lookup_cons, b], q⟩
    | false =>
      rw [List.lookup_cons, b] at e
      obtain ⟨w, w1, w2⟩ := RepF.get l e
      exact ⟨w, by rw [List.lookup_cons, b]; exact w1, w2⟩
section
variable {X : Cx} {cl : Nat → Addr} {W : WX} {e : Expr} {g : DEnv → Out D} {c : Nat} {pos : Pos} {f : Str}
theorem de_fld (he : DE X cl W e 0 g) (hC : Cls X.K (cl c)) (hA : NoAttr X.K (cl c) f) (hb : attributeBase e f X.env (eval e X.env) = eval e X.env := by rfl) : DE X cl W (.Attribute e f pos) 0 (un1E (fldF c f) g) :=
  PE.imp (pe_fld he hb) fun σ H Q ⟨F, ρ, l, s, w⟩ => ⟨F, ρ, l, s, w.bnd fun d F1 H1 v g1 q w1 => by
    cases d with
    | ins c' fds =>
      have w2 : wpE X.K cl 0 (if c' = c then (match fds.lookup f with | some d => .ok d | none => .bad) else .bad) F1 H1 Q (fun c dx H' => W c dx σ H') := w1
      by_cases hc : c' = c
      · rw [if_pos hc] at w2
        subst hc
        cases y : fds.lookup f with
        | none => rw [y] at w2; exact w2.elim
        | some d =>
          rw [y] at w2
          obtain ⟨a, dx, fvs, rfl, h1, h2, h3⟩ := q
          obtain ⟨u, u1, u2⟩ := RepF.get h3 y
          exact ⟨a, _, dx, fvs, u, rfl, g1.le _ _ h1, hC, hA, u1, wpE.rep w2 g1.le u2⟩
      · rw [if_neg hc] at w2
        exact w2.elim
    | _ => exact w1.elim⟩
end
end DL

namespace DL
open PySem PySem.Spec PyProof.Rows L2
/-! ### defs that change what their parameters hold -/
/-- the result, and what the parameters hold behind -/
inductive MOut where
  | ok (d : D) (ss : List D) | ex (x : Exn) (ss : List D) | bad
structure After (F H : Hp) (fp : List Addr) (F' H' : Hp) (fp' : List Addr) : Prop where
  f : Same F F'
  le : Same F' H'
  keep : ∀ a o, H a = some o → a ∉ fp → H' a = some o
  nw : ∀ a, F a = none → F' a ≠ none → H a = none ∨ a ∈ fp
  nd : fp'.Nodup
  out : ∀ a ∈ fp', F' a = none ∧ (H a = none ∨ a ∈ fp)
def wpM (K : PySem.W.Frag) (cl : Nat → Addr) (r : Nat) (ms : List Nat) (F H : Hp) (vs : List V) (fp : List Addr) (o : MOut) (Q : VK) (E : XK) : Prop := match o with
  | .ok d ss => ∀ F' H' fp' v fv, After F H fp F' H' fp' → SRel (fun n => Own K cl n F' H') ms (ss.map some) (vs.map some) fp' → Own K cl r F' H' d v fv → (∀ a ∈ fv, a ∉ fp' ∧ F' a = none ∧ (H a = none ∨ a ∈ fp)) → fv.Nodup → Q v H'
  | .ex x ss => ∀ F' H' fp' c dx fv, After F H fp F' H' fp' → SRel (fun n => Own K cl n F' H') ms (ss.map some) (vs.map some) fp' → XRep K cl F' x c dx H' fv → (∀ a ∈ fv, a ∉ fp' ∧ F' a = none ∧ (H a = none ∨ a ∈ fp)) → fv.Nodup → E c dx H'
  | .bad => False
def spM (K : PySem.W.Frag) (cl : Nat → Addr) (r : Nat) (ms : List Nat) (h : List D → MOut) : Sp := fun vs H Q E => ∃ F ds fp, Same F H ∧ (∀ a ∈ fp, F a = none) ∧ fp.Nodup ∧ SRel (fun n => Own K cl n F H) ms (ds.map some) (vs.map some) fp ∧ wpM K cl r ms F H vs fp (h ds) Q E
def backP : List Nat → List D → DEnv → Option (List D)
  | [], [], _ => some []
  | 0 :: ms, d :: ds, _ :: ρ => (backP ms ds ρ).map (d :: ·)
  | (_ + 1) :: ms, _ :: ds, some d' :: ρ => (backP ms ds ρ).map (d' :: ·)
  | _, _, _ => none
def fnM (ms : List Nat) (N : Nat) (b : DEnv → SOut) : List D → MOut := fun ds => if ds.length = ms.length then (match b (ds.map some ++ List.replicate (N - ms.length) none) with
  | .ret d ρ => (match backP ms ds ρ with
    | some ss => .ok d ss
    | none => .bad)
  | .next ρ => (match backP ms ds ρ with
    | some ss => .ok .non ss
    | none => .bad)
  | .ex x ρ => (match backP ms ds ρ with
    | some ss => .ex x ss
    | none => .bad)
  | _ => .bad) else .bad
/-- the slots that hold: those of the depths above nought -/
def pnOf : Nat → List Nat → List Nat
  | _, [] => []
  | j, 0 :: ms => pnOf (j + 1) ms
  | j, (_ + 1) :: ms => j :: pnOf (j + 1) ms
def pinOf : Nat → List Nat → List V → List (Nat × V)
  | j, (_ + 1) :: ms, v :: vs => (j, v) :: pinOf (j + 1) ms vs
  | j, 0 :: ms, _ :: vs => pinOf (j + 1) ms vs
  | _, _, _ => []
theorem pin_pn : ∀ {j : Nat} {ms : List Nat} {vs : List V}, ∀ p ∈ pinOf j ms vs, p.1 ∈ pnOf j ms
  | j, [], vs, p, m => by cases vs <;> cases m
  | j, 0 :: ms, [], p, m => by cases m
  | j, (_ + 1) :: ms, [], p, m => by cases m
  | j, 0 :: ms, v :: vs, p, m => pin_pn (j := j + 1) (ms := ms) (vs := vs) p m
  | j, (n + 1) :: ms, v :: vs, p, m => by
    rcases List.mem_cons.mp m with m | m
    · rw [m]; exact List.mem_cons_self
    · exact List.mem_cons_of_mem _ (pin_pn (j := j + 1) (ms := ms) (vs := vs) p m)
section
variable {K : PySem.W.Frag} {cl : Nat → Addr} {F H F' H' : Hp}
theorem pin_start : ∀ {ms : List Nat} {vs : List V} {pre : St} {rest : St}, ∀ p ∈ pinOf pre.length ms vs, (pre ++ (vs.map some ++ rest))[p.1]? = some (some p.2)
  | [], vs, pre, rest, p, m => by cases vs <;> cases m
  | 0 :: ms, [], pre, rest, p, m => by cases m
  | (_ + 1) :: ms, [], pre, rest, p, m => by cases m
  | 0 :: ms, v :: vs, pre, rest, p, m => by
    have := pin_start (ms := ms) (vs := vs) (pre := pre ++ [some v]) (rest := rest) p (by rw [List.length_append]; exact m)
    simpa using this
  | (n + 1) :: ms, v :: vs, pre, rest, p, m => by
    rcases List.mem_cons.mp m with m | m
    · rw [m]
      simp
    · have := pin_start (ms := ms) (vs := vs) (pre := pre ++ [some v]) (rest := rest) p (by rw [List.length_append]; exact m)
      simpa using this
theorem srel_start : ∀ {ms : List Nat} {ds : List D} {vs : List V} {fp : List Addr} {m : Nat}, SRel (fun n => Own K cl n F H) ms (ds.map some) (vs.map some) fp → SRel (fun n => Own K cl n F H) (ms ++ List.replicate m 0) (ds.map some ++ List.replicate m none) (vs.map some ++ List.replicate m none) fp
  | [], [], [], fp, m, h => by
    have e : fp = [] := h
    rw [e]
    induction m with
    | zero => rfl
    | succ m ih =>
      rw [List.replicate_succ, List.replicate_succ, List.replicate_succ]
      exact ⟨[], [], rfl, rfl, ih⟩
  | n :: ms, d :: ds, v :: vs, fp, m, h => by
    obtain ⟨f1, f2, e, q, l⟩ := h
    exact ⟨f1, f2, e, q, srel_start l⟩
  | [], [], _ :: _, _, _, h => h.elim
  | [], _ :: _, [], _, _, h => h.elim
  | [], _ :: _, _ :: _, _, _, h => h.elim
  | _ :: _, [], [], _, _, h => h.elim
  | _ :: _, [], _ :: _, _, _, h => h.elim
  | _ :: _, _ :: _, [], _, _, h => h.elim
theorem srel_zfp : ∀ {zl : List Nat} {ρ : DEnv} {σ : St} {fp : List Addr}, (∀ n ∈ zl, n = 0) → SRel (fun n => Own K cl n F' H') zl ρ σ fp → fp = []
  | [], [], [], fp, _, h => h
  | z :: zl, o :: ρ, u :: σ, fp, hz, h => by
    obtain ⟨f1, f2, e, q, l⟩ := h
    have i2 := srel_zfp (fun n m => hz n (List.mem_cons_of_mem _ m)) l
    have z0 := hz z List.mem_cons_self
    subst z0 e i2
    cases o with
    | none => exact (List.append_nil _).trans q
    | some d =>
      obtain ⟨v, _, q1⟩ := q
      rw [q1.2]
      rfl
  | [], [], _ :: _, _, _, h => h.elim
  | [], _ :: _, [], _, _, h => h.elim
  | [], _ :: _, _ :: _, _, _, h => h.elim
  | _ :: _, [], [], _, _, h => h.elim
  | _ :: _, [], _ :: _, _, _, h => h.elim
  | _ :: _, _ :: _, [], _, _, h => h.elim
/-- at the end: what the parameters hold -/
theorem srel_back : ∀ {ms : List Nat} {ds ss : List D} {vs : List V} {fp : List Addr} {zl : List Nat} {pre ρ' : DEnv} {spre σ' : St} {fp' : List Addr}, (∀ n ∈ zl, n = 0) → SRel (fun n => Own K cl n F H) ms (ds.map some) (vs.map some) fp → SRel (fun n => Own K cl n F' H') (ms ++ zl) ρ' σ' fp' →
    (∀ p ∈ pinOf spre.length ms vs, (spre ++ σ')[p.1]? = some (some p.2)) → Same F F' → backP ms ds ρ' = some ss → SRel (fun n => Own K cl n F' H') ms (ss.map some) (vs.map some) fp'
  | [], [], ss, [], fp, zl, pre, ρ', spre, σ', fp', hz, h, h', _, _, e => by
    have e1 : ss = [] := by
      have : some ([] : List D) = some ss := e
      exact (Option.some.inj this).symm
    subst e1
    exact srel_zfp hz h'
  | 0 :: ms, d :: ds, ss, v :: vs, fp, zl, pre, ρ', spre, σ', fp', hz, h, h', hp, sf, e => by
    obtain ⟨f1, f2, e1, q, l⟩ := h
    cases ρ' with
    | nil => cases e
    | cons o ρ =>
      cases σ' with
      | nil => exact h'.elim
      | cons u σ =>
        obtain ⟨g1, g2, e2, q2, l2⟩ := h'
        have e' : (backP ms ds ρ).map (d :: ·) = some ss := e
        cases z : backP ms ds ρ with
        | none => rw [z] at e'; cases e'
        | some s2 =>
          rw [z] at e'
          cases e'
          obtain ⟨w, ew, ow⟩ := q
          cases ew
          have g0 : g1 = [] := by
            cases o with
            | none => exact q2
            | some d' => obtain ⟨v', _, y⟩ := q2; exact y.2
          subst g0
          exact ⟨[], g2, e2, ⟨v, rfl, ow.1.mono sf, rfl⟩, srel_back (pre := pre ++ [o]) (spre := spre ++ [u]) hz l l2 (fun p m => by
            have := hp p (by rw [List.length_append] at m; exact m)
            simpa using this) sf z⟩
  | (n + 1) :: ms, d :: ds, ss, v :: vs, fp, zl, pre, ρ', spre, σ', fp', hz, h, h', hp, sf, e => by
    obtain ⟨f1, f2, e1, q, l⟩ := h
    cases ρ' with
    | nil => cases e
    | cons o ρ =>
      cases σ' with
      | nil => exact h'.elim
      | cons u σ =>
        obtain ⟨g1, g2, e2, q2, l2⟩ := h'
        cases o with
        | none => cases e
        | some d' =>
          have e' : (backP ms ds ρ).map (d' :: ·) = some ss := e
          cases z : backP ms ds ρ with
          | none => rw [z] at e'; cases e'
          | some s2 =>
            rw [z] at e'
            cases e'
            obtain ⟨w, ew, ow⟩ := q2
            have hv := hp (spre.length, v) List.mem_cons_self
            have hu : u = some v := by
              have : (spre ++ u :: σ)[spre.length]? = some u := by simp
              exact Option.some.inj (this.symm.trans hv)
            rw [hu] at ew
            cases ew
            exact ⟨g1, g2, e2, ⟨v, rfl, ow⟩, srel_back (pre := pre ++ [some d']) (spre := spre ++ [u]) hz l l2 (fun p m => by
              have := hp p (List.mem_cons_of_mem _ (by rw [List.length_append] at m; exact m))
              simpa using this) sf z⟩
  | [], [], _, _ :: _, _, _, _, _, _, _, _, _, h, _, _, _, _ => h.elim
  | [], _ :: _, _, [], _, _, _, _, _, _, _, _, h, _, _, _, _ => h.elim
  | [], _ :: _, _, _ :: _, _, _, _, _, _, _, _, _, h, _, _, _, _ => h.elim
  | _ :: _, [], _, [], _, _, _, _, _, _, _, _, h, _, _, _, _ => h.elim
  | _ :: _, [], _, _ :: _, _, _, _, _, _, _, _, _, h, _, _, _, _ => h.elim
  | _ :: _, _ :: _, _, [], _, _, _, _, _, _, _, _, h, _, _, _, _ => h.elim
end
end DL

namespace DL
open PySem PySem.Spec PyProof.Rows L2
section
variable {P : Program} {w : World} {K : PySem.W.Frag} {mg : Str → Option Value} {base : Heap} {cl : Nat → Addr}
theorem StOk.after {pn : List Nat} {F H : Hp} {fp : List Addr} {pin : List (Nat × V)} {hpin : ∀ p ∈ pin, p.1 ∈ pn} {Δ : List Nat} {F' H' : Hp} {ρ : DEnv} {σ : St} {fp' : List Addr} (s : StOk K cl (⟨F, H, fp, pin, hpin⟩ : Ent pn) Δ F' H' ρ σ fp') : After F H fp F' H' fp' :=
  ⟨s.f0, s.le, s.keep, s.nwF, s.nd, fun a m => ⟨s.sep a m, s.nwO a m⟩⟩
theorem srel_lenD {Q : Nat → D → V → List Addr → Prop} : ∀ {ms : List Nat} {ds : List D} {vs : List V} {fp : List Addr}, SRel Q ms (ds.map some) (vs.map some) fp → ds.length = ms.length ∧ vs.length = ms.length := fun h => by
  have := SRel.len h
  simp at this
  omega
theorem wpM_len {r N : Nat} {ms : List Nat} {b : DEnv → SOut} {F H : Hp} {vs : List V} {fp : List Addr} {ds : List D} {Q : VK} {E : XK} (h : wpM K cl r ms F H vs fp (fnM ms N b ds) Q E) : ds.length = ms.length := by
  unfold fnM at h
  by_cases c : ds.length = ms.length
  · exact c
  · rw [if_neg c] at h
    exact h.elim
theorem spM_len {r N : Nat} {ms : List Nat} {b : DEnv → SOut} {ps : List Str} (hm : ms.length = ps.length) (vs : List V) (H : Hp) (Q : VK) (E : XK) (h : spM K cl r ms (fnM ms N b) vs H Q E) : vs.length = ps.length := by
  obtain ⟨F, ds, fp, _, _, _, rel, w⟩ := h
  rw [(srel_lenD rel).2]
  exact hm
/-- a def that changes what its parameters hold keeps its promise, by its body -/
theorem ok_ofM {x qual : Str} {params : Arguments} {body : List Stmt} {scope : Scope} {N ps : List Str} {dvs : List V} {f : Addr} {fd : FuncData} {k r : Nat} {ms : List Nat} {b : DEnv → SOut} {Δ' : List Nat} (F0 : FunD K x qual params body scope dvs [] f fd) (S : FnScope N ps scope)
    (hm : ms.length = ps.length) (hpt : ptB Δ' (ms ++ List.replicate (N.length - ms.length) 0) = true)
    (hb : ∀ (f : Addr) (cdv : Value) (A : Around) (outer : List Env) (s : Shared) (H : Hp) (E : XK), Room k (A.deeper (envOfC qual scope s.heap.objs.size f cdv)) →
      DSs (cxOf (L2N.CX P w) P w K mg base N qual scope f cdv A outer s H E) cl (fun c d _ H => E c d H) ⟨r, ms ++ List.replicate (N.length - ms.length) 0, pnOf 0 ms⟩ (ms ++ List.replicate (N.length - ms.length) 0) (ms ++ List.replicate (N.length - ms.length) 0) body Δ' b) :
    FnOk P w K mg base (L2N.CX P w) (k + 1) f fd ps (spM K cl r ms (fnM ms N.length b)) := by
  refine F0.ok S (spM_len hm) (fun cdv A outer s H vs Q E hr hsp => ⟨_, hb f cdv A outer s H E hr, ?_⟩)
  have hl := spM_len hm _ _ _ _ hsp
  obtain ⟨F, ds, fp, l, sep, nd, rel, wm⟩ := hsp
  have hd := wpM_len wm
  unfold fnM at wm
  rw [if_pos hd] at wm
  refine ⟨⟨F, H, fp, pinOf 0 ms vs, pin_pn⟩, F, ds.map some ++ List.replicate (N.length - ms.length) none, fp, ⟨l, sep, nd, ?_, fun a o e _ => e, Same.refl F, fun _ e n => absurd e n, fun a m => .inr m, ?_⟩, ?_⟩
  · unfold L2.start
    rw [hl, ← hm]
    exact srel_start rel
  · unfold L2.start
    intro p m
    have := pin_start (ms := ms) (vs := vs) (pre := []) (rest := List.replicate (N.length - vs.length) none) p m
    simpa using this
  · have fin : ∀ {ρ' : DEnv} {ss : List D} {F' H' : Hp} {σ' : St} {fp' : List Addr}, StOk K cl (⟨F, H, fp, pinOf 0 ms vs, pin_pn⟩ : Ent (pnOf 0 ms)) (ms ++ List.replicate (N.length - ms.length) 0) F' H' ρ' σ' fp' → backP ms ds ρ' = some ss → SRel (fun n => Own K cl n F' H') ms (ss.map some) (vs.map some) fp' := fun s e =>
      srel_back (pre := []) (spre := []) (fun n m => List.eq_of_mem_replicate m) rel s.sl (fun p m => by simpa using s.pn p m) s.f0 e
    cases q : b (ds.map some ++ List.replicate (N.length - ms.length) none) with
    | next ρ' =>
      rw [q] at wm
      dsimp only at wm
      intro F' fp' σ' H' s'
      cases z : backP ms ds ρ' with
      | none => rw [z] at wm; exact wm.elim
      | some ss =>
        rw [z] at wm
        obtain ⟨F2, fp2, b1, b2, b3, s2⟩ := s'.part hpt
        exact wm F2 H' fp2 .non [] s2.after (fin s2 z) Own.nonn (fun a m => by cases m) List.nodup_nil
    | ret d ρ' =>
      rw [q] at wm
      dsimp only at wm
      intro F' fp' σ' H' v fv s' o a n
      cases z : backP ms ds ρ' with
      | none => rw [z] at wm; exact wm.elim
      | some ss =>
        rw [z] at wm
        exact wm F' H' fp' v fv s'.after (fin s' z) o a n
    | ex x ρ' =>
      rw [q] at wm
      dsimp only at wm
      intro F' fp' σ' H' c dx fv s' o a n
      cases z : backP ms ds ρ' with
      | none => rw [z] at wm; exact wm.elim
      | some ss =>
        rw [z] at wm
        exact wm F' H' fp' c dx fv s'.after (fin s' z) o a n
    | brk ρ' => rw [q] at wm; exact wm.elim
    | cont ρ' => rw [q] at wm; exact wm.elim
    | bad => rw [q] at wm; exact wm.elim
/-- a def that changes nothing, with its qualified name -/
theorem ok_of {x qual : Str} {params : Arguments} {body : List Stmt} {scope : Scope} {N ps : List Str} {dvs : List V} {f : Addr} {fd : FuncData} {k r : Nat} {b : DEnv → SOut} {Δ' : List Nat} (F0 : FunD K x qual params body scope dvs [] f fd) (S : FnScope N ps scope)
    (hb : ∀ (f : Addr) (cdv : Value) (A : Around) (outer : List Env) (s : Shared) (H : Hp) (E : XK), Room k (A.deeper (envOfC qual scope s.heap.objs.size f cdv)) →
      DSs (cxOf (L2N.CX P w) P w K mg base N qual scope f cdv A outer s H E) cl (fun c d _ H => E c d H) ⟨r, List.replicate N.length 0, []⟩ (List.replicate N.length 0) (List.replicate N.length 0) body Δ' b) :
    FnOk P w K mg base (L2N.CX P w) (k + 1) f fd ps (spD K cl r (fnD ps.length N.length b)) := by
  refine F0.ok S spD_len (fun cdv A outer s H vs Q E hr hsp => ⟨_, hb f cdv A outer s H E hr, ?_⟩)
  have hl := spD_len _ _ _ _ hsp
  obtain ⟨F, ds, l, rl, w⟩ := hsp
  have hle : ps.length ≤ N.length := by
    have e := congrArg List.length S.pre
    rw [List.length_take] at e
    omega
  have hd : ds.length = ps.length := by rw [rl.length]; exact hl
  unfold fnD at w
  rw [if_pos hd] at w
  refine ⟨Ent.of F H, F, ds.map some ++ List.replicate (N.length - ps.length) none, [], ⟨l, (fun a m => by cases m), List.nodup_nil, ?_, fun a o e _ => e, Same.refl F, fun _ e n => absurd e n, (fun a m => by cases m), (fun p m => by cases m)⟩, wpS_fn trivial w⟩
  have z := srel0 (H := H) (m := N.length - ps.length) rl
  rw [show ds.length + (N.length - ps.length) = N.length by omega] at z
  unfold L2.start
  rw [hl]
  exact z
end
end DL

namespace DL
open PySem PySem.Spec PyProof.Rows L2
/-! ### calls whose first argument is a place of ours -/
def callS (i : Nat) (ok1 : D → Bool) (p : Plc) (t : DEnv → Out (List D)) (h : List D → MOut) : DEnv → EOut := fun ρ => match p ρ with
  | .ok (ss, d1) => if ok1 d1 = true then (match t ρ with
    | .ok ds => (match h (d1 :: ds), ρ[i]? with
      | .ok d (s0 :: _), some (some d0) => .ok d (ρ.set i (some (putP d0 ss s0)))
      | .ex x (s0 :: _), some (some d0) => .ex x (ρ.set i (some (putP d0 ss s0)))
      | _, _ => .bad)
    | .ex x => .ex x ρ
    | .bad => .bad) else .bad
  | .ex x => .ex x ρ
  | .bad => .bad
section
variable {K : PySem.W.Frag} {cl : Nat → Addr} {W : WX} {cf : Cf} {E : Ent cf.pn} {Δ : List Nat}
/-- what is wished for of an exception, from where the body stands -/
theorem exS.use {F H : Hp} {ρ : DEnv} {σ : St} {fp fv : List Addr} {x : Exn} {c : Value} {dx : Option Addr} (w : exS K cl W cf E x ρ) (s : StOk K cl E Δ F H ρ σ fp) (hp : ptB Δ cf.Δr = true) (e : XRep K cl F x c dx H fv) (a : ∀ a ∈ fv, a ∉ fp ∧ F a = none ∧ (E.H0 a = none ∨ a ∈ E.fp0)) (n : fv.Nodup) : W c dx σ H := by
  obtain ⟨F2, fp2, a1, a2, a3, s2⟩ := s.part hp
  have e2 : XRep K cl F2 x c dx H fv := e.imm fun a xs q => Same.sqT a1 q
  refine w F2 fp2 σ H c dx fv s2 e2 (fun b m => ⟨fun m2 => (a b m).1 (a3 b m2), ?_, (a b m).2.2⟩) n
  cases q : F2 b with
  | none => rfl
  | some o => exact absurd (a2 b (a b m).2.1 (by rw [q]; exact fun z => nomatch z)) (a b m).1
theorem srel_z : ∀ {F H : Hp} {ds : List D} {vs : List V}, RepL K cl F ds vs → SRel (fun n => Own K cl n F H) (List.replicate ds.length 0) (ds.map some) (vs.map some) []
  | _, _, [], vs, h => by rw [show vs = [] from h]; exact rfl
  | F, H, d :: ds, vs, h => by
    obtain ⟨v, t, e, q, l⟩ := h
    subst e
    exact ⟨[], [], rfl, ⟨v, rfl, q, rfl⟩, srel_z l⟩
/-- the callee, at the place -/
theorem self_sp {F H : Hp} {ρ : DEnv} {σ : St} {fp f1 : List Addr} {i r m : Nat} {ss : List Sel} {d0 d1 : D} {v0 v1 : V} {ds : List D} {vs : List V} {h : List D → MOut} {Q : VK} (s : StOk K cl E Δ F H ρ σ fp) (P : Place K cl E Δ F H ρ σ fp i ss d0 m d1 v0 v1 f1) (hp : ptB Δ cf.Δr = true) (hr : RepL K cl F ds vs)
    (w : wpX K cl W cf E Δ r σ (match h (d1 :: ds) with
      | .ok d (s0 :: _) => .ok d (ρ.set i (some (putP d0 ss s0)))
      | .ex x (s0 :: _) => .ex x (ρ.set i (some (putP d0 ss s0)))
      | _ => .bad) Q) : spM K cl r (m :: List.replicate ds.length 0) h (v1 :: vs) H Q (WE W σ) := by
  refine ⟨F, d1 :: ds, f1, s.le, fun a z => s.sep a (P.sub a z), P.nd, ⟨f1, [], (List.append_nil _).symm, ⟨v1, rfl, P.own⟩, srel_z hr⟩, ?_⟩
  have back : ∀ {F' H' : Hp} {fp' : List Addr} {s0 : D} {st : List D}, After F H f1 F' H' fp' → SRel (fun n => Own K cl n F' H') (m :: List.replicate ds.length 0) ((s0 :: st).map some) ((v1 :: vs).map some) fp' → ∃ fq, StOk K cl E Δ F' H' (ρ.set i (some (putP d0 ss s0))) σ fq ∧ ∀ a ∈ fq, (a ∈ fp ∧ a ∉ f1) ∨ a ∈ fp' := fun {F' H' fp' s0 st} A S => by
    obtain ⟨g1, g2, e, ⟨u, eu, o⟩, l⟩ := S
    have z := srel_zfp (fun n q => List.eq_of_mem_replicate q) l
    subst z e
    cases eu
    rw [List.append_nil] at A
    rw [List.append_nil]
    exact P.back F' H' s0 g1 A.f A.le A.keep A.nw o A.nd A.out
  have side : ∀ {F' H' : Hp} {fp' fq fv : List Addr}, After F H f1 F' H' fp' → (∀ a ∈ fq, (a ∈ fp ∧ a ∉ f1) ∨ a ∈ fp') → (∀ a ∈ fv, a ∉ fp' ∧ F' a = none ∧ (H a = none ∨ a ∈ f1)) → ∀ a ∈ fv, a ∉ fq ∧ F' a = none ∧ (E.H0 a = none ∨ a ∈ E.fp0) := fun A hq hv a q => by
    obtain ⟨h1, h2, h3⟩ := hv a q
    refine ⟨fun y => ?_, h2, h3.elim s.young fun y => s.nwO a (P.sub a y)⟩
    rcases hq a y with y | y
    · rcases h3 with h3 | h3
      · exact s.fresh h3 y.1
      · exact y.2 h3
    · exact h1 y
  cases q : h (d1 :: ds) with
  | bad => rw [q] at w; exact w
  | ok d st =>
    rw [q] at w
    intro F' H' fp' v fv A S o a n
    cases st with
    | nil => exact (show False from w).elim
    | cons s0 st =>
      obtain ⟨fq, s', kd⟩ := back A S
      exact w F' fq H' v fv s' o (side A kd a) n
  | ex x st =>
    rw [q] at w
    intro F' H' fp' c dx fv A S e a n
    cases st with
    | nil => exact (show False from w).elim
    | cons s0 st =>
      obtain ⟨fq, s', kd⟩ := back A S
      exact exS.use w s' hp e (side A kd a) n
end
section
variable {X : Cx} {cl : Nat → Addr} {W : WX} {cf : Cf} {Δ : List Nat} {e o : Expr} {es : List Expr} {t : DEnv → Out (List D)} {h : List D → MOut} {r i k m j c n : Nat} {p : Plc} {pos apos p1 : Pos} {x mn : Str} {ok1 : D → Bool}
theorem core_self (good : ∀ ρ sd, p ρ = .ok sd → ∃ d0, ρ[i]? = some (some d0) ∧ getP d0 sd.1 = some sd.2 ∧ sd.1.length = k) (hΔ : Δ[i]? = some (m + k)) (hp : ptB Δ cf.Δr = true) (ht : ∀ ρ ds, t ρ = .ok ds → ds.length = n) {ex : V → Hp → Prop}
    (hx : ∀ (d1 : D) (v1 : V) (F H : Hp) (f1 : List Addr), ok1 d1 = true → Own X.K cl m F H d1 v1 f1 → Same F H → ex v1 H) : ∀ σ H Q, tX X.K cl W cf Δ Δ r (callS i ok1 p t h) σ H Q →
      tP X.K cl W cf Δ i p σ H (fun x H1 => ex x H1 ∧ tGA X.K cl W cf Δ 0 t σ H1 fun vs H2 => spM X.K cl r (m :: List.replicate n 0) h (x :: vs) H2 Q (WE W σ)) := fun σ H Q ⟨E, F, ρ, fp, s, w⟩ => by
  refine ⟨E, F, ρ, fp, s, ?_⟩
  unfold callS at w
  cases z : p ρ with
  | ex x => rw [z] at w; exact w
  | bad => rw [z] at w; exact w
  | ok sd =>
    obtain ⟨d0, h1, h2, h3⟩ := good ρ sd z
    rw [z] at w
    obtain ⟨ss, d1⟩ := sd
    have w1 : wpX X.K cl W cf E Δ r σ (if ok1 d1 = true then (match t ρ with
      | .ok ds => (match h (d1 :: ds), ρ[i]? with
        | .ok d (s0 :: _), some (some d0) => .ok d (ρ.set i (some (putP d0 ss s0)))
        | .ex x (s0 :: _), some (some d0) => .ex x (ρ.set i (some (putP d0 ss s0)))
        | _, _ => .bad)
      | .ex x => .ex x ρ
      | .bad => .bad) else .bad) Q := w
    by_cases hc : ok1 d1 = true
    · rw [if_pos hc] at w1
      intro F1 H1 v0 v1 s1 g1 e0 pv
      obtain ⟨v0', v1', f1, P⟩ := s1.place (m := m) h1 (by rw [hΔ, show ss.length = k from h3]) h2
      have ev : v0' = v0 := by
        have := P.at_.symm.trans e0
        injection this with t
        injection t with t
      subst ev
      have ew := P.path.fn pv
      subst ew
      refine ⟨hx d1 v1' F1 H1 f1 hc P.own s1.le, E, F1, ρ, fp, s1, ?_⟩
      cases y : t ρ with
      | ex x => rw [y] at w1; exact w1
      | bad => rw [y] at w1; exact w1
      | ok ds =>
        rw [y] at w1
        dsimp only at w1
        rw [h1] at w1
        intro F2 H2 vs fv s2 g2 la _ _
        obtain ⟨v0'', v1'', f2, P2⟩ := s2.place (m := m) h1 (by rw [hΔ, show ss.length = k from h3]) h2
        have ev : v0'' = v0' := by
          have := P2.at_.symm.trans e0
          injection this with t
          injection t with t
        subst ev
        have ew := P2.path.fn (pv.mono g2.h)
        subst ew
        rw [← ht ρ ds y]
        refine self_sp s2 P2 hp (LRel.zero la).1 ?_
        cases q : h (d1 :: ds) with
        | bad => rw [q] at w1; exact w1
        | ok d st => rw [q] at w1; cases st <;> exact w1
        | ex x st => rw [q] at w1; cases st <;> exact w1
    · rw [if_neg hc] at w1
      exact w1.elim
/-- f(o, ..) -/
theorem dx_call (C : Cal X.prog X.w X.K X.mg X.base x j (spM X.K cl r (m :: List.replicate n 0) h)) (hr : Room j X.A) (hg : Gl X x) (tk : Tk X W) (ho : DP X cl W cf Δ o i k p) (ha : DGA X cl W cf Δ es 0 t) (ht : ∀ ρ ds, t ρ = .ok ds → ds.length = n) (hΔ : Δ[i]? = some (m + k) := by rfl) (hp : ptB Δ cf.Δr = true := by rfl)
    (hst : starEach (o :: es) X.env = (false, eval o X.env) :: starEach es X.env := by rfl)
    (hdb : (x == ("__debug__" : Str)) = false := by decide) (hpl : (backTo pos (starEach es X.env)).any (·.1) = false := by rfl) : DX X cl W cf Δ Δ (.Call (.Name x p1) (o :: es) [] pos) r (callS i (fun _ => true) p t h) := by
  obtain ⟨f, fd, ps, F, hm, hk, hb⟩ := C.ex
  exact PE.imp (pe_callS F hr hg hm hk hb tk (pa_cons ho.walk ha hst) hdb hst hpl) fun σ H Q w => by
    have z := core_self (ex := fun _ _ => True) ho.good hΔ hp ht (fun _ _ _ _ _ _ _ _ => trivial) σ H Q w
    obtain ⟨E, F, ρ, fp, s, w⟩ := z
    refine ⟨E, F, ρ, fp, s, ?_⟩
    cases q : p ρ with
    | ex x => rw [q] at w; exact w
    | bad => rw [q] at w; exact w
    | ok sd =>
      rw [q] at w
      exact fun F' H' v0 v1 s1 g1 e0 pv => (w F' H' v0 v1 s1 g1 e0 pv).2
/-- a method -/
structure CalM (P : Program) (w : World) (K : PySem.W.Frag) (mg : Str → Option Value) (base : Heap) (C : Addr) (mn : Str) (k : Nat) (sp : Sp) : Prop where
  ex : ∃ f fd ps, FnOk P w K mg base (L2N.CX P w) k f fd ps sp ∧ Meth K C mn f ∧ Binds K fd ps []
def tMethS' (C : Addr) (m : Str) (sp : Sp) (E : St → XK) (ta : TE) (t : TA) : TE := fun σ H Q => ta σ H fun x H1 => ∃ a dx fs, x = .ref a ∧ H1 a = some (.ins C dx fs) ∧ fs.lookup m = none ∧ t σ H1 fun vs H2 => sp (x :: vs) H2 Q (E σ)
theorem pe_methS' {C f : Addr} {fd : FuncData} {ps : List Str} {sp : Sp} {E : St → XK} {ta : TE} {t : TA} {pl : Sem Bool} (he : PE X o ta) (c : Cls X.K C) (hm : Meth X.K C mn f) (F : FnOk X.prog X.w X.K X.mg X.base (L2N.CX X.prog X.w) j f fd ps sp) (hr : Room j X.A) (hb : Binds X.K fd ps []) (hx : ∀ σ, PassesAt (L2N.CX X.prog X.w) X σ (E σ)) (ha : PA X (e :: es) t)
    (hst : starEach (e :: es) X.env = (false, eval e X.env) :: starEach es X.env := by rfl) (hpl : (backTo pos (starEach es X.env)).any (·.1) = false := by rfl)
    (ht : eval (.Call (.Attribute o mn apos) (e :: es) [] pos) X.env = (do
      let ov ← eval o X.env
      standAt apos.atName
      let (f, first) ← holding [ov] (getMethod ov mn pl)
      callWith pos f first (backTo pos (starEach (e :: es) X.env)) (backToKw pos (keywordEach [] X.env))) := by rfl) :
    PE X (.Call (.Attribute o mn apos) (e :: es) [] pos) (tMethS' C mn sp E ta t) := by
  refine ⟨fun pins s σ H Q I h => ?_⟩
  refine PySem.W.methodCall_KW (pl := pl) (thn (he.run pins s σ H _ I h) fun u s1 ⟨x, H1, I1, rx, a, dx, fs, ex, ea, l, q⟩ => ?_) ht
  subst ex
  obtain rfl : u = Value.ref a := rx
  refine getmeth_ok I1 ea c hm l ?_
  refine PySem.W.callWith_K (first := [.ref a]) (h₀ := X.base) I.ok.mod.kin hm.kp (thn (ha.run pos pins s1 σ H1 _ I1 q) fun us s2 ⟨vs, H2, I2, r, q2⟩ => ⟨I2.kIn, ?_⟩) hst hpl
  exact run_fnS (us := .ref a :: us) (vs := .ref a :: vs) F hr hb (hx σ) I2 (.cons rfl r) q2
theorem pe_methS0' {C f : Addr} {fd : FuncData} {ps : List Str} {sp : Sp} {E : St → XK} {ta : TE} {pl : Sem Bool} (he : PE X o ta) (c : Cls X.K C) (hm : Meth X.K C mn f) (F : FnOk X.prog X.w X.K X.mg X.base (L2N.CX X.prog X.w) j f fd ps sp) (hr : Room j X.A) (hb : Binds X.K fd ps []) (hx : ∀ σ, PassesAt (L2N.CX X.prog X.w) X σ (E σ))
    (ht : eval (.Call (.Attribute o mn apos) [] [] pos) X.env = (do
      let ov ← eval o X.env
      standAt apos.atName
      let (f, first) ← holding [ov] (getMethod ov mn pl)
      callWith pos f first (backTo pos (starEach [] X.env)) (backToKw pos (keywordEach [] X.env))) := by rfl) :
    PE X (.Call (.Attribute o mn apos) [] [] pos) (tMethS' C mn sp E ta tNil) := by
  refine ⟨fun pins s σ H Q I h => ?_⟩
  refine PySem.W.methodCall_KW (pl := pl) (thn (he.run pins s σ H _ I h) fun u s1 ⟨x, H1, I1, rx, a, dx, fs, ex, ea, l, q⟩ => ?_) ht
  subst ex
  obtain rfl : u = Value.ref a := rx
  refine getmeth_ok I1 ea c hm l ?_
  exact PySem.W.callWith_K0 (first := [.ref a]) I1.kIn hm.kp (run_fnS (us := [.ref a]) (vs := [.ref a]) F hr hb (hx σ) I1 (.cons rfl .nil) q)
end
end DL

namespace DL
open PySem PySem.Spec PyProof.Rows L2
/-- an instance of class c without an own thing named mn -/
def isIns (c : Nat) (mn : Str) : D → Bool
  | .ins c' fds => decide (c' = c) && (fds.lookup mn).isNone
  | _ => false
def methE (c : Nat) (mn : Str) (g : DEnv → Out D) (t : DEnv → Out (List D)) (h : List D → Out D) : DEnv → Out D := fun ρ => (g ρ).bind fun d => if isIns c mn d = true then (t ρ).bind fun ds => h (d :: ds) else .bad
theorem isIns_ex {c : Nat} {mn : Str} {d : D} (h : isIns c mn d = true) : ∃ fds, d = .ins c fds ∧ fds.lookup mn = none := by
  cases d with
  | ins c' fds =>
    have h' : (decide (c' = c) && (fds.lookup mn).isNone) = true := h
    obtain ⟨h1, h2⟩ := Bool.and_eq_true_iff.mp h'
    have e := of_decide_eq_true h1
    subst e
    exact ⟨fds, rfl, Option.isNone_iff_eq_none.mp h2⟩
  | _ => cases h
theorem RepF.none {K : PySem.W.Frag} {cl : Nat → Addr} {F : Hp} {f : Str} : ∀ {fds : List (Str × D)} {fvs : List (Str × V)}, RepF K cl F fds fvs → fds.lookup f = none → fvs.lookup f = none
  | [], _, h, _ => by rw [show _ = _ from h] <;> rfl
  | (k0, d0) :: r, _, h, e => by
    obtain ⟨v, t, e1, q, l⟩ := h
    subst e1
    cases b : (f == k0) with
    | true => rw [List.lookup_cons, b] at e; cases e
    | false =>
      rw [List.lookup_cons, b] at e ⊢
      exact RepF.none l e
theorem KRel.none {P : D → V → List Addr → Prop} {f : Str} : ∀ {fds : List (Str × D)} {fvs : List (Str × V)} {fp : List Addr}, KRel P fds fvs fp → fds.lookup f = none → fvs.lookup f = none
  | [], _, _, h, _ => by rw [h.1] <;> rfl
  | (k0, d0) :: r, _, _, h, e => by
    obtain ⟨v, t, f1, f2, e1, e2, q, l⟩ := h
    subst e1
    cases b : (f == k0) with
    | true => rw [List.lookup_cons, b] at e; cases e
    | false =>
      rw [List.lookup_cons, b] at e ⊢
      exact KRel.none l e
section
variable {X : Cx} {cl : Nat → Addr} {W : WX} {cf : Cf} {Δ : List Nat} {e o : Expr} {es : List Expr} {g : DEnv → Out D} {t : DEnv → Out (List D)} {h : List D → Out D} {hM : List D → MOut} {r i k m j c n : Nat} {p : Plc} {pos apos p1 : Pos} {mn x : Str}
theorem ins_meth {ta : TE} {tt : TA} : True := trivial
/-- o.m(..), a method that changes nothing -/
theorem de_meth {pl : Sem Bool} (C : CalM X.prog X.w X.K X.mg X.base (cl c) mn j (spD X.K cl r h)) (hC : Cls X.K (cl c)) (hr : Room j X.A) (tk : Tk X W) (ho : DE X cl W o 0 g) (ha : DA X cl W (e :: es) 0 t)
    (hst : starEach (e :: es) X.env = (false, eval e X.env) :: starEach es X.env := by rfl) (hpl : (backTo pos (starEach es X.env)).any (·.1) = false := by rfl)
    (ht : eval (.Call (.Attribute o mn apos) (e :: es) [] pos) X.env = (do
      let ov ← eval o X.env
      standAt apos.atName
      let (f, first) ← holding [ov] (getMethod ov mn pl)
      callWith pos f first (backTo pos (starEach (e :: es) X.env)) (backToKw pos (keywordEach [] X.env))) := by rfl) :
    DE X cl W (.Call (.Attribute o mn apos) (e :: es) [] pos) r (methE c mn g t h) := by
  obtain ⟨f, fd, ps, F, hm, hb⟩ := C.ex
  exact PE.imp (pe_methS' ho hC hm F hr hb tk ha hst hpl ht) fun σ H Q ⟨F, ρ, l, s, w⟩ => ⟨F, ρ, l, s, w.bnd fun d F1 H1 v g1 q w1 => by
    by_cases hc : isIns c mn d = true
    · rw [if_pos hc] at w1
      obtain ⟨fds, rfl, hl⟩ := isIns_ex hc
      have q0 := q
      obtain ⟨a, dx, fvs, rfl, h1, h2, h3⟩ := q
      refine ⟨a, dx, fvs, rfl, g1.le _ _ h1, RepF.none h3 hl, F1, ρ, g1.le, s.mono g1.f, w1.bndA fun ds F2 H2 vs g2 q2 w2 => ?_⟩
      exact ⟨F2, .ins c fds :: ds, g2.le, ⟨.ref a, vs, rfl, q0.mono g2.f, q2⟩, w2⟩
    · rw [if_neg hc] at w1
      exact w1.elim⟩
theorem de_meth0 {pl : Sem Bool} (C : CalM X.prog X.w X.K X.mg X.base (cl c) mn j (spD X.K cl r h)) (hC : Cls X.K (cl c)) (hr : Room j X.A) (tk : Tk X W) (ho : DE X cl W o 0 g)
    (ht : eval (.Call (.Attribute o mn apos) [] [] pos) X.env = (do
      let ov ← eval o X.env
      standAt apos.atName
      let (f, first) ← holding [ov] (getMethod ov mn pl)
      callWith pos f first (backTo pos (starEach [] X.env)) (backToKw pos (keywordEach [] X.env))) := by rfl) :
    DE X cl W (.Call (.Attribute o mn apos) [] [] pos) r (methE c mn g nilA h) := by
  obtain ⟨f, fd, ps, F, hm, hb⟩ := C.ex
  exact PE.imp (pe_methS0' ho hC hm F hr hb tk ht) fun σ H Q ⟨F, ρ, l, s, w⟩ => ⟨F, ρ, l, s, w.bnd fun d F1 H1 v g1 q w1 => by
    by_cases hc : isIns c mn d = true
    · rw [if_pos hc] at w1
      obtain ⟨fds, rfl, hl⟩ := isIns_ex hc
      have q0 := q
      obtain ⟨a, dx, fvs, rfl, h1, h2, h3⟩ := q
      exact ⟨a, dx, fvs, rfl, g1.le _ _ h1, RepF.none h3 hl, F1, [.ins c fds], g1.le, ⟨.ref a, [], rfl, q0, rfl⟩, w1⟩
    · rw [if_neg hc] at w1
      exact w1.elim⟩
theorem ins_at {mm : Nat} (d1 : D) (v1 : V) (F H : Hp) (f1 : List Addr) (h : isIns c mn d1 = true) (ow : Own X.K cl (mm + 1) F H d1 v1 f1) : ∃ a dx fs, v1 = .ref a ∧ H a = some (.ins (cl c) dx fs) ∧ fs.lookup mn = none := by
  obtain ⟨fds, rfl, hl⟩ := isIns_ex h
  obtain ⟨a, dx, fvs, fq, rfl, h1, h2, h3, h4⟩ := ow
  exact ⟨a, dx, fvs, rfl, h1, KRel.none h4 hl⟩
/-- o.m(..), a method that changes o, a place of ours -/
theorem dx_meth {pl : Sem Bool} (C : CalM X.prog X.w X.K X.mg X.base (cl c) mn j (spM X.K cl r ((m + 1) :: List.replicate n 0) hM)) (hC : Cls X.K (cl c)) (hr : Room j X.A) (tk : Tk X W) (ho : DP X cl W cf Δ o i k p) (ha : DGA X cl W cf Δ (e :: es) 0 t) (hn : ∀ ρ ds, t ρ = .ok ds → ds.length = n) (hΔ : Δ[i]? = some (m + 1 + k) := by rfl) (hp : ptB Δ cf.Δr = true := by rfl)
    (hst : starEach (e :: es) X.env = (false, eval e X.env) :: starEach es X.env := by rfl) (hpl : (backTo pos (starEach es X.env)).any (·.1) = false := by rfl)
    (ht : eval (.Call (.Attribute o mn apos) (e :: es) [] pos) X.env = (do
      let ov ← eval o X.env
      standAt apos.atName
      let (f, first) ← holding [ov] (getMethod ov mn pl)
      callWith pos f first (backTo pos (starEach (e :: es) X.env)) (backToKw pos (keywordEach [] X.env))) := by rfl) :
    DX X cl W cf Δ Δ (.Call (.Attribute o mn apos) (e :: es) [] pos) r (callS i (isIns c mn) p t hM) := by
  obtain ⟨f, fd, ps, F, hm, hb⟩ := C.ex
  exact PE.imp (pe_methS' ho.walk hC hm F hr hb tk ha hst hpl ht) fun σ H Q w => by
    have z := core_self (ex := fun v H => ∃ a dx fs, v = .ref a ∧ H a = some (.ins (cl c) dx fs) ∧ fs.lookup mn = none) ho.good hΔ hp hn (fun d1 v1 F H f1 h ow _ => ins_at (X := X) d1 v1 F H f1 h ow) σ H Q w
    obtain ⟨E, F, ρ, fp, s, w⟩ := z
    refine ⟨E, F, ρ, fp, s, ?_⟩
    cases q : p ρ with
    | ex x => rw [q] at w; exact w
    | bad => rw [q] at w; exact w
    | ok sd =>
      rw [q] at w
      intro F' H' v0 v1 s1 g1 e0 pv
      obtain ⟨⟨a, dx, fs, h1, h2, h3⟩, h4⟩ := w F' H' v0 v1 s1 g1 e0 pv
      exact ⟨a, dx, fs, h1, h2, h3, h4⟩
theorem dx_meth0 {pl : Sem Bool} (C : CalM X.prog X.w X.K X.mg X.base (cl c) mn j (spM X.K cl r ((m + 1) :: List.replicate 0 0) hM)) (hC : Cls X.K (cl c)) (hr : Room j X.A) (tk : Tk X W) (ho : DP X cl W cf Δ o i k p) (hΔ : Δ[i]? = some (m + 1 + k) := by rfl) (hp : ptB Δ cf.Δr = true := by rfl)
    (ht : eval (.Call (.Attribute o mn apos) [] [] pos) X.env = (do
      let ov ← eval o X.env
      standAt apos.atName
      let (f, first) ← holding [ov] (getMethod ov mn pl)
      callWith pos f first (backTo pos (starEach [] X.env)) (backToKw pos (keywordEach [] X.env))) := by rfl) :
    DX X cl W cf Δ Δ (.Call (.Attribute o mn apos) [] [] pos) r (callS i (isIns c mn) p nilA hM) := by
  obtain ⟨f, fd, ps, F, hm, hb⟩ := C.ex
  exact PE.imp (pe_methS0' ho.walk hC hm F hr hb tk ht) fun σ H Q w => by
    have z := core_self (t := nilA) (n := 0) (ex := fun v H => ∃ a dx fs, v = .ref a ∧ H a = some (.ins (cl c) dx fs) ∧ fs.lookup mn = none) ho.good hΔ hp (fun ρ ds e => by cases e; rfl) (fun d1 v1 F H f1 h ow _ => ins_at (X := X) d1 v1 F H f1 h ow) σ H Q w
    obtain ⟨E, F, ρ, fp, s, w⟩ := z
    refine ⟨E, F, ρ, fp, s, ?_⟩
    cases q : p ρ with
    | ex x => rw [q] at w; exact w
    | bad => rw [q] at w; exact w
    | ok sd =>
      rw [q] at w
      intro F' H' v0 v1 s1 g1 e0 pv
      obtain ⟨⟨a, dx, fs, h1, h2, h3⟩, E2, F2, ρ2, fp2, s2, h4⟩ := w F' H' v0 v1 s1 g1 e0 pv
      exact ⟨a, dx, fs, h1, h2, h3, h4 F2 H' [] [] s2 (Gr.refl s2.le) ⟨rfl, rfl⟩ (fun a m => by cases m) List.nodup_nil⟩
end
end DL

namespace DL
open PySem PySem.Spec PyProof.Rows L2
/-! ### instances, made -/
structure CalI (P : Program) (w : World) (K : PySem.W.Frag) (mg : Str → Option Value) (base : Heap) (x : Str) (C : Addr) (k : Nat) (sp : Sp) : Prop where
  ex : ∃ f fd ps, FnOk P w K mg base (L2N.CX P w) k f fd ps sp ∧ Mk K C f ∧ mg x = some (.ref C) ∧ Binds K fd ps []
def newE (c : Nat) (t : DEnv → Out (List D)) (h : List D → MOut) : DEnv → Out D := fun ρ => (t ρ).bind fun ds => match h (.ins c [] :: ds) with
  | .ok .non (s0 :: _) => .ok s0
  | .ex x _ => .ex x
  | _ => .bad
section
variable {X : Cx} {cl : Nat → Addr} {W : WX} {e : Expr} {es : List Expr} {t : DEnv → Out (List D)} {hM : List D → MOut} {r m j c n : Nat} {p1 pos : Pos} {x : Str} {f C : Addr} {fd : FuncData} {ps : List Str} {sp : Sp} {E : St → XK} {ta : TA}
theorem run_makeS {pins : List (Addr × Obj)} {σ : St} {H : Hp} {s : Shared} {Q : VK} {us : List Value} {vs : List V} (M : Mk X.K C f) (F : FnOk X.prog X.w X.K X.mg X.base (L2N.CX X.prog X.w) j f fd ps sp) (hr : Room (j + 1) X.A) (hb : Binds X.K fd ps [])
    (hx : PassesAt (L2N.CX X.prog X.w) X σ (E σ)) (I : Inv X pins σ H s) (r : Vals vs us)
    (h : ∀ x dx, H x = none → H dx = none → dx ≠ x → sp (.ref x :: vs) (upd (upd H dx (.own x)) x (.ins C dx [])) (fun v H2 => v = .non ∧ Q (.ref x) H2) (E σ)) :
    wpAny (model X.prog X.w) X.A (call (.ref C) us) (EP X pins σ Q) X.xe s := by
  have hq := h (s.heap.objs.size + 1) s.heap.objs.size (I.hok.fresh (Nat.le_succ _)) (I.hok.fresh (Nat.le_refl _)) (Nat.ne_of_lt (Nat.lt_succ_self _))
  have I2 := Inv.made (C := C) I
  have r2 : Vals (V.ref (s.heap.objs.size + 1) :: vs) (Value.ref (s.heap.objs.size + 1) :: us) := .cons rfl r
  have hl : (Value.ref (s.heap.objs.size + 1) :: us).length = ps.length := by
    have e := r2.length
    rw [F.len _ _ _ _ hq] at e
    exact e.symm
  have b := hb _ (Value.ref (s.heap.objs.size + 1) :: us) I2.kIn (by rw [List.append_nil]; exact hl)
  rw [List.append_nil] at b
  refine wpAny_call (make_map (f := f) I.kIn M.makes M.init (beq_iff_eq.mp M.fn) (codeAny_mono (F.run _ X.stack _ _ ⟨Value.ref (s.heap.objs.size + 1) :: us, []⟩ (Value.ref (s.heap.objs.size + 1) :: us) _ _ (E σ) (hr.make C us [])
    (I2.env0.make C us []) b r2 hq) fun r s' hq' => ?_))
  cases r with
  | error e => exact hx pins _ _ e s' I2 hq'
  | ok fl =>
    cases fl with
    | ret u =>
      obtain ⟨v, H', I3, rv, ev, q3⟩ := I2.after hq'
      subst ev
      exact ⟨rv, ⟨V.ref (s.heap.objs.size + 1), H', I3, rfl, q3⟩⟩
    | next => exact False.elim hq'
    | brk => exact False.elim hq'
    | cont => exact False.elim hq'
def tMakeS (C : Addr) (sp : Sp) (E : St → XK) (t : TA) : TE := fun σ H Q => t σ H fun vs H1 => ∀ x dx, H1 x = none → H1 dx = none → dx ≠ x → sp (.ref x :: vs) (upd (upd H1 dx (.own x)) x (.ins C dx [])) (fun v H2 => v = .non ∧ Q (.ref x) H2) (E σ)
theorem pe_makeS (M : Mk X.K C f) (F : FnOk X.prog X.w X.K X.mg X.base (L2N.CX X.prog X.w) j f fd ps sp) (hr : Room (j + 1) X.A) (hg : Gl X x) (hm : X.mg x = some (.ref C)) (hb : Binds X.K fd ps []) (hx : ∀ σ, PassesAt (L2N.CX X.prog X.w) X σ (E σ))
    (ha : PA X (e :: es) ta) (hdb : (x == ("__debug__" : Str)) = false := by decide) (he : starEach (e :: es) X.env = (false, eval e X.env) :: starEach es X.env := by rfl) (hpl : (backTo pos (starEach es X.env)).any (·.1) = false := by rfl) :
    PE X (.Call (.Name x p1) (e :: es) [] pos) (tMakeS C sp E ta) := by
  refine ⟨fun pins s σ H Q I h => ?_⟩
  refine wpAny_Call_Name_kw (ld_glob I hg hm ?_ hdb)
  refine PySem.W.callWith_K (h₀ := X.base) I.ok.mod.kin M.kp (thn (ha.run pos pins s σ H _ I h) fun us s1 ⟨vs, H1, I1, r, q⟩ => ⟨I1.kIn, ?_⟩) he hpl
  exact run_makeS M F hr hb (hx σ) I1 r q
theorem pe_makeS0 (M : Mk X.K C f) (F : FnOk X.prog X.w X.K X.mg X.base (L2N.CX X.prog X.w) j f fd ps sp) (hr : Room (j + 1) X.A) (hg : Gl X x) (hm : X.mg x = some (.ref C)) (hb : Binds X.K fd ps []) (hx : ∀ σ, PassesAt (L2N.CX X.prog X.w) X σ (E σ))
    (hdb : (x == ("__debug__" : Str)) = false := by decide) : PE X (.Call (.Name x p1) [] [] pos) (tMakeS C sp E tNil) := by
  refine ⟨fun pins s σ H Q I h => ?_⟩
  refine wpAny_Call_Name_kw (ld_glob I hg hm ?_ hdb)
  exact PySem.W.callWith_K0 I.kIn M.kp (run_makeS (us := []) M F hr hb (hx σ) I .nil h)
theorem make_sp {K : PySem.W.Frag} {F H : Hp} {σ : St} {ds : List D} {vs : List V} {Q : VK} (l : Same F H) (hr : RepL K cl F ds vs) (w : wpE K cl (m + 1) (match hM (.ins c [] :: ds) with
      | .ok .non (s0 :: _) => .ok s0
      | .ex x _ => .ex x
      | _ => .bad) F H Q (fun c dx H' => W c dx σ H')) {y dx : Addr} (h1 : H y = none) (h2 : H dx = none) (h3 : dx ≠ y) :
    spM K cl 0 ((m + 1) :: List.replicate ds.length 0) hM (.ref y :: vs) (upd (upd H dx (.own y)) y (.ins (cl c) dx [])) (fun v H2 => v = .non ∧ Q (.ref y) H2) (WE W σ) := by
  have Fy : F y = none := none_of_le l h1
  have Fx : F dx = none := none_of_le l h2
  have l2 : Same F (upd (upd H dx (.own y)) y (.ins (cl c) dx [])) := same_put (same_put l Fx) Fy
  refine ⟨F, .ins c [] :: ds, [y, dx], l2, fun a z => ?_, ?_, ⟨[y, dx], [], rfl, ⟨.ref y, rfl, y, dx, [], [], rfl, upd_same, by rw [upd_ne h3]; exact upd_same, rfl, rfl, rfl⟩, srel_z hr⟩, ?_⟩
  · rcases List.mem_cons.mp z with z | z
    · rw [z]; exact Fy
    · rw [List.mem_singleton.mp z]; exact Fx
  · exact List.nodup_cons.mpr ⟨fun z => h3 (List.mem_singleton.mp z).symm, List.nodup_cons.mpr ⟨fun z => (by cases z), List.nodup_nil⟩⟩
  · -- what is behind is grown
    have none2 : ∀ a, upd (upd H dx (.own y)) y (.ins (cl c) dx []) a = none ∨ a ∈ [y, dx] → H a = none := fun a z => by
      rcases z with z | z
      · by_cases c1 : a = y
        · rw [c1]; exact h1
        · rw [upd_ne c1] at z
          by_cases c2 : a = dx
          · rw [c2]; exact h2
          · rw [upd_ne c2] at z; exact z
      · rcases List.mem_cons.mp z with z | z
        · rw [z]; exact h1
        · rw [List.mem_singleton.mp z]; exact h2
    have gr : ∀ {F' H' : Hp} {fp' : List Addr}, After F (upd (upd H dx (.own y)) y (.ins (cl c) dx [])) [y, dx] F' H' fp' → Gr F H F' H' := fun A =>
      ⟨A.f, fun a o e => by
        have c1 : a ≠ y := fun z => by rw [z, h1] at e; cases e
        have c2 : a ≠ dx := fun z => by rw [z, h2] at e; cases e
        refine A.keep a o (by rw [upd_ne c1, upd_ne c2]; exact e) fun z => ?_
        rcases List.mem_cons.mp z with z | z
        · exact c1 z
        · exact c2 (List.mem_singleton.mp z), A.le, fun a e q => none2 a (A.nw a e q)⟩
    cases q : hM (.ins c [] :: ds) with
    | bad => rw [q] at w; exact w
    | ok d st =>
      rw [q] at w
      intro F' H' fp' v fv A S o a n
      cases d with
      | non =>
        cases st with
        | nil => exact (show False from w).elim
        | cons s0 st =>
          obtain ⟨g1, g2, e, ⟨u, eu, ow⟩, lz⟩ := S
          have z := srel_zfp (fun n q => List.eq_of_mem_replicate q) lz
          subst z e
          cases eu
          rw [List.append_nil] at A
          exact ⟨o.1, w F' H' (.ref y) g1 (gr A) ow (fun a m => ⟨none2 a (A.out a m).2, (A.out a m).1⟩) A.nd⟩
      | _ => exact (show False from w).elim
    | ex x st =>
      rw [q] at w
      intro F' H' fp' c1 dx1 fv A S e a n
      exact w F' H' c1 dx1 fv (gr A) e (fun b z => ⟨none2 b (a b z).2.2, (a b z).2.1⟩) n
theorem de_make (CI : CalI X.prog X.w X.K X.mg X.base x (cl c) j (spM X.K cl 0 ((m + 1) :: List.replicate n 0) hM)) (hr : Room (j + 1) X.A) (hg : Gl X x) (tk : Tk X W) (ha : DA X cl W (e :: es) 0 t) (hn : ∀ ρ ds, t ρ = .ok ds → ds.length = n)
    (hdb : (x == ("__debug__" : Str)) = false := by decide) (he : starEach (e :: es) X.env = (false, eval e X.env) :: starEach es X.env := by rfl) (hpl : (backTo pos (starEach es X.env)).any (·.1) = false := by rfl) :
    DE X cl W (.Call (.Name x p1) (e :: es) [] pos) (m + 1) (newE c t hM) := by
  obtain ⟨f, fd, ps, F, M, hm, hb⟩ := CI.ex
  refine PE.imp (pe_makeS M F hr hg hm hb tk ha hdb he hpl) fun σ H Q ⟨F, ρ, l, s, w⟩ => ⟨F, ρ, l, s, ?_⟩
  unfold newE at w
  cases q : t ρ with
  | ex x => rw [q] at w; exact w
  | bad => rw [q] at w; exact w
  | ok ds =>
    rw [q] at w
    intro F1 H1 vs fv g1 la _ _ y dx h1 h2 h3
    have hl := hn ρ ds q
    subst hl
    exact make_sp g1.le (LRel.zero la).1 (wpE.grow g1 w) h1 h2 h3
theorem de_make0 (CI : CalI X.prog X.w X.K X.mg X.base x (cl c) j (spM X.K cl 0 ((m + 1) :: List.replicate 0 0) hM)) (hr : Room (j + 1) X.A) (hg : Gl X x) (tk : Tk X W)
    (hdb : (x == ("__debug__" : Str)) = false := by decide) : DE X cl W (.Call (.Name x p1) [] [] pos) (m + 1) (newE c nilA hM) := by
  obtain ⟨f, fd, ps, F, M, hm, hb⟩ := CI.ex
  refine PE.imp (pe_makeS0 M F hr hg hm hb tk hdb) fun σ H Q ⟨F, ρ, l, s, w⟩ => fun y dx h1 h2 h3 => ?_
  exact make_sp (ds := []) (vs := []) l rfl w h1 h2 h3
end
end DL

namespace DL
open PySem PySem.Spec PyProof.Rows L2
/-! ### raise -/
def raiseS (c : Nat) : DEnv → SOut := fun ρ => .ex ⟨c, none⟩ ρ
section
variable {X : Cx} {cl : Nat → Addr} {W : WX} {cf : Cf} {Δc Δ Δ' : List Nat} {e : Expr} {c : Nat} {pos : Pos}
theorem ds_raise (he : L2N.PMk X e (fun _ H Q => Q (.ref (cl c)) none H)) (tk : L2N.Takes X W) (hc : X.calm = true := by rfl) (hp : ptB Δ cf.Δr = true := by rfl) : DS X cl W cf Δc Δ (.Raise (some e) none pos) Δ' (raiseS c) :=
  PS.imp (L2N.ps_raise hc tk he) fun Dn σ H ⟨E, F, ρ, fp, s, w⟩ => exS.use (x := ⟨c, none⟩) (fv := []) w s hp ⟨rfl, rfl, rfl⟩ (fun a m => by cases m) List.nodup_nil
end
section
variable {P : Program} {w : World} {K : PySem.W.Frag} {mg : Str → Option Value} {base : Heap} {N : List Str} {x : Str} {scope : Scope} {f : Addr} {cdv : Value} {A : Around} {outer : List Env} {s : Shared} {H : Hp} {E : XK}
theorem tkT : L2N.Takes (cxOf (L2N.CX P w) P w K mg base N x scope f cdv A outer s H E) (fun c d _ H => E c d H) := L2N.takes_of rfl rfl rfl rfl
end
end DL

namespace DL
open PySem PySem.Spec PyProof.Rows L2
section
variable {X : Cx} {cl : Nat → Addr} {W : WX} {a b c : Expr} {f g k : DEnv → Out D} {r : Nat} {pos : Pos} {o o' : R2} {h h' : D → D → Out D} {op op' : CmpOp}
theorem chain_ok (hd : OpD X.K cl o 0 h) (hd' : OpD X.K cl o' r h') : ∀ σ H Q, tE X.K cl W r (chE h h' f g k) σ H Q → tChain o o' (tE X.K cl W 0 f) (tE X.K cl W 0 g) (tE X.K cl W 0 k) σ H Q := fun σ H Q ⟨F, ρ, l, s, w⟩ =>
  ⟨F, ρ, l, s, w.bnd fun x F1 H1 u g1 q1 w1 => ⟨F1, ρ, g1.le, s.mono g1.f, w1.bnd fun y F2 H2 v g2 q2 w2 => hd x y u v F2 H2 _ (fun c dx H' => W c dx σ H') g2.le (q1.mono g2.f) q2 (w2.bnd fun z F3 H3 t g3 q3 w3 => by
    cases z with
    | bl b =>
      have e : t = .bl b := q3
      subst e
      cases b with
      | true =>
        refine ⟨true, rfl, ?_⟩
        rw [if_pos rfl]
        have w4 : wpE X.K cl r ((k ρ).bind fun w => h' y w) F3 H3 Q (fun c dx H' => W c dx σ H') := w3
        exact ⟨F3, ρ, g3.le, ((s.mono g1.f).mono g2.f).mono g3.f, w4.bnd fun w F4 H4 u4 g4 q4 w5 => hd' y w v u4 F4 H4 Q _ g4.le ((q2.mono g3.f).mono g4.f) q4 w5⟩
      | false =>
        refine ⟨false, rfl, ?_⟩
        rw [if_neg Bool.false_ne_true]
        exact wpE.val (show wpE X.K cl r (.ok (.bl false)) F3 H3 Q (fun c dx H' => W c dx σ H') from w3) (Gr.refl g3.le) Own.bll
    | _ => exact w3.elim)⟩⟩
/-- a op b op' c -/
theorem de_chain (ho : OpR X (compareOp op) o) (hd : OpD X.K cl o 0 h) (ho' : OpR X (compareOp op') o') (hd' : OpD X.K cl o' r h') (ha : DE X cl W a 0 f) (hb : DE X cl W b 0 g) (hc : DE X cl W c 0 k)
    (hm : lastMarks [op, op'] [b, c] = false := by with_unfolding_all rfl) : DE X cl W (.Compare a [op, op'] [b, c] pos) r (chE h h' f g k) := PE.imp (pe_chain ho ho' ha hb hc hm) (chain_ok hd hd')
end
end DL

namespace DL
open PySem PySem.Spec PyProof.Rows L2
/-! ### len(d), dict(d), {} -/
def rLenDk : List V → Hp → VK → Prop := fun xs H Q => ∃ a kvs, xs = [V.ref a] ∧ Rd H a (.dK kvs) ∧ Q (.int kvs.length) H
theorem call_lenDk {X : Cx} : CallR X (.builtin "len") rLenDk := fun pins s σ H xs us Q I r h => by
  obtain ⟨a, kvs, ex, hd, q⟩ := h
  rw [ex] at r
  cases r with
  | cons ru rn =>
    cases rn
    cases ru
    exact d_len I hd fun t s' J => ⟨.int kvs.length, H, J, ⟨t, rfl⟩, q⟩
def rLenA (K : PySem.W.Frag) : List V → Hp → VK → Prop := fun xs H Q => rLen' K xs H Q ∨ rLenDk xs H Q
theorem call_lenA {X : Cx} : CallR X (.builtin "len") (rLenA X.K) := fun pins s σ H xs us Q I r h => h.elim (call_len pins s σ H xs us Q I r) (call_lenDk pins s σ H xs us Q I r)
def lenA : List D → Out D
  | [.dic kds] => .ok (.int kds.length)
  | ds => lenF ds
section
variable {K : PySem.W.Frag} {cl : Nat → Addr} {r : Nat}
theorem RepK.length {F : Hp} : ∀ {kds : List (Key × D)} {kvs : List (Key × V)}, RepK K cl F kds kvs → kds.length = kvs.length
  | [], kvs, h => by rw [show kvs = [] from h] <;> rfl
  | (k, d) :: t, kvs, h => by
    obtain ⟨v, u, e, _, l⟩ := h
    rw [e, List.length_cons, List.length_cons, RepK.length l]
theorem RepK.own {F H : Hp} : ∀ {kds : List (Key × D)} {kvs : List (Key × V)}, RepK K cl F kds kvs → KRel (Own K cl 0 F H) kds kvs []
  | [], kvs, h => ⟨h, rfl⟩
  | (k, d) :: t, kvs, h => by
    obtain ⟨v, u, e, q, l⟩ := h
    exact ⟨v, u, [], [], e, rfl, ⟨q, rfl⟩, RepK.own l⟩
theorem sp_lenA : CalD K cl (rLenA K) r lenA := fun ds vs F H Q EX l hr w => by
  match ds, hr, w with
  | [.dic kds], hr, w =>
    obtain ⟨v, t, e, q, q2⟩ := hr
    rw [show t = [] from q2] at e
    subst e
    obtain ⟨a, kvs, rfl, ha, hl⟩ := q
    exact .inr ⟨a, kvs, rfl, (Le.of l).rd _ _ ha, by rw [← RepK.length hl]; exact wpE.val (show wpE K cl r (.ok (.int kds.length)) F H Q EX from w) (Gr.refl l) Own.intt⟩
  | [], hr, w => exact .inl (sp_len _ _ F H Q EX l hr w)
  | [.non], hr, w => exact .inl (sp_len _ _ F H Q EX l hr w)
  | [.bl _], hr, w => exact .inl (sp_len _ _ F H Q EX l hr w)
  | [.int _], hr, w => exact .inl (sp_len _ _ F H Q EX l hr w)
  | [.str _], hr, w => exact .inl (sp_len _ _ F H Q EX l hr w)
  | [.tup _], hr, w => exact .inl (sp_len _ _ F H Q EX l hr w)
  | [.lst _], hr, w => exact .inl (sp_len _ _ F H Q EX l hr w)
  | [.ins _ _], hr, w => exact .inl (sp_len _ _ F H Q EX l hr w)
  | d :: e :: t, hr, w => exact .inl (sp_len (r := r) _ _ F H Q EX l hr (show wpE K cl r (lenF (d :: e :: t)) F H Q EX by cases d <;> exact w))
def dictF : D → Out D
  | .dic kds => .ok (.dic kds)
  | _ => .bad
theorem sp_dict : CalD K cl (fun xs H Q => ∃ x, xs = [x] ∧ ∃ (a : Addr) (kvs : List (Key × V)), x = .ref a ∧ Rd H a (.dK kvs) ∧ ∀ p, H p = none → Q (.ref p) (upd H p (.dK kvs))) 1 (one1 dictF) :=
  sp_one fun d v F H Q EX l q w => by
    cases d with
    | dic kds =>
      obtain ⟨a, kvs, rfl, ha, hl⟩ := q
      refine ⟨a, kvs, rfl, (Le.of l).rd _ _ ha, fun p hp => ?_⟩
      have w' : wpE K cl 1 (.ok (.dic kds)) F H Q EX := w
      exact w' F _ (.ref p) [p] (Gr.newH _ l hp) ⟨p, kvs, [], rfl, upd_same, rfl, RepK.own hl⟩ (fun a m => by
        rw [List.mem_singleton.mp m]
        exact ⟨hp, none_of_le l hp⟩) (List.nodup_cons.mpr ⟨fun z => (by cases z), List.nodup_nil⟩)
    | _ => exact w.elim
end
end DL

namespace DL
open PySem PySem.Spec PyProof.Rows L2
/-! ### d.pop(k), d a place of ours -/
def dropKD (kds : List (Key × D)) (k : Key) : List (Key × D) := kds.filter fun kv => decide (kv.1 ≠ k)
def popD (i : Nat) (p : Plc) (h : DEnv → Out D) : DEnv → EOut := fun ρ => match p ρ with
  | .ok (ss, .dic kds) => (match h ρ with
    | .ok kd => (match keyOf kd with
      | some k => (match kds.lookup k, ρ[i]? with
        | some d, some (some d0) => .ok d (ρ.set i (some (putP d0 ss (.dic (dropKD kds k)))))
        | _, _ => .bad)
      | none => .bad)
    | .ex x => .ex x ρ
    | .bad => .bad)
  | .ex x => .ex x ρ
  | _ => .bad
section
variable {K : PySem.W.Frag} {cl : Nat → Addr} {F H : Hp}
theorem KRel.drop0 {k : Key} : ∀ {kds : List (Key × D)} {kvs : List (Key × V)}, KRel (Own K cl 0 F H) kds kvs [] → KRel (Own K cl 0 F H) (dropKD kds k) (dropK kvs k) []
  | [], _, h => by
    obtain ⟨e, _⟩ := h
    subst e
    exact ⟨rfl, rfl⟩
  | (k0, d0) :: r, _, h => by
    obtain ⟨v0, t, f1, f2, e1, e2, p0, l⟩ := h
    have z := KRel.zero l
    have z2 := p0.2
    subst e1 z z2
    have ih := KRel.drop0 (k := k) l
    unfold dropKD dropK
    by_cases c : k0 ≠ k
    · rw [List.filter_cons_of_pos (by simpa using c), List.filter_cons_of_pos (by simpa using c)]
      exact ⟨v0, _, [], [], rfl, rfl, p0, ih⟩
    · rw [List.filter_cons_of_neg (by simpa using c), List.filter_cons_of_neg (by simpa using c)]
      exact ih
theorem KRel.toK : ∀ {kds : List (Key × D)} {kvs : List (Key × V)} {fp : List Addr}, KRel (Own K cl 0 F H) kds kvs fp → RepK K cl F kds kvs
  | [], _, _, h => h.1
  | (k0, d0) :: r, _, _, h => by
    obtain ⟨v0, t, f1, f2, e1, e2, p0, l⟩ := h
    exact ⟨v0, t, e1, p0.1, KRel.toK l⟩
end
section
variable {X : Cx} {cl : Nat → Addr} {W : WX} {cf : Cf} {Δ : List Nat} {e o : Expr} {h : DEnv → Out D} {r i k : Nat} {p : Plc} {apos cpos : Pos}
theorem dx_dpop (ho : DP X cl W cf Δ o i k p) (he : DG X cl W cf Δ e 0 h) (m : M1 X o "pop" apos e cpos) (hΔ : Δ[i]? = some (0 + 1 + k) := by rfl) : DX X cl W cf Δ Δ (.Call (.Attribute o "pop" apos) [e] [] cpos) 0 (popD i p h) :=
  PE.imp (pe_dpop1 ho.walk he m) fun σ H Q ⟨E, F, ρ, fp, s, w⟩ => by
    refine ⟨E, F, ρ, fp, s, ?_⟩
    unfold popD at w
    cases z : p ρ with
    | ex x => rw [z] at w; exact w
    | bad => rw [z] at w; exact w.elim
    | ok sd =>
      obtain ⟨d0, h1, h2, h3⟩ := ho.good ρ sd z
      rw [z] at w
      obtain ⟨ss, c⟩ := sd
      intro F1 H1 v0 v1 s1 g1 e0 pv
      cases c with
      | dic kds =>
        dsimp only at w
        obtain ⟨v0', v1', f1, P⟩ := s1.place (m := 0 + 1) h1 (by rw [hΔ, show ss.length = k from h3]) h2
        have ev : v0' = v0 := by
          have := P.at_.symm.trans e0
          injection this with t
          injection t with t
        subst ev
        have ew := P.path.fn pv
        subst ew
        obtain ⟨l, vs, fq, b1, b2, _⟩ := place_dic s1 P (Gr.refl s1.le)
        subst b1
        refine ⟨l, rfl, .inl ⟨vs, .inl b2⟩, E, F1, ρ, fp, s1, ?_⟩
        cases y : h ρ with
        | ex x => rw [y] at w; exact w
        | bad => rw [y] at w; exact w.elim
        | ok kd =>
          rw [y] at w
          dsimp only at w
          intro F2 H2 vk fk s2 g2 o2 _ _
          obtain ⟨rk, ek⟩ := o2
          cases q : keyOf kd with
          | none => rw [q] at w; exact w.elim
          | some key =>
            rw [q] at w
            dsimp only at w
            cases u : kds.lookup key with
            | none => rw [u] at w; exact w.elim
            | some d =>
              rw [u, h1] at w
              obtain ⟨l', vs', fq', c1, c2, lr, c4, c5, c6, c7, put⟩ := place_dic s1 P g2
              cases c1
              have zq := KRel.zero lr
              subst zq
              obtain ⟨v, y1, y2⟩ := (lookup_valV (KRel.toK lr)).1 d u
              obtain ⟨fp', s3, _⟩ := put _ _ [] (KRel.drop0 (k := key) lr) List.nodup_nil (fun m => by cases m) (fun a m => by cases m)
              exact ⟨vs', key, v, c2, rep_key q rk, y1, w F2 fp' _ v [] s3 ⟨y2, rfl⟩ (fun a m => by cases m) List.nodup_nil⟩
      | _ => exact w.elim
end
end DL

namespace DL
open PySem PySem.Spec PyProof.Rows L2
/-! ### o.f += e, of numbers -/
def fldAugS (c i : Nat) (p : Plc) (f : Str) (g : DEnv → Out D) : DEnv → SOut := fun ρ => match p ρ with
  | .ok (ss, .ins c' fds) => if c' = c ∧ fds.length < 1000 then (match fds.lookup f with
    | some (.int x) => (match g ρ with
      | .ok (.int y) => (match ρ[i]? with
        | some (some d0) => .next (ρ.set i (some (putP d0 ss (.ins c' (putFD f (.int (x + y)) fds)))))
        | _ => .bad)
      | .ex e => .ex e ρ
      | _ => .bad)
    | _ => .bad) else .bad
  | .ex x => .ex x ρ
  | _ => .bad
section
variable {X : Cx} {cl : Nat → Addr} {W : WX} {cf : Cf} {Δc Δ : List Nat} {e o : Expr} {g : DEnv → Out D} {i k n c : Nat} {p : Plc} {pos tpos : Pos} {f : Str}
theorem own_int {K : PySem.W.Frag} {F H : Hp} {x : Int} {v : V} {fp : List Addr} : ∀ {n : Nat}, Own K cl n F H (.int x) v fp → v = .int x
  | 0, h => h.1
  | _ + 1, h => h.1
theorem ds_fldAug (ho : DP X cl W cf Δ o i k p) (he : DG X cl W cf Δ e 0 g) (hC : Cls X.K (cl c)) (hA : NoAttr X.K (cl c) f) (hΔ : Δ[i]? = some (n + 1 + k) := by rfl) :
    DS X cl W cf Δc Δ (.AugAssign (.Attribute o f tpos) .Add e pos) Δ (fldAugS c i p f g) := PS.imp (ps_fldaug ho.walk he in_add) fun Dn σ H ⟨E, F, ρ, fp, s, w⟩ => by
  refine ⟨E, F, ρ, fp, s, ?_⟩
  unfold fldAugS at w
  cases z : p ρ with
  | ex x => rw [z] at w; exact w
  | bad => rw [z] at w; exact w.elim
  | ok sd =>
    obtain ⟨d0, h1, h2, h3⟩ := ho.good ρ sd z
    rw [z] at w
    obtain ⟨ss, cc⟩ := sd
    intro F1 H1 v0 v1 s1 g1 e0 pv
    cases cc with
    | ins c' fds =>
      dsimp only at w
      obtain ⟨v0', v1', f1, P⟩ := s1.place (m := n + 1) h1 (by rw [hΔ, show ss.length = k from h3]) h2
      have ev : v0' = v0 := by
        have := P.at_.symm.trans e0
        injection this with t
        injection t with t
      subst ev
      have ew := P.path.fn pv
      subst ew
      by_cases hc : c' = c ∧ fds.length < 1000
      · rw [if_pos hc] at w
        obtain ⟨hc1, hc2⟩ := hc
        subst hc1
        cases y1 : fds.lookup f with
        | none => rw [y1] at w; exact w.elim
        | some d =>
          rw [y1] at w
          cases d with
          | int x =>
            dsimp only at w
            obtain ⟨l, dx, vs, fq, b1, b2, lr, _⟩ := place_ins s1 P (Gr.refl s1.le)
            subst b1
            obtain ⟨u, q0, q1, q2, u1, _, u3, _⟩ := KRel.sel lr y1
            have eu := own_int u3
            subst eu
            refine ⟨l, _, dx, vs, .int x, rfl, b2, hC, hA, u1, E, F1, ρ, fp, s1, ?_⟩
            cases y2 : g ρ with
            | bad => rw [y2] at w; exact w.elim
            | ex xx => rw [y2] at w; exact w
            | ok d2 =>
              rw [y2] at w
              intro F2 H2 vy fv s2 g2 o2 _ _
              obtain ⟨r2, e2⟩ := o2
              cases d2 with
              | int y =>
                dsimp only at w
                rw [h1] at w
                cases r2
                obtain ⟨l', dx', vs', fq', c1, c2, lr2, c4, c5, c6, c7, c8, c9, put⟩ := place_ins s1 P g2
                cases c1
                obtain ⟨fq2, k1, k2, k3⟩ := KRel.putF (f := f) (d := .int (x + y)) (v := .int (x + y)) (g := []) (P := Own X.K cl n F2 H2) Own.intt lr2
                obtain ⟨fp', s4, _⟩ := put _ _ fq2 k1 (k3 c4 List.nodup_nil (fun a _ m => by cases m)) (fun m => (k2 _ m).elim c5 (fun z => by cases z)) (fun m => (k2 _ m).elim c6 (fun z => by cases z)) (fun a m => (k2 a m).elim .inl (fun z => by cases z))
                exact ⟨x, y, rfl, rfl, dx', vs', c2, by rw [← KRel.len lr2]; exact hc2, w F2 fp' σ _ s4⟩
              | _ => exact w.elim
          | _ => exact w.elim
      · rw [if_neg hc] at w
        exact w.elim
    | _ => exact w.elim
end
end DL

namespace DL
open PySem PySem.Spec PyProof.Rows L2
theorem tP.mono {K : PySem.W.Frag} {cl : Nat → Addr} {W : WX} {cf : Cf} {Δ : List Nat} {i : Nat} {p : Plc} {σ : St} {H : Hp} {Q Q' : VK} (h : ∀ v H, Q v H → Q' v H) (w : tP K cl W cf Δ i p σ H Q) : tP K cl W cf Δ i p σ H Q' := by
  obtain ⟨E, F, ρ, fp, s, w⟩ := w
  refine ⟨E, F, ρ, fp, s, ?_⟩
  cases q : p ρ with
  | ex x => rw [q] at w; exact w
  | bad => rw [q] at w; exact w
  | ok sd => rw [q] at w; exact fun F' H' v0 v1 s1 g1 e0 pv => h _ _ (w F' H' v0 v1 s1 g1 e0 pv)
theorem tGA.nil {K : PySem.W.Frag} {cl : Nat → Addr} {W : WX} {cf : Cf} {Δ : List Nat} {n : Nat} {σ : St} {H : Hp} {Q : List V → Hp → Prop} (w : tGA K cl W cf Δ n nilA σ H Q) : Q [] H := by
  obtain ⟨E, F, ρ, fp, s, w⟩ := w
  exact w F H [] [] s (Gr.refl s.le) ⟨rfl, rfl⟩ (fun a m => by cases m) List.nodup_nil
section
variable {X : Cx} {cl : Nat → Addr} {W : WX} {cf : Cf} {Δ : List Nat} {o : Expr} {i k n : Nat} {p : Plc} {apos cpos : Pos}
/-- o.pop() -/
theorem dx_pop (ho : DP X cl W cf Δ o i k p) (hΔ : Δ[i]? = some (n + 1 + k) := by rfl) (hbase : attributeBase o "pop" X.env (eval o X.env) = eval o X.env := by rfl) (hline : (apos.endLine == cpos.line) = true := by rfl) :
    DX X cl W cf Δ Δ (.Call (.Attribute o "pop" apos) [] [] cpos) n (opL i p nilA popO) :=
  dx_lst (rd := rPop) ho.good (PE.imp (pe_bm0 PySem.F.plainAttrs_list PySem.F.slot_list_pop PySem.F.type_list_pop mt_pop ho.walk hbase hline) fun σ H Q w => tP.mono (fun v H1 z => ⟨z.1, tGA.nil z.2⟩) w) hΔ fun ds as d es hop F H l vs us fq fa Q le hl lq la nq na dis q => by
    unfold popO at hop
    match as, hop with
    | [], hop =>
      dsimp only at hop
      cases y2 : ds[ds.length - 1]? with
      | none => rw [y2] at hop; cases hop
      | some d1 =>
        rw [y2] at hop
        cases hop
        obtain ⟨e3, e4⟩ := la
        subst e3 e4
        obtain ⟨v1, f0, f1, f2, h1, h2, h3, h4⟩ := LRel.erase lq y2
        subst h2
        have hlen := LRel.length lq
        rw [hlen] at h1 h4
        have hd : vs.eraseIdx (vs.length - 1) = vs.dropLast := List.eraseIdx_length_sub_one
        rw [hd] at h4
        refine ⟨l, vs, v1, rfl, rfl, hl, h1, ?_⟩
        refine q v1 _ f1 (f0 ++ f2) h3 (by rw [hlen]; exact h4) (nodup_app (nodup_l (nodup_r nq)) (nodup_app (nodup_l nq) (nodup_r (nodup_r nq)) fun a m m2 => nodup_d nq m (List.mem_append_right _ m2)) fun a m m2 => ?_) fun a m => .inl ?_
        · rcases List.mem_append.mp m2 with w | w
          · exact nodup_d nq w (List.mem_append_left _ m)
          · exact nodup_d (nodup_r nq) m w
        · rcases List.mem_append.mp m with m | m
          · exact List.mem_append_right _ (List.mem_append_left _ m)
          · rcases List.mem_append.mp m with m | m
            · exact List.mem_append_left _ m
            · exact List.mem_append_right _ (List.mem_append_right _ m)
end
end DL

namespace DL
open PySem PySem.Spec PyProof.Rows L2
/-! ### {k: v, ..} -/
def wpPs (K : PySem.W.Frag) (cl : Nat → Addr) (r : Nat) (o : Out (List (Key × D))) (F H : Hp) (Q : List (V × V) → Hp → Prop) (EX : XW) : Prop := match o with
  | .ok kds => ∀ F' H' kvs fv, Gr F H F' H' → KRel (Own K cl r F' H') kds kvs fv → (∀ a ∈ fv, H a = none ∧ F' a = none) → fv.Nodup → Q (kvs.map fun kv => (kV kv.1, kv.2)) H'
  | .ex x => exW K cl x F H EX
  | .bad => False
structure DPs (X : Cx) (cl : Nat → Addr) (W : WX) (pos : Pos) (keys : List (Option Expr)) (values : List Expr) (r : Nat) (f : DEnv → Out (List (Key × D))) : Prop where
  ex : ∃ trs, PPs X pos keys values trs ∧ ∀ (σ : St) (F H : Hp) (ρ : DEnv) (Q : List (V × V) → Hp → Prop), Same F H → RepS X.K cl F ρ σ → wpPs X.K cl r (f ρ) F H Q (fun c dx H' => W c dx σ H') → tPairs trs σ H Q
section
variable {K : PySem.W.Frag} {cl : Nat → Addr} {r : Nat} {F H F1 H1 : Hp}
theorem wpPs.grow {o : Out (List (Key × D))} {Q : List (V × V) → Hp → Prop} {EX : XW} (g : Gr F H F1 H1) (w : wpPs K cl r o F H Q EX) : wpPs K cl r o F1 H1 Q EX := by
  cases o with
  | ok d => exact fun F' H' v fv g2 ow nw nd => w F' H' v fv (g.trans g2) ow (fun a m => ⟨g.h.free (nw a m).1, (nw a m).2⟩) nd
  | ex x => exact exW.grow g w
  | bad => exact w
theorem KRel.same {κ : Type} {n : Nat} {F F' H H' : Hp} (f : Same F F') (h : Same H H') : ∀ {kds : List (κ × D)} {kvs : List (κ × V)} {fp : List Addr}, KRel (Own K cl n F H) kds kvs fp → KRel (Own K cl n F' H') kds kvs fp
  | [], _, _, r => r
  | (k, d) :: ds, _, _, r => by
    obtain ⟨v, t, f1, f2, e1, e2, p, l⟩ := r
    exact ⟨v, t, f1, f2, e1, e2, Own.same f h p, KRel.same f h l⟩
theorem KRel.obs {κ : Type} {n : Nat} : ∀ {kds : List (κ × D)} {kvs : List (κ × V)} {fp : List Addr}, KRel (Own K cl n F H) kds kvs fp → ∀ a ∈ fp, Ob (H a) := fun l => KRel.ob (P := Own K cl n F H) (fun _ _ _ o => Own.ob o) l
end
def nilP : DEnv → Out (List (Key × D)) := fun _ => .ok []
def consP (k : Key) (f : DEnv → Out D) (t : DEnv → Out (List (Key × D))) : DEnv → Out (List (Key × D)) := fun ρ => (f ρ).bind fun x => (t ρ).bind fun xs => .ok ((k, x) :: xs)
section
variable {X : Cx} {cl : Nat → Addr} {W : WX} {pos : Pos} {keys : List (Option Expr)} {values : List Expr} {r : Nat} {f : DEnv → Out D} {t : DEnv → Out (List (Key × D))} {e : Expr}
theorem dps_nil : DPs X cl W pos [] [] r nilP := ⟨[], pps_nil, fun σ F H ρ Q l s w => w F H [] [] (Gr.refl l) ⟨rfl, rfl⟩ (fun a m => by cases m) List.nodup_nil⟩
theorem dps_cons {s : Str} {j : Nat} {p : Pos} (hv : DE X cl W e r f) (hr : DPs X cl W pos keys values r t) : DPs X cl W pos (some (.Constant (.str s) j p) :: keys) (e :: values) r (consP (.inr s) f t) := by
  obtain ⟨trs, h1, h2⟩ := hr
  refine ⟨_ :: trs, pps_cons pe_str hv h1, fun σ F H ρ Q l s w => ?_⟩
  unfold consP at w
  refine ⟨F, ρ, l, s, ?_⟩
  cases q : f ρ with
  | ex x => rw [q] at w; exact w
  | bad => rw [q] at w; exact w
  | ok x =>
    rw [q] at w
    intro F1 H1 u fu g1 o1 n1 d1
    refine h2 σ F1 H1 ρ _ g1.le (s.mono g1.f) ?_
    cases q2 : t ρ with
    | ex x => rw [q2] at w; exact exW.grow g1 w
    | bad => rw [q2] at w; exact w
    | ok xs =>
      rw [q2] at w
      intro F2 H2 us fus g2 o2 n2 d2
      have hu : ∀ a ∈ fu, H1 a ≠ none := fun a m => (o1.ob a m).some
      refine w F2 H2 ((_, u) :: us) (fu ++ fus) (g1.trans g2) ⟨u, us, fu, fus, rfl, rfl, Own.same g2.f g2.h o1, o2⟩ (fun a m => ?_) (nodup_app d1 d2 fun a m m2 => hu a m (n2 a m2).1)
      rcases List.mem_append.mp m with m | m
      · refine ⟨(n1 a m).1, ?_⟩
        cases z : F2 a with
        | none => rfl
        | some o => exact absurd (g2.nw a (n1 a m).2 (by rw [z]; exact fun y => nomatch y)) (hu a m)
      · exact ⟨g1.h.free (n2 a m).1, (n2 a m).2⟩
def ndB : List Key → Bool
  | [] => true
  | k :: ks => !ks.contains k && ndB ks
def dispE (t : DEnv → Out (List (Key × D))) : DEnv → Out D := fun ρ => (t ρ).bind fun kds => if ndB (kds.map (·.1)) = true ∧ kds.length ≤ 15 then .ok (.dic kds) else .bad
theorem putK_new {kvs : List (Key × V)} {k : Key} {v : V} (h : ∀ q ∈ kvs, q.1 ≠ k) : putK kvs k v = kvs ++ [(k, v)] := by
  unfold putK
  rw [if_neg]
  intro z
  obtain ⟨q, m, e⟩ := List.any_eq_true.mp z
  exact h q m (of_decide_eq_true e)
theorem merge_nd : ∀ {kvs acc : List (Key × V)}, ndB (kvs.map (·.1)) = true → (∀ q ∈ acc, q.1 ∉ kvs.map (·.1)) → mergeK acc kvs = acc ++ kvs
  | [], acc, _, _ => (List.append_nil acc).symm
  | (k, v) :: r, acc, h, d => by
    have h' : (!(r.map (·.1)).contains k && ndB (r.map (·.1))) = true := h
    obtain ⟨h1, h2⟩ := Bool.and_eq_true_iff.mp h'
    have hk : k ∉ r.map (·.1) := fun m => by
      rw [List.contains_iff_mem.mpr m] at h1
      cases h1
    show mergeK (putK acc k v) r = _
    rw [putK_new fun q m e => d q m (by rw [e]; exact List.mem_cons_self), merge_nd h2, List.append_assoc]
    · rfl
    · intro q m z
      rcases List.mem_append.mp m with m | m
      · exact d q m (List.mem_cons_of_mem _ z)
      · rw [List.mem_singleton.mp m] at z
        exact hk z
theorem KRel.keyz {κ : Type} {P : D → V → List Addr → Prop} : ∀ {kds : List (κ × D)} {kvs : List (κ × V)} {fp : List Addr}, KRel P kds kvs fp → kvs.map (·.1) = kds.map (·.1)
  | [], _, _, h => by rw [h.1] <;> rfl
  | (k, d) :: r, _, _, h => by
    obtain ⟨v, t, f1, f2, e1, e2, p, l⟩ := h
    subst e1
    rw [List.map_cons, List.map_cons, KRel.keyz l]
theorem de_disp (hp : DPs X cl W pos keys values r t) (hall : keys.all (·.isSome) = true := by rfl) (hl : keys.length = values.length := by rfl) (h0 : keys ≠ [] := by exact fun z => nomatch z) (h15 : keys.length ≤ 15 := by decide) : DE X cl W (.Dict keys values pos) (r + 1) (dispE t) := by
  obtain ⟨trs, h1, h2⟩ := hp
  refine PE.imp (pe_disp h1 hall hl h0 h15) fun σ H Q ⟨F, ρ, l, s, w⟩ p hpn => ?_
  refine h2 σ F (upd H p (.dK [])) ρ _ (l.trans (same_upd hpn)) s ?_
  unfold dispE at w
  have Fp : F p = none := none_of_le l hpn
  cases q : t ρ with
  | ex x => rw [q] at w; exact exW.grow (Gr.newH _ l hpn) w
  | bad => rw [q] at w; exact w
  | ok kds =>
    rw [q] at w
    intro F' H' kvs fv g o n d
    have w' : wpE X.K cl (r + 1) (if ndB (kds.map (·.1)) = true ∧ kds.length ≤ 15 then .ok (.dic kds) else .bad) F H Q (fun c dx H' => W c dx σ H') := w
    by_cases c : ndB (kds.map (·.1)) = true ∧ kds.length ≤ 15
    · rw [if_pos c] at w'
      have e0 : H' p = some (.dK []) := g.h p _ upd_same
      have hk := KRel.keyz o
      have hlen : kvs.length = kds.length := by
        have := congrArg List.length hk
        rwa [List.length_map, List.length_map] at this
      refine ⟨e0, kvs, rfl, by rw [hlen]; exact c.2, ?_⟩
      rw [merge_nd (by rw [hk]; exact c.1) (fun q m => by cases m), List.nil_append]
      have F'p : F' p = none := by
        cases z : F' p with
        | none => rfl
        | some u => exact absurd (g.nw p Fp (by rw [z]; exact fun y => nomatch y)) (by rw [upd_same]; exact fun y => nomatch y)
      have pf : p ∉ fv := fun m => by
        have := (n p m).1
        rw [upd_same] at this
        cases this
      have keepH : Same H (upd H' p (.dK kvs)) := fun a u e => by
        have ne : a ≠ p := ne_of_none e hpn
        rw [upd_ne ne]
        exact g.h a u (by rw [upd_ne ne]; exact e)
      refine w' F' (upd H' p (.dK kvs)) (.ref p) (p :: fv) ⟨g.f, keepH, fun a u e => ?_, fun a e m => ?_⟩ ⟨p, kvs, fv, rfl, upd_same, rfl, ?_⟩ (fun a m => ?_) (List.nodup_cons.mpr ⟨pf, d⟩)
      · have ne : a ≠ p := ne_of_none e F'p
        rw [upd_ne ne]
        exact g.le a u e
      · have z := g.nw a e m
        by_cases y : a = p
        · rw [y]; exact hpn
        · rwa [upd_ne y] at z
      · exact KRel.impm (P := Own X.K cl r F' H') (fun d v f m o => Own.keep (Same.refl F') (fun a q => upd_ne fun z => pf (z ▸ m a q)) o) o
      · rcases List.mem_cons.mp m with m | m
        · subst m
          exact ⟨hpn, F'p⟩
        · refine ⟨?_, (n a m).2⟩
          have z := (n a m).1
          have ne : a ≠ p := fun y => pf (by rw [← y]; exact m)
          rwa [upd_ne ne] at z
    · rw [if_neg c] at w'
      exact w'.elim
end
end DL

namespace DL
open PySem PySem.Spec PyProof.Rows L2
/-! ### sorted -/
section
variable {α : Type} (le : α → α → Bool)
def insB (x : α) : List α → List α
  | [] => [x]
  | y :: ys => if le x y = true then x :: y :: ys else y :: insB x ys
def sortB : List α → List α
  | [] => []
  | x :: xs => insB le x (sortB xs)
variable {le}
theorem insB_perm (x : α) : ∀ ys : List α, (insB le x ys).Perm (x :: ys)
  | [] => List.Perm.refl _
  | y :: ys => by
    unfold insB
    split
    · exact List.Perm.refl _
    · exact ((insB_perm x ys).cons y).trans (List.Perm.swap x y ys)
theorem sortB_perm : ∀ xs : List α, (sortB le xs).Perm xs
  | [] => List.Perm.refl _
  | x :: xs => (insB_perm x _).trans ((sortB_perm xs).cons x)
theorem insB_pw (tot : ∀ a b, le a b = true ∨ le b a = true) (tr : ∀ a b c, le a b = true → le b c = true → le a c = true) (x : α) : ∀ ys : List α, ys.Pairwise (fun a b => le a b = true) → (insB le x ys).Pairwise (fun a b => le a b = true)
  | [], _ => List.pairwise_singleton _ _
  | y :: ys, h => by
    obtain ⟨h1, h2⟩ := List.pairwise_cons.mp h
    unfold insB
    split
    · rename_i c
      refine List.pairwise_cons.mpr ⟨fun z m => ?_, h⟩
      rcases List.mem_cons.mp m with m | m
      · rw [m]; exact c
      · exact tr _ _ _ c (h1 z m)
    · rename_i c
      refine List.pairwise_cons.mpr ⟨fun z m => ?_, insB_pw tot tr x ys h2⟩
      rcases List.mem_cons.mp ((insB_perm x ys).mem_iff.mp m) with m | m
      · rw [m]
        exact (tot x y).resolve_left c
      · exact h1 z m
theorem sortB_pw (tot : ∀ a b, le a b = true ∨ le b a = true) (tr : ∀ a b c, le a b = true → le b c = true → le a c = true) : ∀ xs : List α, (sortB le xs).Pairwise (fun a b => le a b = true)
  | [] => List.Pairwise.nil
  | x :: xs => insB_pw tot tr x _ (sortB_pw tot tr xs)
theorem sortB_is (tot : ∀ a b, le a b = true ∨ le b a = true) (tr : ∀ a b c, le a b = true → le b c = true → le a c = true) (anti : ∀ a b, le a b = true → le b a = true → a = b) {xs ys : List α} (p : ys.Perm xs) (h : ys.Pairwise (fun a b => le a b = true)) : ys = sortB le xs :=
  List.Perm.eq_of_pairwise (fun a b _ _ => anti a b) h (sortB_pw tot tr xs) (p.trans (sortB_perm xs).symm)
end
def leI (i j : Int) : Bool := decide (i ≤ j)
def leS (s t : Str) : Bool := !ltCps t.cps.toList s.cps.toList
abbrev sortI : List Int → List Int := sortB leI
abbrev sortS : List Str → List Str := sortB leS
theorem leI_tot (a b : Int) : leI a b = true ∨ leI b a = true := by
  unfold leI
  rw [decide_eq_true_eq, decide_eq_true_eq]
  omega
theorem leI_tr (a b c : Int) : leI a b = true → leI b c = true → leI a c = true := by
  unfold leI
  rw [decide_eq_true_eq, decide_eq_true_eq, decide_eq_true_eq]
  omega
theorem leI_anti (a b : Int) : leI a b = true → leI b a = true → a = b := by
  unfold leI
  rw [decide_eq_true_eq, decide_eq_true_eq]
  omega
theorem leS_iff (s t : Str) : leS s t = true ↔ s.cps.toList ≤ t.cps.toList := by
  unfold leS
  rw [PyProof.Rows.ltCps_eq, Bool.not_eq_true', decide_eq_false_iff_not]
  exact List.not_lt
theorem leS_tot (a b : Str) : leS a b = true ∨ leS b a = true := by
  rw [leS_iff, leS_iff]
  exact List.le_total _ _
theorem leS_tr (a b c : Str) : leS a b = true → leS b c = true → leS a c = true := by
  rw [leS_iff, leS_iff, leS_iff]
  exact List.le_trans
theorem leS_anti (a b : Str) : leS a b = true → leS b a = true → a = b := by
  rw [leS_iff, leS_iff]
  intro h k
  have e := List.le_antisymm h k
  obtain ⟨a⟩ := a
  obtain ⟨b⟩ := b
  exact congrArg Str.mk (Array.toList_inj.mp e)
theorem sortI_is {xs ys : List Int} (p : ys.Perm xs) (h : ys.Pairwise (· ≤ ·)) : ys = sortI xs :=
  sortB_is leI_tot leI_tr leI_anti p (h.imp fun q => decide_eq_true q)
theorem rising_pw : ∀ {p : Str} {l : List Str}, risingS p l = true → (p :: l).Pairwise (fun a b => leS a b = true)
  | p, [], _ => List.pairwise_singleton _ _
  | p, x :: r, h => by
    have h' : (!ltCps x.cps.toList p.cps.toList && risingS x r) = true := h
    obtain ⟨h1, h2⟩ := Bool.and_eq_true_iff.mp h'
    have ih := rising_pw h2
    refine List.pairwise_cons.mpr ⟨fun z m => ?_, ih⟩
    rcases List.mem_cons.mp m with m | m
    · rw [m]; exact h1
    · exact leS_tr _ _ _ h1 ((List.pairwise_cons.mp ih).1 z m)
theorem sortS_is {xs ys : List Str} (p : ys.Perm xs) (h : sortedS ys = true) : ys = sortS xs :=
  sortB_is leS_tot leS_tr leS_anti p (by
    cases ys with
    | nil => exact List.Pairwise.nil
    | cons y r => exact rising_pw h)
/-! ### the built-in -/
def intsOf : List D → Option (List Int)
  | [] => some []
  | .int b :: ds => (intsOf ds).map (b :: ·)
  | _ => none
def keyI : List Key → Option (List Int)
  | [] => some []
  | .inl b :: ds => (keyI ds).map (b :: ·)
  | _ => none
def keyS : List Key → Option (List Str)
  | [] => some []
  | .inr b :: ds => (keyS ds).map (b :: ·)
  | _ => none
theorem keyI_map : ∀ {ks : List Key} {bs : List Int}, keyI ks = some bs → ks = bs.map Sum.inl
  | [], bs, e => by cases e; rfl
  | .inl b :: ds, bs, e => by
    have e' : (keyI ds).map (b :: ·) = some bs := e
    obtain ⟨r, h1, h2⟩ := Option.map_eq_some_iff.mp e'
    rw [← h2, keyI_map h1] <;> rfl
  | .inr b :: ds, bs, e => by cases e
theorem keyS_map : ∀ {ks : List Key} {bs : List Str}, keyS ks = some bs → ks = bs.map Sum.inr
  | [], bs, e => by cases e; rfl
  | .inr b :: ds, bs, e => by
    have e' : (keyS ds).map (b :: ·) = some bs := e
    obtain ⟨r, h1, h2⟩ := Option.map_eq_some_iff.mp e'
    rw [← h2, keyS_map h1] <;> rfl
  | .inl b :: ds, bs, e => by cases e
section
variable {K : PySem.W.Frag} {cl : Nat → Addr}
theorem intsOf_rep {F : Hp} : ∀ {ds : List D} {vs : List V} {bs : List Int}, intsOf ds = some bs → RepL K cl F ds vs → vs = bs.map V.int
  | [], vs, bs, e, r => by
    cases e
    rw [show vs = [] from r] <;> rfl
  | d :: ds, vs, bs, e, r => by
    obtain ⟨v, t, e1, q, l⟩ := r
    cases d with
    | int b =>
      have e' : (intsOf ds).map (b :: ·) = some bs := e
      obtain ⟨r, h1, h2⟩ := Option.map_eq_some_iff.mp e'
      rw [e1, intsOf_rep h1 l, ← h2, show v = .int b from q] <;> rfl
    | _ => cases e
theorem RepK.keyz {F : Hp} : ∀ {kds : List (Key × D)} {kvs : List (Key × V)}, RepK K cl F kds kvs → kvs.map (·.1) = kds.map (·.1)
  | [], kvs, h => by rw [show kvs = [] from h] <;> rfl
  | (k, d) :: t, kvs, h => by
    obtain ⟨v, u, e, _, l⟩ := h
    rw [e, List.map_cons, List.map_cons, RepK.keyz l]
theorem repL_intz {F : Hp} : ∀ (ns : List Int), RepL K cl F (ns.map D.int) (ns.map V.int)
  | [] => rfl
  | n :: ns => ⟨.int n, _, rfl, rfl, repL_intz ns⟩
theorem repL_strz {F : Hp} : ∀ (ns : List Str), RepL K cl F (ns.map D.str) (ns.map V.str)
  | [] => rfl
  | n :: ns => ⟨.str n, _, rfl, rfl, repL_strz ns⟩
def sortF : D → Out D
  | .lst ds => if ds.length < 64 then (match intsOf ds with
    | some ns => .ok (.lst ((sortI ns).map D.int))
    | none => (match strsOf ds with
      | some ns => .ok (.lst ((sortS ns).map D.str))
      | none => .bad)) else .bad
  | .dic kds => if kds.length < 64 then (match keyI (kds.map (·.1)) with
    | some ns => .ok (.lst ((sortI ns).map D.int))
    | none => (match keyS (kds.map (·.1)) with
      | some ns => .ok (.lst ((sortS ns).map D.str))
      | none => .bad)) else .bad
  | _ => .bad
def rSrt (K : PySem.W.Frag) : List V → Hp → VK → Prop := fun xs H Q => rSorted K xs H Q ∨ (rSortedS K xs H Q ∨ ((∃ (a : Addr) (kvs : List (Key × V)) (ks : List Int), xs = [.ref a] ∧ Rd H a (.dK kvs) ∧ kvs.map (·.1) = ks.map Sum.inl ∧ ks.length < 64 ∧
    ∀ (ys : List Int) (p : Addr), ys.Perm ks → ys.Pairwise (· ≤ ·) → H p = none → Q (.ref p) (upd H p (.lst (ys.map V.int)))) ∨ ∃ (a : Addr) (kvs : List (Key × V)) (ks : List Str), xs = [.ref a] ∧ Rd H a (.dK kvs) ∧ kvs.map (·.1) = ks.map Sum.inr ∧ ks.length < 64 ∧
    ∀ ys p, ys.Perm ks → sortedS ys = true → H p = none → Q (.ref p) (upd H p (.lst (ys.map V.str)))))
theorem call_srt {X : Cx} (hc : X.calm = true) : CallR X (.builtin "sorted") (rSrt X.K) := CallR.or cr_sorted (CallR.or cr_sortedS (CallR.or (call_sortedDI hc) (call_sortedD hc)))
theorem sp_srt : CalD K cl (rSrt K) 1 (one1 sortF) := fun ds vs F H Q EX l r w => by
  match ds, w with
  | [d], w =>
    obtain ⟨v, t, e1, q, l2⟩ := r
    rw [show t = [] from l2] at e1
    subst e1
    have w' : wpE K cl 1 (sortF d) F H Q EX := w
    cases d with
    | lst es =>
      obtain ⟨a, us, e, qa, rl⟩ := q
      subst e
      have hlen := RepL.length rl
      unfold sortF at w'
      dsimp only at w'
      by_cases c : es.length < 64
      · rw [if_pos c] at w'
        cases y : intsOf es with
        | some ns =>
          rw [y] at w'
          have ev := intsOf_rep y rl
          refine .inl ⟨a, ns, rfl, SqL.of (l _ _ (ev ▸ qa)), by rw [hlen, ev, List.length_map] at c; exact c, fun ys p hp hs hn => ?_⟩
          rw [sortI_is hp hs]
          exact wpE.newL (o := .non) w' l (repL_intz _) hn
        | none =>
          rw [y] at w'
          cases z : strsOf es with
          | none => rw [z] at w'; exact w'.elim
          | some ns =>
            rw [z] at w'
            have ev := strsOf_rep z rl
            refine .inr (.inl ⟨a, ns, rfl, SqL.of (l _ _ (ev ▸ qa)), by rw [hlen, ev, List.length_map] at c; exact c, fun ys p hp hs hn => ?_⟩)
            rw [sortS_is hp hs]
            exact wpE.newL (o := .non) w' l (repL_strz _) hn
      · rw [if_neg c] at w'
        exact w'.elim
    | dic kds =>
      obtain ⟨a, kvs, e, qa, rk⟩ := q
      subst e
      have hk := RepK.keyz rk
      have hlen := congrArg List.length hk
      rw [List.length_map, List.length_map] at hlen
      unfold sortF at w'
      dsimp only at w'
      by_cases c : kds.length < 64
      · rw [if_pos c] at w'
        cases y : keyI (kds.map (·.1)) with
        | some ns =>
          rw [y] at w'
          have ev := keyI_map y
          refine .inr (.inr (.inl ⟨a, kvs, ns, rfl, (Le.of l).rd _ _ qa, by rw [hk, ev], ?_, fun ys p hp hs hn => ?_⟩))
          · have := congrArg List.length ev
            rw [List.length_map, List.length_map] at this
            omega
          rw [sortI_is hp hs]
          exact wpE.newL (o := .non) w' l (repL_intz _) hn
        | none =>
          rw [y] at w'
          cases z : keyS (kds.map (·.1)) with
          | none => rw [z] at w'; exact w'.elim
          | some ns =>
            rw [z] at w'
            have ev := keyS_map z
            refine .inr (.inr (.inr ⟨a, kvs, ns, rfl, (Le.of l).rd _ _ qa, by rw [hk, ev], ?_, fun ys p hp hs hn => ?_⟩))
            · have := congrArg List.length ev
              rw [List.length_map, List.length_map] at this
              omega
            rw [sortS_is hp hs]
            exact wpE.newL (o := .non) w' l (repL_strz _) hn
      · rw [if_neg c] at w'
        exact w'.elim
    | _ => exact w'.elim
  | [], w => exact (show False from w).elim
  | _ :: _ :: _, w => exact (show False from w).elim
end
end DL

namespace DL
open PySem PySem.Spec PyProof.Rows L2
/-! ### len(set(texts)) -/
def stepD (zs : List Str) (v : Str) : List Str := if zs.any (· == v) = true then zs else zs ++ [v]
def metD (xs : List Str) : List Str := xs.foldl stepD []
theorem stepD_any (zs : List Str) (v k : Str) : (stepD zs v).any (· == k) = (zs.any (· == k) || decide (k = v)) := by
  unfold stepD
  by_cases c : zs.any (· == v) = true
  · rw [if_pos c]
    by_cases e : k = v
    · rw [e, c, Bool.true_or]
    · rw [decide_eq_false e, Bool.or_false]
  · rw [if_neg c, List.any_append]
    by_cases e : k = v
    · rw [e]; simp
    · have z : (v == k) = false := beq_eq_false_iff_ne.mpr fun y => e y.symm
      simp [z, e]
theorem stepD_len (zs : List Str) (v : Str) : (stepD zs v).length = if zs.any (· == v) then zs.length else zs.length + 1 := by
  unfold stepD
  split <;> simp
theorem met_take {xs : List Str} {i : Nat} (hi : i < xs.length) : metD (xs.take (i + 1)) = stepD (metD (xs.take i)) (xs.getD i Str.empty) := by
  unfold metD
  rw [List.take_succ_eq_append_getElem hi, List.foldl_append, List.getD_eq_getElem?_getD, List.getElem?_eq_getElem hi] <;> rfl
theorem met_le (xs : List Str) : ∀ i, (metD (xs.take i)).length ≤ i
  | 0 => by rw [List.take_zero] <;> exact Nat.le_refl _
  | i + 1 => by
    by_cases hi : i < xs.length
    · rw [met_take hi, stepD_len]
      have := met_le xs i
      split <;> omega
    · rw [List.take_of_length_le (by omega)]
      have := met_le xs i
      rw [List.take_of_length_le (by omega)] at this
      omega
section
variable {pg : Program} {w : World} {A : Around} {R : Result → Shared → Prop} {I : Addr} {fs ws : List Addr} {G : Array GenState → Array GenState → Prop} {n : Nat} {Pd : Nat → Value → Prop} {Sd : Nat → Shared → Prop}
theorem met_loop (Wk : WalksS pg w A.in1 I fs ws G n Pd Sd) (S : Addr) (nf : S ∉ fs) (xs : List Str) (hz : xs.length = n) (hb : n + 1 < scanBound) (at_ : ∀ i v, Pd i v → ∃ t, v = .str (xs.getD i Str.empty) t) :
    ∀ (j i : Nat) (s0 : Shared), n - i = j → i ≤ n → Sd i s0 → s0.heap.SetOf (PySem.strKind pg w) S (fun q => (metD (xs.take i)).any (· == q)) (metD (xs.take i)).length →
      (∀ s1, Moved (S :: ws) G s0 s1 → s1.heap.SetOf (PySem.strKind pg w) S (fun q => (metD (xs.take n)).any (· == q)) (metD (xs.take n)).length → R (.ok (.ret .none)) s1) →
      codeAny (model pg w) A (.builtin "set.update.loop" ⟨[.ref S, .ref I], []⟩) R s0 := by
  have nw : S ∉ ws := fun z => nf (Wk.sub _ z)
  have sb : ∀ b ∈ ws, b ∈ S :: ws := fun b m => List.mem_cons_of_mem _ m
  intro j
  induction j with
  | zero =>
    intro i s0 hj hi st hS hR
    obtain rfl : i = n := by omega
    refine codeAny_builtin PyProof.Rows.F.entry_set_update_loop ?_
    rw [Around.under_plainId PyProof.Rows.F.plain_set_update_loop _]
    show wpAny _ A.in1 (pyNext (.ref I) >>= _) _ _ s0
    refine wpAny_bind (Wk.done s0 _ _ st fun s1 mv => ?_)
    show wpAny _ A.in1 (ret Value.none) _ _ s1
    refine wpAny_pure (hR s1 (mv.mono sb) ?_)
    obtain ⟨o, es, ep, t, ho, more⟩ := hS
    exact ⟨o, es, ep, t, mv.heap S _ nw ho, more⟩
  | succ j ih =>
    intro i s0 hj hi st hS hR
    have lt : i < n := by omega
    refine codeAny_builtin PyProof.Rows.F.entry_set_update_loop ?_
    rw [Around.under_plainId PyProof.Rows.F.plain_set_update_loop _]
    show wpAny _ A.in1 (pyNext (.ref I) >>= _) _ _ s0
    refine wpAny_bind (Wk.item i s0 _ _ lt st fun v s1 hv st1 mv => ?_)
    obtain ⟨t, rfl⟩ := at_ i v hv
    have hS1 : s1.heap.SetOf (PySem.strKind pg w) S (fun q => (metD (xs.take i)).any (· == q)) (metD (xs.take i)).length := by
      obtain ⟨o, es, ep, tb, ho, more⟩ := hS
      exact ⟨o, es, ep, tb, mv.heap S _ nw ho, more⟩
    show wpAny _ A.in1 (holding [Value.str (xs.getD i Str.empty) t] (setAdd S (.str (xs.getD i Str.empty) t)) >>= _) _ _ s1
    refine wpAny_bind (wpAny_holding ?_)
    unfold setAdd
    refine wpAny_holding (wpAny_bind ((PySem.strKind pg w).pyHash (k := xs.getD i Str.empty) (strKind_is _ _ _ _) ?_))
    have room : (metD (xs.take i)).length + 1 < scanBound := Nat.lt_of_le_of_lt (Nat.succ_le_succ (met_le xs i)) (Nat.lt_of_le_of_lt (Nat.succ_le_succ (Nat.le_of_lt lt)) hb)
    refine wpAny_setAddHashed_of (knd := PySem.strKind pg w) (s := { s1 with toks := s1.toks + 1 }) (strKind_is _ _ _ _) rfl hS1 room fun h2 only hS2 => ?_
    have hS3 : h2.SetOf (PySem.strKind pg w) S (fun q => (metD (xs.take (i + 1))).any (· == q)) (metD (xs.take (i + 1))).length :=
      SetOf_congr hS2 (fun q => by rw [met_take (by omega), stepD_any]) (by rw [met_take (by omega), stepD_len])
    refine wpAny_pure ⟨plainId_quiet PyProof.Rows.F.plain_set_update_loop _, ih (i + 1) _ (by omega) lt (Wk.frame _ s1 _ _ st1 (Nat.le_succ _) fun b m o e => ?_) hS3 fun s2 mv2 hS4 => ?_⟩
    · have ne : b ≠ S := fun z => nf (z ▸ m)
      rw [only.2 b ne]
      exact e
    · refine hR s2 (Moved.trans Wk.gtrans ((mv.mono sb).then_heap (Nat.le_succ _) fun b o m e => ?_) mv2) hS4
      have ne : b ≠ S := fun z => m (by rw [z]; exact List.mem_cons_self)
      rw [only.2 b ne]
      exact e
end
section
variable {pg : Program} {w : World} {A : Around} {Ex : Value → Shared → Prop} {s0 : Shared}
/-- set(xs), xs a list or a tuple of texts -/
theorem set_texts {l : Addr} {T : String} {its : Array Value} {xs : List Str} {Q : Value → Shared → Prop} (hh : A.handled = none) (hT : (T = "list" ∧ s0.heap.IsList l its) ∨ (T = "tuple" ∧ s0.heap.IsTuple l its)) (hi : PyProof.Rows.StrsAre its.toList xs) (hb : its.size + 1 < scanBound)
    (fin : ∀ (h2 : Heap) (tk : Nat), h2.SetOf (PySem.strKind pg w) s0.heap.objs.size (fun q => (metD xs).any (· == q)) (metD xs).length → (∀ b o, b < s0.heap.objs.size → s0.heap.get? b = some o → h2.get? b = some o) → Q (.ref s0.heap.objs.size) { s0 with heap := h2, toks := tk }) :
    wpAny (model pg w) A (call (.type "set") [.ref l]) Q Ex s0 := by
  obtain ⟨c, tl, hmro⟩ := PySem.F.called_set.mro
  have k1 := PySem.F.called_set.made; have k2 := PySem.F.called_set.sub
  refine wpAny_call (codeAny_of_tree ?_)
  show wpAny _ _ (callAny (.type "set") _) _ _ _
  refine wpAny_pure ⟨Code.quiet_builtin _ (by decide +kernel), codeAny_builtin PySem.F.entry_type_call ?_⟩
  rw [Around.under_plain (weight_type_call_type "set" [.ref l] []) rfl]
  have k3 := PySem.F.called_set.notType; have k4 := PySem.F.called_set.canCreate
  have k5 := PySem.F.typeCall_set_1 (.ref l)
  repeat (any_goals (first | assumption | wp_step))
  refine codeAny_mono (code_set_new_1 (.ref l) (E := Ex) (Q₁ := fun ob s1 => ∃ led : Bool, ob = .ref s0.heap.objs.size ∧ s1 = { s0 with heap := s0.heap.push { cls := .type "set", dict := none, data := .set #[] 0 (.fresh 0 0 led) } }) fun led => ⟨led, rfl, rfl⟩) fun r s1 hr => ?_
  cases r with
  | error e => exact hr
  | ok fl =>
    cases fl with
    | ret ob =>
      obtain ⟨led, rfl, rfl⟩ := hr
      have hS : (s0.heap.push { cls := .type "set", dict := none, data := .set #[] 0 (.fresh 0 0 led) }).get? s0.heap.objs.size = some { cls := .type "set", dict := none, data := .set #[] 0 (.fresh 0 0 led) } := Heap.get?_push_size _ rfl
      have hTy : Shared.TypeIs { s0 with heap := s0.heap.push { cls := .type "set", dict := none, data := .set #[] 0 (.fresh 0 0 led) } } (.ref s0.heap.objs.size) "set" := ⟨_, hS, rfl⟩
      have k6 := PySem.F.called_set.init.lookup; have k7 := PySem.F.called_set.init.bind (.ref s0.heap.objs.size)
      repeat (any_goals (first | assumption | wp_step))
      refine codeAny_mono (codeAny_call_builtin (R := wants (fun r s2 => r = .none ∧ ∃ h2 tk, s2 = { s0 with heap := h2, toks := tk } ∧ h2.SetOf (PySem.strKind pg w) s0.heap.objs.size (fun q => (metD xs).any (· == q)) (metD xs).length ∧ (∀ b o, b < s0.heap.objs.size → s0.heap.get? b = some o → h2.get? b = some o)) Ex) PySem.F.called_set.init.plain PySem.F.entry_set_init (check_set_init_1 hTy ?_)) fun r2 s2 hr2 => ?_
      · have hz : xs.length = its.size := by rw [← StrsAre.len_eq hi, Array.length_toList]
        have ht : xs.take its.size = xs := List.take_of_length_le (by omega)
        have at_ : ∀ (i : Nat) (v : Value), its[i]? = some v → ∃ t, v = .str (xs.getD i Str.empty) t := fun i v hv => SS.strs_at hi i v (by rw [Array.getElem?_toList]; exact hv)
        have h3 : A.in1.in1.in1.handled = none := by simp [hh]
        rcases hT with ⟨rfl, hl⟩ | ⟨rfl, hl⟩
        · obtain ⟨ol, hol, hcl, nl, hdl⟩ := hl
          obtain ⟨oc, od, oda, osl⟩ := ol
          simp only at hcl hdl
          subst hcl hdl
          have hol' : (s0.heap.push { cls := .type "set", dict := none, data := .set #[] 0 (.fresh 0 0 led) }).get? l = some { cls := .type "list", dict := od, data := .seq its nl, slots := osl } := Heap.get?_push_of_some _ hol
          have k8 := PySem.F.sub_list_set; have k9 := PySem.F.sub_list_frozenset
          have ne0 : (Value.type "list" == Value.type "dict") = false := by decide
          have hl1 : (s0.heap.push { cls := .type "set", dict := none, data := .set #[] 0 (.fresh 0 0 led) }).IsList l its := ⟨_, hol', rfl, nl, rfl⟩
          unfold Builtin.«set.__init__» noKeywords Builtin.Frozenset.updateFrom
          generalize hPI : pyIter = PI
          wp_walk
          subst hPI
          refine wpAny_pyIter_list hl1 (wpAny_bind (wpAny_runValue ?_))
          have lS : l < s0.heap.objs.size := Heap.lt_size hol
          have neI : l ≠ (s0.heap.push { cls := .type "set", dict := none, data := .set #[] 0 (.fresh 0 0 led) }).objs.size := by
            rw [Heap.size_push]
            exact Nat.ne_of_lt (Nat.lt_succ_of_lt lS)
          have nf : s0.heap.objs.size ∉ [(s0.heap.push { cls := .type "set", dict := none, data := .set #[] 0 (.fresh 0 0 led) }).objs.size, l] := by
            rw [Heap.size_push]
            simp only [List.mem_cons, List.mem_singleton, List.not_mem_nil, or_false, not_or]
            exact ⟨Nat.ne_of_lt (Nat.lt_succ_self _), Nat.ne_of_gt lS⟩
          refine met_loop ((Walks.list h3 _ l neI its).toS) s0.heap.objs.size nf xs hz hb at_ (its.size - 0) 0 _ (by omega) (Nat.zero_le _) ⟨⟨_, Heap.get?_push_size _ rfl, rfl, rfl⟩, (hl1.push _)⟩ ?c0 ?c1
          case c0 =>
            have hget : ((s0.heap.push { cls := .type "set", dict := none, data := .set #[] 0 (.fresh 0 0 led) }).push { cls := .type "list_iterator", data := .fields #[.ref l, .int 0 0] }).get? s0.heap.objs.size = some { cls := .type "set", dict := none, data := .set #[] 0 (.fresh 0 0 led) } := Heap.get?_push_of_some _ hS
            exact PyProof.Rows.SetOf_congr ((PyProof.Rows.setObjOf_fresh (knd := PySem.strKind pg w) led).setOf hget (by unfold scanBound; omega)) (fun _ => rfl) rfl
          case c1 =>
            intro s1 mv hS1
            obtain ⟨h2, g2, d2, tk2, os2⟩ := s1
            have e1 : g2 = s0.gens := mv.gens
            have e2 : d2 = s0.drawn := mv.drawn
            have e3 : os2 = s0.os := mv.os
            subst e1 e2 e3
            rw [ht] at hS1
            show wpAny _ _ _ _ _ _
            refine wpAny_pure ?_
            show wpAny _ _ (ret Value.none) _ _ _
            refine wpAny_pure ⟨rfl, h2, tk2, rfl, hS1, fun b o lb e => ?_⟩
            have b2 : b ≠ (s0.heap.push { cls := .type "set", dict := none, data := .set #[] 0 (.fresh 0 0 led) }).objs.size := by
              rw [Heap.size_push]
              exact Nat.ne_of_lt (Nat.lt_succ_of_lt lb)
            exact mv.heap b o (by simp only [List.mem_cons, List.mem_singleton, List.not_mem_nil, or_false, not_or]; exact ⟨Nat.ne_of_lt lb, b2⟩) (Heap.get?_push_of_some _ (Heap.get?_push_of_some _ e))
        · obtain ⟨ol, hol, hcl, nl, hdl⟩ := hl
          obtain ⟨oc, od, oda, osl⟩ := ol
          simp only at hcl hdl
          subst hcl hdl
          have hol' : (s0.heap.push { cls := .type "set", dict := none, data := .set #[] 0 (.fresh 0 0 led) }).get? l = some { cls := .type "tuple", dict := od, data := .seq its nl, slots := osl } := Heap.get?_push_of_some _ hol
          have k8 := PySem.F.sub_tuple_set; have k9 := PySem.F.sub_tuple_frozenset
          have ne0 : (Value.type "tuple" == Value.type "dict") = false := by decide
          have hl1 : (s0.heap.push { cls := .type "set", dict := none, data := .set #[] 0 (.fresh 0 0 led) }).IsTuple l its := ⟨_, hol', rfl, nl, rfl⟩
          unfold Builtin.«set.__init__» noKeywords Builtin.Frozenset.updateFrom
          generalize hPI : pyIter = PI
          wp_walk
          subst hPI
          refine wpAny_pyIter_tuple hl1 (wpAny_bind (wpAny_runValue ?_))
          have lS : l < s0.heap.objs.size := Heap.lt_size hol
          have neI : l ≠ (s0.heap.push { cls := .type "set", dict := none, data := .set #[] 0 (.fresh 0 0 led) }).objs.size := by
            rw [Heap.size_push]
            exact Nat.ne_of_lt (Nat.lt_succ_of_lt lS)
          have nf : s0.heap.objs.size ∉ [(s0.heap.push { cls := .type "set", dict := none, data := .set #[] 0 (.fresh 0 0 led) }).objs.size, l] := by
            rw [Heap.size_push]
            simp only [List.mem_cons, List.mem_singleton, List.not_mem_nil, or_false, not_or]
            exact ⟨Nat.ne_of_lt (Nat.lt_succ_self _), Nat.ne_of_gt lS⟩
          refine met_loop ((Walks.tuple h3 _ l neI its).toS) s0.heap.objs.size nf xs hz hb at_ (its.size - 0) 0 _ (by omega) (Nat.zero_le _) ⟨⟨_, Heap.get?_push_size _ rfl, rfl, rfl⟩, (hl1.push _)⟩ ?c0 ?c1
          case c0 =>
            have hget : ((s0.heap.push { cls := .type "set", dict := none, data := .set #[] 0 (.fresh 0 0 led) }).push { cls := .type "tuple_iterator", data := .fields #[.ref l, .int 0 0] }).get? s0.heap.objs.size = some { cls := .type "set", dict := none, data := .set #[] 0 (.fresh 0 0 led) } := Heap.get?_push_of_some _ hS
            exact PyProof.Rows.SetOf_congr ((PyProof.Rows.setObjOf_fresh (knd := PySem.strKind pg w) led).setOf hget (by unfold scanBound; omega)) (fun _ => rfl) rfl
          case c1 =>
            intro s1 mv hS1
            obtain ⟨h2, g2, d2, tk2, os2⟩ := s1
            have e1 : g2 = s0.gens := mv.gens
            have e2 : d2 = s0.drawn := mv.drawn
            have e3 : os2 = s0.os := mv.os
            subst e1 e2 e3
            rw [ht] at hS1
            show wpAny _ _ _ _ _ _
            refine wpAny_pure ?_
            show wpAny _ _ (ret Value.none) _ _ _
            refine wpAny_pure ⟨rfl, h2, tk2, rfl, hS1, fun b o lb e => ?_⟩
            have b2 : b ≠ (s0.heap.push { cls := .type "set", dict := none, data := .set #[] 0 (.fresh 0 0 led) }).objs.size := by
              rw [Heap.size_push]
              exact Nat.ne_of_lt (Nat.lt_succ_of_lt lb)
            exact mv.heap b o (by simp only [List.mem_cons, List.mem_singleton, List.not_mem_nil, or_false, not_or]; exact ⟨Nat.ne_of_lt lb, b2⟩) (Heap.get?_push_of_some _ (Heap.get?_push_of_some _ e))
      · cases r2 with
        | error e => exact hr2
        | ok fl2 =>
          cases fl2 with
          | ret r =>
            obtain ⟨rfl, h2, tk, rfl, hS2, kp⟩ := hr2
            repeat (any_goals (first | assumption | wp_step))
            exact fin _ _ hS2 kp
          | _ => exact hr2.elim
    | _ => exact hr.elim
end
def tLenD (K : PySem.W.Frag) (ta : TE) : TE := fun σ H Q => ta σ H fun x H1 => ∃ l, ∃ xs : List Str, x = .ref l ∧ (SqL K H1 l (xs.map V.str) ∨ SqT K H1 l (xs.map V.str)) ∧ xs.length ≤ 1000 ∧ Q (.int (metD xs).length) H1
theorem pe_lenD {X : Cx} {a : Expr} {ta : TE} {p p2 q pos : Pos} (hc : X.calm = true) (hg : Gl X "len") (hm : X.mg "len" = none) (hg2 : Gl X "set") (hm2 : X.mg "set" = none) (ha : PE X a ta)
    (na : starEach [a] X.env = (false, eval a X.env) :: starEach [] X.env := by rfl) : PE X (.Call (.Name "len" p) [.Call (.Name "set" p2) [a] [] q] [] pos) (tLenD X.K ta) := by
  refine ⟨fun pins s σ H Q I w => ?_⟩
  refine Call_ (ld_blt I hg hm PySem.boot_len (PyProof.Rows.callWith_builtin1 (PyProof.Rows.args_cons ?_ rfl) rfl rfl))
  refine Call_ (ld_blt I hg2 hm2 PyProof.Rows.boot_set ?_)
  refine PyProof.Rows.callWith_type1 (PyProof.Rows.args_cons (thn (ha.run pins s σ H _ I w) fun v s1 ⟨x, H1, I1, r1, q1⟩ => PyProof.Rows.args_nil ?_) na) na rfl
  obtain ⟨l, xs, rfl, hq, h1, q1⟩ := q1
  cases r1
  have hle : (metD xs).length ≤ xs.length := by
    have := met_le xs xs.length
    rwa [List.take_length] at this
  have fin : ∀ (h2 : Heap) (tk : Nat), h2.SetOf (PySem.strKind X.prog X.w) s1.heap.objs.size (fun q => (metD xs).any (· == q)) (metD xs).length → (∀ b o, b < s1.heap.objs.size → s1.heap.get? b = some o → h2.get? b = some o) →
      wpAny (model X.prog X.w) X.A (spliced (backTo pos (starEach [] X.env))) (fun vs s2 => wpAny (model X.prog X.w) X.A (call (.builtin "len") (Value.ref s1.heap.objs.size :: vs)) (EP X pins σ Q) X.xe s2) X.xe { s1 with heap := h2, toks := tk } := fun h2 tk hS kp => by
    refine PyProof.Rows.args_nil ?_
    obtain ⟨o, es, ep, t, ho, hex, hd, _, _, _, hf, hn⟩ := hS
    have I2 : Inv X pins σ H1 { s1 with heap := h2, toks := tk } := I1.kept fun b o e => kp b o (Heap.lt_size e) e
    exact call_len_set ho hex hd hf (by rw [hn] <;> omega) ⟨.int (metD xs).length, H1, I2.tok _, ⟨_, by rw [hn]⟩, q1⟩
  have ln : ∀ {its : List Value}, Vals (xs.map V.str) its → its.toArray.size + 1 < scanBound := fun {its} r => by
    rw [List.size_toArray, ← r.length, List.length_map]
    unfold scanBound
    omega
  rcases hq with hq | hq
  · obtain ⟨its, r, pl, hz⟩ := I1.list hq
    exact set_texts (I1.ok.hd hc) (.inl ⟨rfl, pl.isList⟩) (by simpa using strsAre_of r) (ln r) fin
  · obtain ⟨its, r, pl, hz⟩ := I1.tuple hq
    exact set_texts (I1.ok.hd hc) (.inr ⟨rfl, pl⟩) (by simpa using strsAre_of r) (ln r) fin
/-- how many unlike texts -/
def lenSetD : D → Out D
  | .lst ds => (match strsOf ds with
    | some xs => if xs.length ≤ 1000 then .ok (.int (metD xs).length) else .bad
    | none => .bad)
  | .tup ds => (match strsOf ds with
    | some xs => if xs.length ≤ 1000 then .ok (.int (metD xs).length) else .bad
    | none => .bad)
  | _ => .bad
theorem de_lenset {X : Cx} {cl : Nat → Addr} {W : WX} {a : Expr} {f : DEnv → Out D} {r : Nat} {p p2 q pos : Pos} (hg : Gl X "len") (hm : X.mg "len" = none) (hg2 : Gl X "set") (hm2 : X.mg "set" = none) (ha : DE X cl W a 0 f) (hc : X.calm = true := by rfl)
    (na : starEach [a] X.env = (false, eval a X.env) :: starEach [] X.env := by rfl) : DE X cl W (.Call (.Name "len" p) [.Call (.Name "set" p2) [a] [] q] [] pos) r (un1E lenSetD f) :=
  PE.imp (pe_lenD hc hg hm hg2 hm2 ha.zero na) fun σ H Q ⟨F, ρ, l, s, w⟩ => ⟨F, ρ, l, s, w.bnd fun x F1 H1 u g1 q1 w1 => by
    cases x with
    | lst ds =>
      obtain ⟨a, vs, e, qa, rl⟩ := q1
      subst e
      unfold lenSetD at w1
      dsimp only at w1
      cases y : strsOf ds with
      | none => rw [y] at w1; exact w1.elim
      | some xs =>
        rw [y] at w1
        dsimp only at w1
        have ev := strsOf_rep y rl
        by_cases c : xs.length ≤ 1000
        · rw [if_pos c] at w1
          exact ⟨a, xs, rfl, .inl (SqL.of (g1.le _ _ (ev ▸ qa))), c, wpE.val w1 (Gr.refl g1.le) Own.intt⟩
        · rw [if_neg c] at w1
          exact w1.elim
    | tup ds =>
      obtain ⟨a, vs, e, qa, rl⟩ := q1
      subst e
      unfold lenSetD at w1
      dsimp only at w1
      cases y : strsOf ds with
      | none => rw [y] at w1; exact w1.elim
      | some xs =>
        rw [y] at w1
        dsimp only at w1
        have ev := strsOf_rep y rl
        by_cases c : xs.length ≤ 1000
        · rw [if_pos c] at w1
          exact ⟨a, xs, rfl, .inr (Same.sqT g1.le (ev ▸ qa)), c, wpE.val w1 (Gr.refl g1.le) Own.intt⟩
        · rw [if_neg c] at w1
          exact w1.elim
    | _ => exact w1.elim⟩
end DL

namespace DL
open PySem PySem.Spec PyProof.Rows L2
/-! ### try with several clauses, with or without a name -/
abbrev Clz := Value × Option Nat × (Addr → Value → Option Addr → TS)
def setN (σ : St) (oi : Option Nat) (o : Option V) : St := match oi with
  | some i => σ.set i o
  | none => σ
def endN (oi : Option Nat) (Dn : Ends) : Ends := { nx := fun σ H => Dn.nx (setN σ oi none) H, rt := Dn.rt, bk := fun σ H => Dn.bk (setN σ oi none) H, ct := fun σ H => Dn.ct (setN σ oi none) H }
def wNam (K : PySem.W.Frag) (Wo : WX) (Dn : Ends) : List Clz → WX
  | [] => Wo
  | (c, oi, ts) :: r => fun cls d σ H => ∃ b, PySem.W.exmOne K cls c = some b ∧ (b = true → ∀ a, H a = none → ts a cls d (endN oi Dn) (setN σ oi (some (.ref a))) H) ∧ (b = false → wNam K Wo Dn r cls d σ H)
/-- the caught object, as the suite knows it -/
abbrev InSuite (X : Cx) (st : List Stmt) (ts : Addr → Value → Option Addr → TS) : Prop := ∀ (a : Addr) (oe : Obj) (cls : Value) (d : Option Addr) (pn : List (Addr × Obj)), L2N.Zn cls d oe → (∃ vs, oe.data = .fields vs) → PSs (X.suite a ((a, oe) :: pn)) st (ts a cls d)
inductive HdsN (X : Cx) : List ExceptHandler → List Clz → Prop
  | nil : HdsN X [] []
  | named {x n : Str} {i : Nat} {c : Value} {ts : Addr → Value → Option Addr → TS} {b0 : Stmt} {su : List Stmt} {q q' : Pos} {hs : List ExceptHandler} {l : List Clz} (hN : X.N.Nodup) (hi : X.N[i]? = some n) (hln : X.env.kindOf n = some .local) (hc : Names X x c) (hsu : InSuite X (b0 :: su) ts) (r : HdsN X hs l) :
      HdsN X (.ExceptHandler (some (.Name x q)) (some n) (b0 :: su) q' :: hs) ((c, some i, ts) :: l)
  | plain {x : Str} {c : Value} {ts : Addr → Value → Option Addr → TS} {b0 : Stmt} {su : List Stmt} {q q' : Pos} {hs : List ExceptHandler} {l : List Clz} (hc : Names X x c) (hsu : InSuite X (b0 :: su) ts) (r : HdsN X hs l) :
      HdsN X (.ExceptHandler (some (.Name x q)) none (b0 :: su) q' :: hs) ((c, none, ts) :: l)
section
variable {X : Cx} {bd : List Stmt} {h0 : ExceptHandler} {hs : List ExceptHandler} {l : List Clz} {pos : Pos} {tb : WX → TS} {Wo : WX}
theorem ps_try_nam (e1 : X.stack = X.env :: X.outer) (e2 : X.env.frame = some X.env.locals) (tk : L2N.Takes X Wo) (hb : ∀ (W : WX) (pn : List (Addr × Obj)) (xe : Value → Shared → Prop), L2N.Takes (X.tr pn xe) W → PassesOwn (model X.prog X.w) X.A X.env xe → PSs (X.tr pn xe) bd (tb W)) (hh : HdsN X (h0 :: hs) l) :
    PS X (.Try bd (h0 :: hs) [] [] pos) (fun Dn σ H => tb (wNam X.K Wo Dn l) Dn σ H) := by
  refine ⟨fun pins s σ H Dn I w0 => ?_⟩
  have ok := I.ok
  have fr0 : X.A.frames = some (X.env :: X.outer) := by rw [ok.frames, e1]
  refine wpAny_Try_except (wpAny_mono ((hb (wNam X.K Wo Dn l) (X.pn ++ pins) (fun e s₁ => wpAny (model X.prog X.w) X.A (noteFrame e X.env) (fun _ s₂ => wpAny (model X.prog X.w) X.A (setFlight e none) (fun _ s₃ =>
    wpAny (model X.prog X.w) X.A (handleBy e X.env (h0 :: hs)) (SP X pins Dn) X.xe s₃) X.xe s₂) X.xe s₁) (fun u s1 xx => ?_) PassesOwn.looking).run [] s σ H Dn (I.toTry _) w0) (fun f s1 hsp => ?_) (fun e s1 he => he))
  · obtain ⟨a, B, sI, pins1, σ1, H1, cls, d, rfl, J0, nb, up, sky, na, os, ag, w⟩ := xx
    have J : Inv X pins σ1 H1 sI := J0.ofTry ok
    have sky1 : Sky B (X.env :: X.outer) a (L2N.Zn cls d) X.env.locals s1.heap := by rw [← e1]; exact sky
    show wpAny (model X.prog X.w) X.A (noteFrame (.ref a) X.env) _ _ _
    refine L2N.Sky.land L2N.Zn.steady fr0 e2 sky1 fun h3 fl3 up3 => ?_
    have J3 : Inv X pins σ1 H1 { s1 with heap := h3 } := J.landed nb fl3.1 (up.trans up3) os ag
    obtain ⟨o3, vs3, he3, hz3, hd3⟩ := fl3.there
    have nfr : a ∉ frs (X.env :: X.outer) := fun m => by
      obtain ⟨_, o, e, nf⟩ := fl3.2.2.1.mem m
      rw [he3] at e
      cases e
      exact nf _ hd3
    have nL : a ≠ X.env.locals := fun z => nfr (List.mem_filterMap.mpr ⟨X.env, List.mem_cons_self, by rw [e2, z]⟩)
    have nF : a ∉ X.fs := fun m => by
      obtain ⟨e, he, q⟩ := List.mem_filterMap.mp m
      exact nfr (List.mem_filterMap.mpr ⟨e, List.mem_cons_of_mem _ he, q⟩)
    have S3 := J3.suite he3 hd3 na nL nF
    have go : ∀ {hs1 : List ExceptHandler} {l1 : List Clz}, HdsN X hs1 l1 → wNam X.K Wo Dn l1 cls d σ1 H1 → wpAny (model X.prog X.w) X.A (handleBy (.ref a) X.env hs1) (SP X pins Dn) X.xe { s1 with heap := h3 } := by
      intro hs1 l1 hk
      induction hk with
      | nil =>
        intro w
        refine wpAny_handleBy_nil ?_
        obtain ⟨k1, k2, k3, oe, vs, T, oT, tsT, he, hz, hd, h1, hr⟩ := id fl3
        unfold PySem.passOn
        refine wpAny_bind (wpAny_field he hd h1 ?_)
        rw [if_neg (show ¬ ((Value.ref T == Value.none) = true) from by simp)]
        have off : wpAny (model X.prog X.w) X.A (setFlight (.ref a) X.env.frame) (fun _ s4 => wpAny (model X.prog X.w) X.A (throw (.ref a) : Sem Flow) (SP X pins Dn) X.xe s4) X.xe { s1 with heap := h3 } := by
          rw [e2]
          exact HandSPX.setFlight_upZ fl3 fun h4 hh4 up4 => wpAny_throw (tk _ _ ⟨a, B, sI, pins, σ1, H1, cls, d, rfl, J, nb, (up.trans up3).trans up4, .inr (.inr (by rw [e1]; exact hh4)), na, os, ag, w⟩)
        first
          | exact wpAny_bind (wpAny_pure (wpAny_bind off))
          | exact wpAny_bind off
      | @named x n i c ts b0 su q q' hs2 l2 hN hi hln hc hsu r ih =>
        intro w
        obtain ⟨b, hb1, yes, no⟩ := w
        refine wpAny_handleBy_cons (codeAny_handlers_test ?_) (by intro q; cases q)
        have LT : PySem.W.Looks (model X.prog X.w) h3 (typeOf (.ref a)) cls := fun A Q E s k q => wpAny_typeOf_ref (k _ _ he3) (by rw [hz3.1]; exact q)
        have LM := PySem.W.exm_one (M := model X.prog X.w) (J3.kIn) LT hb1
        have asked : ∀ {Q : Value → Shared → Prop} {E : Value → Shared → Prop}, Q c { s1 with heap := h3 } → wpAny (model X.prog X.w) (X.A.mark (some (.ref a))) (eval (.Name x q) X.env) Q E { s1 with heap := h3 } := fun {Q E} z => by
          obtain ⟨hg, hdb, hm | ⟨hm, hv, hnn⟩⟩ := hc
          · exact ld_glob (X := X.suite a ((a, o3) :: (X.pn ++ pins))) S3 hg hm z hdb
          · exact ld_blt (X := X.suite a ((a, o3) :: (X.pn ++ pins))) S3 hg hm hv z hnn hdb
        refine asked (LM.here ?_)
        cases b with
        | false =>
          show wpAny _ X.A (handleBy (.ref a) X.env hs2) _ _ _
          exact ih (no rfl)
        | true =>
          refine codeAny_handlers_suite_as (HandSPX.lands_againZ fl3 fun h4 fl4 up4 => ?_)
          have J4 : Inv X pins σ1 H1 { s1 with heap := h4 } := J.landed nb fl4.1 ((up.trans up3).trans up4) os ag
          obtain ⟨o4, vs4, he4, hz4, hd4⟩ := fl4.there
          have S4 := J4.suite he4 hd4 na nL nF
          refine store_ok (X := X.suite a ((a, o4) :: (X.pn ++ pins))) (v := .ref a) S4 hN hi (.inl hln) rfl (fun s5 S5 => ?_) (.inr hln)
          refine wpAny_mono ((hsu a o4 cls d (X.pn ++ pins) hz4 ⟨_, hd4⟩).run [] s5 _ H1 _ S5 (yes rfl a na)) (fun f s6 hsp => ?_) (fun _ _ z => False.elim z)
          have over : ∀ {σ6 : St} {H6 : Hp} {Q : Shared → Prop}, Inv (X.suite a ((a, o4) :: (X.pn ++ pins))) [] σ6 H6 s6 → (∀ s7, Inv X pins (σ6.set i none) H6 s7 → Q s7) →
              wpAny (model X.prog X.w) X.A (do bindName X.env n .none; unbindBehindTheSuite X.env n q') (fun _ s7 => Q s7) X.xe s6 := fun {σ6 H6 Q} S6 hq => gone_ok (S6.unsuite ok) hN hi hln hq
          cases f with
          | ret u =>
            obtain ⟨v6, σ6, H6, S6, r6, q6⟩ := hsp
            exact over S6 fun s7 J7 => ⟨_, _, _, J7, r6, q6⟩
          | next => obtain ⟨σ6, H6, S6, q6⟩ := hsp; exact over S6 fun s7 J7 => ⟨_, _, J7, q6⟩
          | brk => obtain ⟨σ6, H6, S6, q6⟩ := hsp; exact over S6 fun s7 J7 => ⟨_, _, J7, q6⟩
          | cont => obtain ⟨σ6, H6, S6, q6⟩ := hsp; exact over S6 fun s7 J7 => ⟨_, _, J7, q6⟩
      | @plain x c ts b0 su q q' hs2 l2 hc hsu r ih =>
        intro w
        obtain ⟨b, hb1, yes, no⟩ := w
        refine wpAny_handleBy_cons (codeAny_handlers_test ?_) (by intro q; cases q)
        have LT : PySem.W.Looks (model X.prog X.w) h3 (typeOf (.ref a)) cls := fun A Q E s k q => wpAny_typeOf_ref (k _ _ he3) (by rw [hz3.1]; exact q)
        have LM := PySem.W.exm_one (M := model X.prog X.w) (J3.kIn) LT hb1
        have asked : ∀ {Q : Value → Shared → Prop} {E : Value → Shared → Prop}, Q c { s1 with heap := h3 } → wpAny (model X.prog X.w) (X.A.mark (some (.ref a))) (eval (.Name x q) X.env) Q E { s1 with heap := h3 } := fun {Q E} z => by
          obtain ⟨hg, hdb, hm | ⟨hm, hv, hnn⟩⟩ := hc
          · exact ld_glob (X := X.suite a ((a, o3) :: (X.pn ++ pins))) S3 hg hm z hdb
          · exact ld_blt (X := X.suite a ((a, o3) :: (X.pn ++ pins))) S3 hg hm hv z hnn hdb
        refine asked (LM.here ?_)
        cases b with
        | false =>
          show wpAny _ X.A (handleBy (.ref a) X.env hs2) _ _ _
          exact ih (no rfl)
        | true =>
          refine codeAny_handlers_suite (HandSPX.lands_againZ fl3 fun h4 fl4 up4 => ?_)
          have J4 : Inv X pins σ1 H1 { s1 with heap := h4 } := J.landed nb fl4.1 ((up.trans up3).trans up4) os ag
          obtain ⟨o4, vs4, he4, hz4, hd4⟩ := fl4.there
          have S4 := J4.suite he4 hd4 na nL nF
          refine wpAny_mono ((hsu a o4 cls d (X.pn ++ pins) hz4 ⟨_, hd4⟩).run [] _ _ H1 _ S4 (yes rfl a na)) (fun f s6 hsp => ?_) (fun _ _ z => False.elim z)
          cases f with
          | ret u =>
            obtain ⟨v6, σ6, H6, S6, r6, q6⟩ := hsp
            exact ⟨_, _, _, S6.unsuite ok, r6, q6⟩
          | next => obtain ⟨σ6, H6, S6, q6⟩ := hsp; exact ⟨_, _, S6.unsuite ok, q6⟩
          | brk => obtain ⟨σ6, H6, S6, q6⟩ := hsp; exact ⟨_, _, S6.unsuite ok, q6⟩
          | cont => obtain ⟨σ6, H6, S6, q6⟩ := hsp; exact ⟨_, _, S6.unsuite ok, q6⟩
    exact go hh w
  · cases f with
    | ret u =>
      obtain ⟨v, σ1, H1, J, r, q⟩ := hsp
      exact ⟨v, σ1, H1, J.ofTry ok, r, q⟩
    | next => obtain ⟨σ1, H1, J, q⟩ := hsp; exact wpAny_execs_nil ⟨σ1, H1, J.ofTry ok, q⟩
    | brk => obtain ⟨σ1, H1, J, q⟩ := hsp; exact ⟨σ1, H1, J.ofTry ok, q⟩
    | cont => obtain ⟨σ1, H1, J, q⟩ := hsp; exact ⟨σ1, H1, J.ofTry ok, q⟩
end
end DL

namespace DL
open PySem PySem.Spec PyProof.Rows L2
/-! ### try, read -/
theorem SRel.setFree {P : Nat → D → V → List Addr → Prop} {o : Option V} : ∀ {Δ : List Nat} {ρ : DEnv} {σ : St} {fp : List Addr} {i : Nat}, SRel P Δ ρ σ fp → ρ[i]? = some none → SRel P Δ ρ (σ.set i o) fp
  | [], [], [], _, i, _, h => by simp at h
  | n :: ns, p :: ρ, q :: σ, fp, 0, r, h => by
    obtain ⟨f1, f2, e, z, l⟩ := r
    have hp : p = none := by simpa using h
    subst hp
    exact ⟨f1, f2, e, z, l⟩
  | n :: ns, p :: ρ, q :: σ, fp, i + 1, r, h => by
    obtain ⟨f1, f2, e, z, l⟩ := r
    exact ⟨f1, f2, e, z, SRel.setFree l (by simpa using h)⟩
section
variable {K : PySem.W.Frag} {cl : Nat → Addr} {W : WX} {cf : Cf} {E : Ent cf.pn} {Δ : List Nat} {F H : Hp} {ρ : DEnv} {σ : St} {fp : List Addr}
theorem StOk.setFree {i : Nat} {o : Option V} (s : StOk K cl E Δ F H ρ σ fp) (h : ρ[i]? = some none) (hi : cf.pn.contains i = false) : StOk K cl E Δ F H ρ (σ.set i o) fp :=
  { s with sl := SRel.setFree s.sl h, pn := pin_set hi s.pn }
theorem rtS.use {d : D} {R : VK} {v : V} {fv : List Addr} (w : rtS K cl cf E d ρ R) (s : StOk K cl E Δ F H ρ σ fp) (hp : ptB Δ cf.Δr = true) (o : Own K cl cf.r F H d v fv) (a : ∀ a ∈ fv, a ∉ fp ∧ F a = none ∧ (E.H0 a = none ∨ a ∈ E.fp0)) (n : fv.Nodup) : R v H := by
  obtain ⟨F2, fp2, a1, a2, a3, s2⟩ := s.part hp
  refine w F2 fp2 σ H v fv s2 (Own.same a1 (Same.refl _) o) (fun b m => ⟨fun m2 => (a b m).1 (a3 b m2), ?_, (a b m).2.2⟩) n
  cases q : F2 b with
  | none => rfl
  | some o => exact absurd (a2 b (a b m).2.1 (by rw [q]; exact fun z => nomatch z)) (a b m).1
end
abbrev Sub := Nat → Nat → Option Bool
abbrev Hd := Nat × Option Nat × (Exn → DEnv → SOut)
def freeN (oi : Option Nat) (ρ : DEnv) : Bool := match oi with
  | some i => (match ρ[i]? with
    | some none => true
    | _ => false)
  | none => true
def ckN (oi : Option Nat) (o : SOut) : SOut := match o with
  | .next ρ => if freeN oi ρ = true then .next ρ else .bad
  | .brk ρ => if freeN oi ρ = true then .brk ρ else .bad
  | .cont ρ => if freeN oi ρ = true then .cont ρ else .bad
  | .ret d ρ => .ret d ρ
  | _ => .bad
def pickS (isub : Sub) : List Hd → Exn → DEnv → SOut
  | [], x, ρ => .ex x ρ
  | (c, oi, g) :: r, x, ρ => match isub x.c c with
    | some true => if freeN oi ρ = true then ckN oi (g x ρ) else .bad
    | some false => pickS isub r x ρ
    | none => .bad
def tryS (isub : Sub) (b : DEnv → SOut) (hs : List Hd) : DEnv → SOut := fun ρ => match b ρ with
  | .ex x ρ1 => pickS isub hs x ρ1
  | o => o
/-- what holds at the suite's start -/
def tSu (K : PySem.W.Frag) (cl : Nat → Addr) (cf : Cf) (Δc Δt Δ' : List Nat) (oi : Option Nat) (a : Addr) (cls : Value) (d : Option Addr) (g : Exn → DEnv → SOut) : TS := fun Dn σ H => ∃ (E : Ent cf.pn) (F : Hp) (ρ : DEnv) (fp fv : List Addr) (x : Exn), StOk K cl E Δt F H ρ σ fp ∧ XRep K cl F x cls d H fv ∧ (∀ a ∈ fv, a ∉ fp ∧ F a = none ∧ (E.H0 a = none ∨ a ∈ E.fp0)) ∧ fv.Nodup ∧
  (∀ i, oi = some i → σ[i]? = some (some (.ref a)) ∧ ρ[i]? = some none) ∧ wpS K cl W0 cf E Δc Δ' (ckN oi (g x ρ)) Dn
def SuOk (X : Cx) (cl : Nat → Addr) (cf : Cf) (Δc Δt Δ' : List Nat) (oi : Option Nat) (st : List Stmt) (g : Exn → DEnv → SOut) : Prop := InSuite X st fun a cls d => tSu X.K cl cf Δc Δt Δ' oi a cls d g
section
variable {X : Cx} {cl : Nat → Addr} {W : WX} {cf : Cf} {Δc Δ Δt Δ' : List Nat} {oi : Option Nat} {st bd : List Stmt} {pos : Pos} {isub : Sub} {b : DEnv → SOut}
/-- a suite that doesn't look at what is caught -/
theorem su_plain {f : DEnv → SOut} (h : ∀ (a : Addr) (oe : Obj) (pn : List (Addr × Obj)), DSs (X.suite a ((a, oe) :: pn)) cl W0 cf Δc Δt st Δ' f) : SuOk X cl cf Δc Δt Δ' oi st (fun _ => f) := fun a oe cls d pn hz hf => PSs.imp (h a oe pn) fun Dn σ H ⟨E, F, ρ, fp, fv, x, s, _, _, _, _, w⟩ => by
  refine ⟨E, F, ρ, fp, s, ?_⟩
  replace w : wpS X.K cl W0 cf E Δc Δ' (ckN oi (f ρ)) Dn := w
  cases q : f ρ with
  | next ρ1 =>
    rw [q] at w
    have w' : wpS X.K cl W0 cf E Δc Δ' (if freeN oi ρ1 = true then .next ρ1 else .bad) Dn := w
    by_cases c : freeN oi ρ1 = true
    · rw [if_pos c] at w'; exact w'
    · rw [if_neg c] at w'; exact w'.elim
  | brk ρ1 =>
    rw [q] at w
    have w' : wpS X.K cl W0 cf E Δc Δ' (if freeN oi ρ1 = true then .brk ρ1 else .bad) Dn := w
    by_cases c : freeN oi ρ1 = true
    · rw [if_pos c] at w'; exact w'
    · rw [if_neg c] at w'; exact w'.elim
  | cont ρ1 =>
    rw [q] at w
    have w' : wpS X.K cl W0 cf E Δc Δ' (if freeN oi ρ1 = true then .cont ρ1 else .bad) Dn := w
    by_cases c : freeN oi ρ1 = true
    · rw [if_pos c] at w'; exact w'
    · rw [if_neg c] at w'; exact w'.elim
  | ret d ρ1 => rw [q] at w; exact w
  | ex x ρ1 => rw [q] at w; exact w.elim
  | bad => rw [q] at w; exact w.elim
inductive DHs (X : Cx) (cl : Nat → Addr) (cf : Cf) (Δc Δt Δ' : List Nat) : List ExceptHandler → List Hd → Prop
  | nil : DHs X cl cf Δc Δt Δ' [] []
  | named {x n : Str} {i c : Nat} {g : Exn → DEnv → SOut} {b0 : Stmt} {su : List Stmt} {q q' : Pos} {hs : List ExceptHandler} {l : List Hd} (hN : X.N.Nodup) (hi : X.N[i]? = some n) (hln : X.env.kindOf n = some .local) (hc : Names X x (.ref (cl c))) (hp : cf.pn.contains i = false) (hl : i < X.N.length) (hsu : SuOk X cl cf Δc Δt Δ' (some i) (b0 :: su) g) (r : DHs X cl cf Δc Δt Δ' hs l) :
      DHs X cl cf Δc Δt Δ' (.ExceptHandler (some (.Name x q)) (some n) (b0 :: su) q' :: hs) ((c, some i, g) :: l)
  | plain {x : Str} {c : Nat} {g : Exn → DEnv → SOut} {b0 : Stmt} {su : List Stmt} {q q' : Pos} {hs : List ExceptHandler} {l : List Hd} (hc : Names X x (.ref (cl c))) (hsu : SuOk X cl cf Δc Δt Δ' none (b0 :: su) g) (r : DHs X cl cf Δc Δt Δ' hs l) :
      DHs X cl cf Δc Δt Δ' (.ExceptHandler (some (.Name x q)) none (b0 :: su) q' :: hs) ((c, none, g) :: l)
def clzOf (K : PySem.W.Frag) (cl : Nat → Addr) (cf : Cf) (Δc Δt Δ' : List Nat) (l : List Hd) : List Clz := l.map fun h => (.ref (cl h.1), h.2.1, fun a cls d => tSu K cl cf Δc Δt Δ' h.2.1 a cls d h.2.2)
theorem DHs.hds {hs : List ExceptHandler} {l : List Hd} (h : DHs X cl cf Δc Δt Δ' hs l) : HdsN X hs (clzOf X.K cl cf Δc Δt Δ' l) := by
  induction h with
  | nil => exact .nil
  | named hN hi hln hc hp hl hsu r ih => exact .named hN hi hln hc hsu ih
  | plain hc hsu r ih => exact .plain hc hsu ih
theorem freeN_some {i : Nat} {ρ : DEnv} (h : freeN (some i) ρ = true) : ρ[i]? = some none := by
  unfold freeN at h
  dsimp only at h
  cases q : ρ[i]? with
  | none => rw [q] at h; cases h
  | some o =>
    rw [q] at h
    cases o with
    | none => rfl
    | some d => cases h
theorem pick_ok {E : Ent cf.pn} (hsub : ∀ a b v, isub a b = some v → PySem.W.exmOne X.K (.ref (cl a)) (.ref (cl b)) = some v) (hpt : ptB Δt cf.Δr = true) {hs : List ExceptHandler} {l : List Hd} (h : DHs X cl cf Δc Δt Δ' hs l) {x : Exn} {ρ : DEnv} {Dn : Ends} (w : wpS X.K cl W cf E Δc Δ' (pickS isub l x ρ) Dn)
    {F H : Hp} {fp fv : List Addr} {σ : St} {c : Value} {dx : Option Addr} (s : StOk X.K cl E Δt F H ρ σ fp) (e : XRep X.K cl F x c dx H fv) (na : ∀ a ∈ fv, a ∉ fp ∧ F a = none ∧ (E.H0 a = none ∨ a ∈ E.fp0)) (nd : fv.Nodup) : wNam X.K W Dn (clzOf X.K cl cf Δc Δt Δ' l) c dx σ H := by
  induction h with
  | nil => exact exS.use w s hpt e na nd
  | @named x1 n i cc g b0 su q q' hs l hN hi hln hc hp hl hsu r ih =>
    have w' : wpS X.K cl W cf E Δc Δ' (match isub x.c cc with
      | some true => if freeN (some i) ρ = true then ckN (some i) (g x ρ) else .bad
      | some false => pickS isub l x ρ
      | none => .bad) Dn := w
    cases z : isub x.c cc with
    | none => rw [z] at w'; exact w'.elim
    | some v =>
      rw [z] at w'
      refine ⟨v, by rw [e.1]; exact hsub _ _ _ z, fun hv a ha => ?_, fun hv => ?_⟩
      · subst hv
        have w2 : wpS X.K cl W cf E Δc Δ' (if freeN (some i) ρ = true then ckN (some i) (g x ρ) else .bad) Dn := w'
        by_cases fr : freeN (some i) ρ = true
        · rw [if_pos fr] at w2
          have hρ := freeN_some fr
          have hlen : i < σ.length := by
            have := (SRel.len s.sl).1
            have lt : i < ρ.length := by
              rcases Nat.lt_or_ge i ρ.length with lt | ge
              · exact lt
              · rw [List.getElem?_eq_none ge] at hρ; cases hρ
            omega
          refine ⟨E, F, ρ, fp, fv, x, s.setFree hρ hp, e, na, nd, fun j ej => ?_, ?_⟩
          · cases ej
            refine ⟨?_, hρ⟩
            show (σ.set i _)[i]? = _
            rw [List.getElem?_set, if_pos rfl, if_pos hlen]
          · show wpS X.K cl W0 cf E Δc Δ' (ckN (some i) (g x ρ)) (endN (some i) Dn)
            cases y : g x ρ with
            | next ρ1 =>
              rw [y] at w2
              have w3 : wpS X.K cl W cf E Δc Δ' (if freeN (some i) ρ1 = true then .next ρ1 else .bad) Dn := w2
              show wpS X.K cl W0 cf E Δc Δ' (if freeN (some i) ρ1 = true then .next ρ1 else .bad) _
              by_cases c1 : freeN (some i) ρ1 = true
              · rw [if_pos c1] at w3 ⊢
                exact fun F2 fp2 σ2 H2 s2 => w3 F2 fp2 _ H2 (s2.setFree (freeN_some c1) hp)
              · rw [if_neg c1] at w3; exact w3.elim
            | brk ρ1 =>
              rw [y] at w2
              have w3 : wpS X.K cl W cf E Δc Δ' (if freeN (some i) ρ1 = true then .brk ρ1 else .bad) Dn := w2
              show wpS X.K cl W0 cf E Δc Δ' (if freeN (some i) ρ1 = true then .brk ρ1 else .bad) _
              by_cases c1 : freeN (some i) ρ1 = true
              · rw [if_pos c1] at w3 ⊢
                exact fun F2 fp2 σ2 H2 s2 => w3 F2 fp2 _ H2 (s2.setFree (freeN_some c1) hp)
              · rw [if_neg c1] at w3; exact w3.elim
            | cont ρ1 =>
              rw [y] at w2
              have w3 : wpS X.K cl W cf E Δc Δ' (if freeN (some i) ρ1 = true then .cont ρ1 else .bad) Dn := w2
              show wpS X.K cl W0 cf E Δc Δ' (if freeN (some i) ρ1 = true then .cont ρ1 else .bad) _
              by_cases c1 : freeN (some i) ρ1 = true
              · rw [if_pos c1] at w3 ⊢
                exact fun F2 fp2 σ2 H2 s2 => w3 F2 fp2 _ H2 (s2.setFree (freeN_some c1) hp)
              · rw [if_neg c1] at w3; exact w3.elim
            | ret d ρ1 => rw [y] at w2; exact w2
            | ex x1 ρ1 => rw [y] at w2; exact w2.elim
            | bad => rw [y] at w2; exact w2.elim
        · rw [if_neg fr] at w2; exact w2.elim
      · subst hv
        exact ih w'
  | @plain x1 cc g b0 su q q' hs l hc hsu r ih =>
    have w' : wpS X.K cl W cf E Δc Δ' (match isub x.c cc with
      | some true => if freeN none ρ = true then ckN none (g x ρ) else .bad
      | some false => pickS isub l x ρ
      | none => .bad) Dn := w
    cases z : isub x.c cc with
    | none => rw [z] at w'; exact w'.elim
    | some v =>
      rw [z] at w'
      refine ⟨v, by rw [e.1]; exact hsub _ _ _ z, fun hv a ha => ?_, fun hv => ?_⟩
      · subst hv
        have w2 : wpS X.K cl W cf E Δc Δ' (ckN none (g x ρ)) Dn := w'
        refine ⟨E, F, ρ, fp, fv, x, s, e, na, nd, fun j ej => (by cases ej), ?_⟩
        show wpS X.K cl W0 cf E Δc Δ' (ckN none (g x ρ)) (endN none Dn)
        cases y : g x ρ with
        | ex x1 ρ1 => rw [y] at w2; exact w2.elim
        | bad => rw [y] at w2; exact w2.elim
        | next ρ1 => rw [y] at w2; exact w2
        | brk ρ1 => rw [y] at w2; exact w2
        | cont ρ1 => rw [y] at w2; exact w2
        | ret d ρ1 => rw [y] at w2; exact w2
      · subst hv
        exact ih w'
theorem ds_try {h0 : ExceptHandler} {hs : List ExceptHandler} {l : List Hd} (hsub : ∀ a b v, isub a b = some v → PySem.W.exmOne X.K (.ref (cl a)) (.ref (cl b)) = some v) (e1 : X.stack = X.env :: X.outer) (e2 : X.env.frame = some X.env.locals) (tk : L2N.Takes X W)
    (hb : ∀ (W' : WX) (pn : List (Addr × Obj)) (xe : Value → Shared → Prop), L2N.Takes (X.tr pn xe) W' → PassesOwn (model X.prog X.w) X.A X.env xe → DSs (X.tr pn xe) cl W' ⟨cf.r, Δt, cf.pn⟩ Δc Δ bd Δ' b) (hh : DHs X cl cf Δc Δt Δ' (h0 :: hs) l) (hpt : ptB Δt cf.Δr = true := by rfl) :
    DS X cl W cf Δc Δ (.Try bd (h0 :: hs) [] [] pos) Δ' (tryS isub b l) := PS.imp (ps_try_nam (tb := fun W' => tS X.K cl W' ⟨cf.r, Δt, cf.pn⟩ Δc Δ Δ' b) e1 e2 tk hb hh.hds) fun Dn σ H ⟨E, F, ρ, fp, s, w⟩ => by
  refine ⟨E, F, ρ, fp, s, ?_⟩
  unfold tryS at w
  cases q : b ρ with
  | next ρ1 => rw [q] at w; exact w
  | brk ρ1 => rw [q] at w; exact w
  | cont ρ1 => rw [q] at w; exact w
  | bad => rw [q] at w; exact w.elim
  | ret d ρ1 =>
    rw [q] at w
    exact fun F1 fp1 σ1 H1 v fv s1 o a n => rtS.use (cf := cf) w s1 hpt o a n
  | ex x ρ1 =>
    rw [q] at w
    exact fun F1 fp1 σ1 H1 c dx fv s1 e a n => pick_ok hsub hpt hh w s1 e a n
end
end DL

namespace DL
open PySem PySem.Spec PyProof.Rows L2 HotX
/-! ### the end of a zip, while an exception is handled -/
section
variable {pg : Program} {w : World} {A : Around} {Ex : Value → Shared → Prop} {s0 : Shared}
theorem nextOf_end_hot {it l x1 : Addr} {i : Nat} {its : Array Value} {Q : Value → Shared → Prop} (hot : HotAt A x1 s0.heap) (ne1 : x1 ≠ it) (hit : s0.heap.IsListIter it l i) (hl : s0.heap.IsList l its) (hx : its[i]? = none)
    (fin : ∀ h2 e, Heap.ExtBut it s0.heap h2 → (∃ o, h2.get? e = some o ∧ o.cls = .type "StopIteration") → Ex (.ref e) { s0 with heap := h2 }) : wpAny (model pg w) A (Builtin.SmallTypes.nextOf (.ref it)) Q Ex s0 := by
  obtain ⟨o, ho, hc, hd⟩ := id hit
  obtain ⟨ol, hol, _, nl, hdl⟩ := hl
  obtain ⟨hh, o1, vs1, g1, d1, c1⟩ := hot
  have nb : ¬ ((Value.ref l == Value.none) = true) := Bool.false_ne_true
  unfold Builtin.SmallTypes.nextOf
  refine wpAny_bind (wpAny_callSpecial?_slot (name := Str.ofString "__next__") hit.typeIs slot_listiter_next (wpAny_call_entry slot_listiter_next hit.typeIs entry_listiter_next ?_ (args_listiter_next _)))
  show wpAny _ _ (field (.ref it) 0 >>= _) _ _ s0
  refine wpAny_bind (wpAny_field ho hd (x := .ref l) rfl ?_)
  show wpAny _ _ (if (Value.ref l == Value.none) = true then _ else _) _ _ s0
  rw [if_neg nb]
  show wpAny _ _ (field (.ref it) 1 >>= _) _ _ s0
  refine wpAny_bind (wpAny_field ho hd (x := .int i 0) rfl ?_)
  show wpAny _ _ (seqItems? (.ref l) >>= _) _ _ s0
  refine wpAny_bind (wpAny_seqItems hol hdl ?_)
  simp only [Int.toNat_natCast, hx]
  refine wpAny_bind (wpAny_rule (wpAny_bind (wpAny_setField ho hd (by simp) ?_)))
  show wpAny _ _ (newExc (.type "StopIteration") [] >>= _) _ _ _
  refine wpAny_bind ?_
  simp only [newExc, newTuple]
  refine wpAny_bind (wpAny_newObj_type ?_ (by size_fits))
  refine wpAny_bind (m := firstArgMember _ _) (wpAny_of_eq (a := Value.none) (by first | rfl | (simp only [firstArgMember]; rfl)) ?_)
  refine wpAny_newObj_type ?_ (by size_fits)
  have up : ∀ b o, b ≠ it → s0.heap.get? b = some o → (s0.heap.update it (Obj.mapFields (·.setIfInBounds 0 Value.none))).get? b = some o := fun b o nb e => by
    rw [Heap.get?_update_other _ _ (Ne.symm nb)]
    exact e
  refine raiseNew_hot ⟨hh, o1, vs1, Heap.get?_push_of_some _ (Heap.get?_push_of_some _ (up _ _ ne1 g1)), d1, c1⟩ (Nat.ne_of_lt (Heap.lt_size (Heap.get?_push_of_some _ (up _ _ ne1 g1)))) (Heap.get?_push_size _ rfl) rfl (by first | (simp; done) | (simp; omega) | (simp only [Array.size_append]; simp; omega)) ?_
  refine fin _ _ (fun b o nb e => ?_) ⟨_, Heap.get?_update_self _ (Heap.get?_push_size _ rfl) rfl, rfl⟩
  rw [Heap.get?_update_other _ _ (Nat.ne_of_gt (Heap.lt_size (Heap.get?_push_of_some _ (up _ _ nb e))))]
  exact Heap.get?_push_of_some _ (Heap.get?_push_of_some _ (up _ _ nb e))
/-- the first list has come to its end -/
theorem zip_end_hot {z TI TO i1 i2 l1 l2 x1 : Addr} {k1 : Nat} {xs : Array Value} {a b : Value} {Q : Option Value → Shared → Prop} (hot : HotAt A x1 s0.heap) (ne1 : x1 ≠ i1) (ne2 : x1 ≠ z) (Dz : ZipApart z TI TO i1 i2 l1 l2) (hz : IsZip s0.heap z TI TO .none) (hTI : IsPair s0.heap TI (.ref i1) (.ref i2))
    (hTO : IsPair s0.heap TO a b) (h1 : s0.heap.IsListIter i1 l1 k1) (hl1 : s0.heap.IsList l1 xs) (hx : xs[k1]? = none) (fin : ∀ h2, (∀ c o, c ≠ z → c ≠ TO → c ≠ i1 → c ≠ i2 → s0.heap.get? c = some o → h2.get? c = some o) → Q none { s0 with heap := h2 }) :
    wpAny (model pg w) A (pyNext (.ref z)) Q Ex s0 := by
  have hT : s0.TypeIs (.ref z) "zip" := ⟨_, hz, rfl⟩
  unfold pyNext
  refine wpAny_bind (wpAny_attempt (wpAny_callSpecial?_slot (name := Str.ofString "__next__") hT PySem.F.slot_zip_next (wpAny_call_entry PySem.F.slot_zip_next hT PySem.F.entry_zip_next ?_ (PySem.F.args_zip_next_1 _))))
  show wpAny _ _ (field (.ref z) 2 >>= _) _ _ _
  refine wpAny_bind (wpAny_field hz rfl (x := .bool false) rfl ?_)
  show wpAny _ _ (field (.ref z) 3 >>= _) _ _ _
  refine wpAny_bind (wpAny_field hz rfl (x := .ref TI) rfl (wpAny_bind (wpAny_seqItems hTI rfl ?_)))
  show wpAny _ _ (Builtin.SmallTypes.ownedTupleIsFree (.ref z) >>= _) _ _ _
  refine wpAny_bind ?_
  unfold Builtin.SmallTypes.ownedTupleIsFree
  refine wpAny_bind (wpAny_field hz rfl (x := .none) rfl (wpAny_pure ?_))
  simp only [if_true]
  refine wpAny_bind (wpAny_rule (wpAny_bind (wpAny_field hz rfl (x := .ref TO) rfl ?_)))
  refine wpAny_bind (wpAny_setField_rec hz (by simp) fun h2 hz2 sb2 => ?_)
  replace hz2 : IsZip h2 z TI TO .ellipsis := hz2
  refine wpAny_bind ?_
  simp only [List.zipIdx_cons, List.zipIdx_nil, List.forIn_cons, List.forIn_nil]
  refine wpAny_bind (wpAny_bind (wpAny_onRaise ?_))
  show wpAny _ _ (Builtin.SmallTypes.nextOf (.ref i1) >>= _) _ _ _
  have hot2 : HotAt A x1 h2 := by
    obtain ⟨hh, o1, vs1, g1, d1, c1⟩ := hot
    exact ⟨hh, o1, vs1, sb2.extBut _ _ ne2 g1, d1, c1⟩
  refine wpAny_bind (nextOf_end_hot hot2 ne1 (h1.extBut sb2.extBut Dz.i1z) (hl1.extBut sb2.extBut Dz.l1z) hx fun h3 e sb3 he => ?_)
  obtain ⟨oe, hoe, hce⟩ := he
  have hz3 : IsZip h3 z TI TO .ellipsis := sb3 _ _ Dz.i1z.symm hz2
  have hez : e ≠ z := fun y => by
    subst y
    rw [hz3] at hoe
    cases hoe
    simp at hce
  refine wpAny_setField_rec hz3 (by simp) fun h4 _ sb4 => ?_
  refine wpAny_bind (wpAny_isInstance (T := "StopIteration") (b := true) ⟨oe, sb4.extBut _ _ hez hoe, hce⟩ isSubtype_stop ?_)
  exact wpAny_pure (fin _ fun c o c1 _ c3 _ y => sb4.extBut _ _ c1 (sb3 _ _ c3 (sb2.extBut _ _ c1 y)))
end
end DL

namespace DL
open PySem PySem.Spec PyProof.Rows L2 HotX
/-! ### a comprehension over a zip, while an exception is handled -/
structure TurnY (P : Program) (w : World) (K : PySem.W.Frag) (tg : Expr) (J : It) (fs : List Addr) (it : Addr) (tn : Nat → Heap → Prop) : Prop where
  obj : ∀ i h, tn i h → ∀ b ∈ fs, ∃ o, h.get? b = some o ∧ ∀ v, o.data ≠ .cell v
  keep : ∀ i h h', tn i h → (∀ b ∈ fs, ∀ o, h.get? b = some o → h'.get? b = some o) → tn i h'
  item : ∀ (X : Cx), X.prog = P → X.w = w → X.K = K → ∀ (i : Nat) (pins : List (Addr × Obj)) (s : Shared) (σ : St) (H : Hp) (E : Value → Shared → Prop), Inv X pins σ H s → (∀ b ∈ fs, FpOk X pins H b) → tn i s.heap → J.go i H →
    wpAny (model P w) X.A (pyNext (.ref it)) (fun r s1 => ∃ u, r = some u ∧
      wpAny (model P w) X.A (letOwnedTupleGo tg (.ref it) u) (fun _ s2 => ∃ x H', Inv X pins σ H' s2 ∧ RelV x u ∧ J.yld i H x H' ∧ tn (i + 1) s2.heap ∧ ∀ b ∈ fs, H' b = none) E s1) E s
  done : ∀ (X : Cx), X.prog = P → X.w = w → X.K = K → ∀ (x1 : Addr) (i : Nat) (pins : List (Addr × Obj)) (s : Shared) (σ : St) (H : Hp) (E : Value → Shared → Prop), HotAt X.A x1 s.heap → x1 ∉ fs → Inv X pins σ H s → (∀ b ∈ fs, FpOk X pins H b) → tn i s.heap → J.stop i H →
    wpAny (model P w) X.A (pyNext (.ref it)) (fun r s1 => r = none ∧ Inv X pins σ H s1) E s
  self : ∀ (A : Around) (i : Nat) (s : Shared) (Q : Value → Shared → Prop) (E : Value → Shared → Prop), tn i s.heap → Q (.ref it) s → wpAny (model P w) A (pyIter (.ref it)) Q E s
/-- zip, the first list no longer than the second -/
def ItY (K : PySem.W.Frag) (a b : Addr) : It :=
  ⟨(Itz K a b).go, (Itz K a b).yld, fun i H => ∃ xs ys : List V, SqL K H a xs ∧ SqL K H b ys ∧ xs.length ≤ i⟩
theorem turn_zipY {P : Program} {w : World} {K : PySem.W.Frag} {elts : List Expr} {kk : Nat} {tpos : Pos} {a b z TI TO i1 i2 : Addr} (Dz : ZipApart z TI TO i1 i2 a b) :
    TurnY P w K (.Tuple elts kk tpos) (ItY K a b) [z, TI, TO, i1, i2] z (fun i h => IsZip h z TI TO .none ∧ IsPair h TI (.ref i1) (.ref i2) ∧ (∃ x y, IsPair h TO x y) ∧ h.IsListIter i1 a i ∧ h.IsListIter i2 b i) where
  obj := fun i h st c m => by
    obtain ⟨g1, g2, ⟨x, y, g3⟩, ⟨o1, e1, _, d1⟩, ⟨o2, e2, _, d2⟩⟩ := st
    have m' : c = z ∨ c = TI ∨ c = TO ∨ c = i1 ∨ c = i2 := by simpa using m
    rcases m' with q | q | q | q | q <;> subst q
    · exact ⟨_, g1, fun v q => nomatch q⟩
    · exact ⟨_, g2, fun v q => nomatch q⟩
    · exact ⟨_, g3, fun v q => nomatch q⟩
    · exact ⟨o1, e1, fun v q => by rw [d1] at q; cases q⟩
    · exact ⟨o2, e2, fun v q => by rw [d2] at q; cases q⟩
  keep := fun i h h' st kp => by
    obtain ⟨g1, g2, ⟨x, y, g3⟩, q1, q2⟩ := st
    exact ⟨kp z (by simp) _ g1, kp TI (by simp) _ g2, ⟨x, y, kp TO (by simp) _ g3⟩, q1.at fun o q => kp i1 (by simp) o q, q2.at fun o q => kp i2 (by simp) o q⟩
  item := by
    intro X hP hw hK i pins s σ H E I hf st hg
    subst hP hw hK
    obtain ⟨g1, g2, ⟨x0, y0, g3⟩, q1, q2⟩ := st
    obtain ⟨xs, ys, x, y, hx, hy, hx1, hy1⟩ := hg
    obtain ⟨ls, r1, p1, _⟩ := I.list hx
    obtain ⟨ms, r2, p2, _⟩ := I.list hy
    obtain ⟨u, hu, ru⟩ := r1.get hx1
    obtain ⟨v, hv, rv⟩ := r2.get hy1
    have zl : z < s.heap.objs.size := Heap.lt_size g1
    refine wpAny_pyNext_zip_item Dz g1 g2 g3 q1 q2 p1.isList p2.isList (x := u) (y := v) (by simpa using hu) (by simpa using hv) fun h2 z2 t2 j1 j2 hT sz2 kp => ?_
    refine ⟨_, rfl, wpAny_letOwnedTupleGo_zip (s := { s with heap := h2 }) z2 fun h3 z3 sb => ?_⟩
    have hT3 : h3.get? s.heap.objs.size = some { cls := .type "tuple", data := .seq #[u, v] } := (sb.2 _ (Nat.ne_of_gt zl)).trans hT
    have new : ObjOk X.prog X.w (upd H s.heap.objs.size (.tup [x, y])) h3 s.heap.objs.size (.tup [x, y]) := ⟨by show 2 ≤ sizeLine; decide, [u, v], .cons ru (.cons rv .nil), ⟨_, hT3, rfl, _, rfl⟩⟩
    have I1 : Inv X pins σ (upd H s.heap.objs.size (.tup [x, y])) { s with heap := h3 } := I.turnedNew (t' := s.toks) (ch := [z, TI, TO, i1, i2]) (fun c o nb e => (sb.2 c (fun y => nb (by simp [y]))).trans
      (kp c o (fun y => nb (by simp [y])) (fun y => nb (by simp [y])) (fun y => nb (by simp [y])) (fun y => nb (by simp [y])) e)) hf (Nat.le_refl _) new
    refine ⟨.ref s.heap.objs.size, _, I1, rfl, ⟨_, x, y, rfl, I.hok.fresh (Nat.le_refl _), rfl, fun l hl => by rw [I.list_inj hl hx]; exact hx1, fun l hl => by rw [I.list_inj hl hy]; exact hy1⟩, ⟨z3, ?_, ⟨u, v, ?_⟩, ?_, ?_⟩, fun c m => ?_⟩
    · exact (sb.2 _ Dz.TIz).trans (kp _ _ Dz.TIz Dz.TITO Dz.TIi1 Dz.TIi2 g2)
    · exact (sb.2 _ Dz.TOz).trans t2
    · exact j1.at fun o q => (sb.2 _ Dz.i1z).trans q
    · exact j2.at fun o q => (sb.2 _ Dz.i2z).trans q
    · have lt : c < s.heap.objs.size := by
        have m' : c = z ∨ c = TI ∨ c = TO ∨ c = i1 ∨ c = i2 := by simpa using m
        rcases m' with q | q | q | q | q <;> subst q
        · exact zl
        · exact Heap.lt_size g2
        · exact Heap.lt_size g3
        · obtain ⟨_, e1, _⟩ := q1; exact Heap.lt_size e1
        · obtain ⟨_, e2, _⟩ := q2; exact Heap.lt_size e2
      rw [upd_ne (Nat.ne_of_lt lt)]
      exact (hf c m).1
  done := by
    intro X hP hw hK x1 i pins s σ H E hot nx I hf st hg
    subst hP hw hK
    obtain ⟨g1, g2, ⟨x0, y0, g3⟩, q1, q2⟩ := st
    obtain ⟨xs, ys, hx, hy, le⟩ := hg
    obtain ⟨ls, r1, p1, _⟩ := I.list hx
    have l1 := r1.length
    have n1 : x1 ≠ i1 := fun e => nx (by simp [e])
    have n2 : x1 ≠ z := fun e => nx (by simp [e])
    exact zip_end_hot hot n1 n2 Dz g1 g2 g3 q1 p1.isList (by simp; omega) fun h2 kp => ⟨rfl, I.turnedL (t' := s.toks) (ch := [z, TI, TO, i1, i2]) (fun c o nb e =>
      kp c o (fun y => nb (by simp [y])) (fun y => nb (by simp [y])) (fun y => nb (by simp [y])) (fun y => nb (by simp [y])) e) hf⟩
  self := fun A i s Q E st h => wpAny_pyIter_zip st.1 h
def PIEY (X : Cx) (pins : List (Addr × Obj)) (σ : St) (tg : Expr) (R : It → Hp → Prop) (itv : Value) (s2 : Shared) : Prop :=
  ∃ (it : Addr) (fs : List Addr) (tn : Nat → Heap → Prop) (J : It) (H' : Hp), itv = .ref it ∧ Inv X pins σ H' s2 ∧ TurnY X.prog X.w X.K tg J fs it tn ∧ tn 0 s2.heap ∧ (∀ b ∈ fs, FpOk X pins H' b) ∧ R J H'
structure PIY (X : Cx) (tg iter : Expr) (wi : TI) : Prop where
  run : ∀ (pins : List (Addr × Obj)) (s : Shared) (σ : St) (H : Hp) (R : It → Hp → Prop), Inv X pins σ H s → wi σ H R →
    wpAny (model X.prog X.w) X.A (eval iter X.env) (fun v s1 => wpAny (model X.prog X.w) X.A (pyIter v) (PIEY X pins σ tg R) X.xe s1) X.xe s
def iZipY (K : PySem.W.Frag) (ta : TA) : TI := fun σ H R => ta σ H fun vs H1 => ∃ a b xs ys, vs = [.ref a, .ref b] ∧ SqL K H1 a xs ∧ SqL K H1 b ys ∧ R (ItY K a b) H1
theorem pi_zipY {X : Cx} {e e2 : Expr} {ta : TA} {p pos tpos : Pos} {elts : List Expr} {kk : Nat} (hg : Gl X "zip") (hm : X.mg "zip" = none) (ha : PA X [e, e2] ta) (hs : starEach [e, e2] X.env = (false, eval e X.env) :: starEach [e2] X.env := by rfl)
    (hpl : (backTo pos (starEach [e2] X.env)).any (·.1) = false := by rfl) : PIY X (.Tuple elts kk tpos) (.Call (.Name "zip" p) [e, e2] [] pos) (iZipY X.K ta) := by
  refine ⟨fun pins s σ H R I w => ?_⟩
  refine Call_ (ld_blt I hg hm PyProof.Rows.boot_zip (PyProof.Rows.callWith_type1 (thn (ha.run pos pins s σ H _ I w) fun us s1 ⟨vs, H1, I1, r1, q1⟩ => ?_) hs hpl))
  obtain ⟨a, b, xs, ys, ex, hx, hy, q⟩ := q1
  subst ex
  cases r1 with
  | cons t1 rr =>
    cases rr with
    | cons t2 rr =>
      cases rr
      cases t1
      cases t2
      obtain ⟨ls, r1, p1, _⟩ := I1.list hx
      obtain ⟨ms, r2, p2, _⟩ := I1.list hy
      refine call_zip_2 p1.isList p2.isList fun h2 g1 g2 g3 j1 j2 sz2 kp => wpAny_pyIter_zip g1 ?_
      have I2 : Inv X pins σ H1 { s1 with heap := h2 } := I1.kept (t' := s1.toks) kp
      refine ⟨s1.heap.objs.size + 4, [s1.heap.objs.size + 4, s1.heap.objs.size + 2, s1.heap.objs.size + 3, s1.heap.objs.size, s1.heap.objs.size + 1], _, _, H1, rfl, I2, turn_zipY (PySem.W.ktu_apart s1.heap.objs.size a b p1.lt p2.lt), ⟨g1, g2, ⟨_, _, g3⟩, j1, j2⟩, fun c m => ?_, q⟩
      have le : s1.heap.objs.size ≤ c := by
        have m' : c = s1.heap.objs.size + 4 ∨ c = s1.heap.objs.size + 2 ∨ c = s1.heap.objs.size + 3 ∨ c = s1.heap.objs.size ∨ c = s1.heap.objs.size + 1 := by simpa using m
        rcases m' with q | q | q | q | q <;> rw [q] <;> first | exact Nat.le_add_right _ _ | exact Nat.le_refl _
      exact I1.fpOk le (I1.hok.fresh le)
theorem thnN {α : Type} {t : Sem α} {Q Q' : α → Shared → Prop} {M : Model} {A : Around} {E : Value → Shared → Prop} {s : Shared} (h : wpAny M A t Q (fun _ _ => False) s) (hQ : ∀ a s, Q a s → Q' a s) : wpAny M A t Q' E s := wpAny_mono h hQ fun _ _ z => z.elim
/-- here an exception is handled, and its object stands all the time -/
def HotB (X : Cx) : Prop := ∃ x1, ∀ pins σ H s, Inv X pins σ H s → HotAt X.A x1 s.heap
theorem pe_lcY {X : Cx} {elt tg iter : Expr} {ifs : List Expr} {scope : Scope} {own : List (Str × Nat)} {pos : Pos} {wi : TI} {g : TG} {tt : TT} {te : TE} (hot : L2H.HotC X) (hN : X.N.Nodup) (hi : PIY X tg iter wi) (ok : BlkOk X.N X.env.scope scope own)
    (hg : ∀ (s : Shared) (H : Hp) (C : Addr) (cc : List (Str × Addr)) (fs : List Addr), HotB (X.blk s H scope (compEnvC scope cc C X.env) fs) → PG (X.blk s H scope (compEnvC scope cc C X.env) fs) tg g) (ht : ∀ (s : Shared) (H : Hp) (C : Addr) (cc : List (Str × Addr)) (fs : List Addr), PTs (X.blk s H scope (compEnvC scope cc C X.env) fs) ifs tt)
    (he : ∀ (s : Shared) (H : Hp) (C : Addr) (cc : List (Str × Addr)) (fs : List Addr), PE (X.blk s H scope (compEnvC scope cc C X.env) fs) elt te) (hs : ∀ x, foldedSetIterable iter X.env x = pure x := by intro _; rfl) :
    PE X (.ListComp elt [⟨tg, iter, ifs, 0⟩] scope pos) (tLc wi g tt te (own.map (·.2))) := by
  refine ⟨fun pins s σ H Q I h => ?_⟩
  rw [eval_ListComp]
  obtain ⟨px, ⟨hh, v1, dx1, cx1⟩, hpx⟩ := hot
  have hfree : ∀ y ∈ scope.names, y.2 = .free → ∃ c, X.env.cells.lookup y.1 = some c := fun y hy e => (ok.free y hy e).elim (fun k => I.ok.has _ (.inl k)) (fun k => I.ok.has _ (.inr k))
  refine wpAny_comprehension_free (use := none) rfl hs (closure_ok hfree) ok.kind (fun y hy e => by rw [ok.uniq y hy, e]) (thn (hi.run pins s σ H _ I h) fun xv s1 hx => thn hx fun itv s2 h2 => ?_)
  obtain ⟨it, fs, tn, J, H2, e, I2, T, st2, f2, q⟩ := h2
  subst e
  refine wpAny_newObj_type (newEnv_comp ?_) (by show 0 ≤ sizeLine; decide)
  generalize hD : s2.heap.objs.size = L
  have hDn : H2 L = none := I2.hok.fresh (Nat.le_of_eq hD)
  obtain ⟨W, ⟨m0, w0⟩, turn⟩ := q L hDn
  have P2 := I2.pin px (List.mem_append_left _ hpx)
  generalize hs3 : ({ s2 with heap := s2.heap.push { cls := .type "list", data := .seq ([] : List Value).toArray } } : Shared) = s3
  have h3 : s3.heap = s2.heap.push { cls := .type "list", data := .seq ([] : List Value).toArray } := by rw [← hs3]
  have I3 : Inv X pins σ (upd H2 L (.lst [])) s3 := by
    rw [← hs3]
    refine I2.laid (t' := s2.toks) (fun b o e => Heap.get?_push_of_some _ e) (Nat.le_of_eq hD) ⟨Nat.zero_le _, [], 0, .nil, ?_⟩
    rw [← hD]
    exact Heap.get?_push_size _ rfl
  have sz : ∀ b ∈ fs, b < s2.heap.objs.size := fun b m => by
    obtain ⟨o, e, _⟩ := T.obj _ _ st2 b m
    exact Heap.lt_size e
  have f3 : ∀ b ∈ fs, FpOk X pins (upd H2 L (.lst [])) b ∧ b < s3.heap.objs.size := fun b m => by
    have lt := sz b m
    refine ⟨⟨?_, (f2 b m).2⟩, by rw [h3, Heap.size_push]; exact Nat.lt_succ_of_lt lt⟩
    rw [upd_ne (by rw [← hD]; exact Nat.ne_of_lt lt)]
    exact (f2 b m).1
  have P3 := I3.pin px (List.mem_append_left _ hpx)
  have nxfs : px.1 ∉ fs := fun m => (f3 px.1 m).1.2.2.2.2.2 px (List.mem_append_left _ hpx) rfl
  have st3 : tn 0 s3.heap := T.keep _ _ _ st2 fun b _ o e => by rw [h3]; exact Heap.get?_push_of_some _ e
  have I4 := block_start I3 ok hN f3
  have hB : HotB (X.blk s3 (upd H2 L (.lst [])) scope (compEnvC scope (cellsFrom (s3.heap.objs.size + 1) scope.names (cloFrom X.env.cells scope.names [])) s3.heap.objs.size X.env) fs) := ⟨px.1, fun _ _ _ s5 J5 => ⟨hh, px.2, v1, J5.base.keep px.1 px.2 P3.1 P3.2.1 (fun m => (List.mem_cons.mp (I3.stkSub px.1 m)).elim P3.2.2.1 P3.2.2.2.1) nxfs, dx1, cx1⟩⟩
  have pg := hg s3 (upd H2 L (.lst [])) s3.heap.objs.size (cellsFrom (s3.heap.objs.size + 1) scope.names (cloFrom X.env.cells scope.names [])) fs hB
  have pt := ht s3 (upd H2 L (.lst [])) s3.heap.objs.size (cellsFrom (s3.heap.objs.size + 1) scope.names (cloFrom X.env.cells scope.names [])) fs
  have pe := he s3 (upd H2 L (.lst [])) s3.heap.objs.size (cellsFrom (s3.heap.objs.size + 1) scope.names (cloFrom X.env.cells scope.names [])) fs
  show codeAny _ _ (.compStart (.ListComp elt [⟨tg, iter, ifs, 0⟩] scope pos) 0 (.ref it) (.ref L) (compEnvC scope (cellsFrom (s3.heap.objs.size + 1) scope.names (cloFrom X.env.cells scope.names [])) s3.heap.objs.size X.env)) (compPost (model X.prog X.w) X.A X.xe none _ (.ref L) s3.heap.objs.size) { s3 with heap := pushCells (s3.heap.push { cls := .type "dict", data := .dict #[] }) scope.names }
  have nfs : ∀ b ∈ fs, (upd H2 L (.lst [])) b = none := fun b m => (f3 b m).1.1
  generalize hce : compEnvC scope (cellsFrom (s3.heap.objs.size + 1) scope.names (cloFrom X.env.cells scope.names [])) s3.heap.objs.size X.env = ce at I4 pg pt pe ⊢
  have cL : ce.locals = s3.heap.objs.size := by subst hce; rfl
  generalize hH3 : upd H2 L (.lst []) = H3 at I3 I4 pg pt pe w0 nfs f3 P3
  generalize hs4 : ({ s3 with heap := pushCells (s3.heap.push { cls := .type "dict", data := .dict #[] }) scope.names } : Shared) = s4 at I4 ⊢
  have st4 : tn 0 s4.heap := T.keep _ _ _ st3 fun b _ o e => by rw [← hs4]; exact pushCells_keeps _ _ _ _ (Heap.get?_push_of_some _ e)
  have stat : ∀ {σ' : St} {H' : Hp} {s' : Shared}, Inv (X.blk s3 H3 scope ce fs) [] σ' H' s' → (∀ b ∈ fs, H' b = none) → ∀ b ∈ fs, FpOk (X.blk s3 H3 scope ce fs) [] H' b := fun {σ' H' s'} J' hn b m =>
    ⟨hn b m, (J'.ok.exf b m).1, J'.ok.exfs b m, .inl m, fun x c e => (J'.ok.exf b m).2 x c e, fun p hp => absurd (show p ∈ ([] : List (Addr × Obj)) ++ [] from hp) (by simp)⟩
  have loop : codeAny (model X.prog X.w) X.A (.compLoop (.ListComp elt [⟨tg, iter, ifs, 0⟩] scope pos) 0 (.ref it) (.ref L) ce) (compPost (model X.prog X.w) X.A X.xe none (EP X pins σ Q) (.ref L) s3.heap.objs.size) s4 := by
    refine compLoop_any (fun n s' => ∃ i H', Inv (X.blk s3 H3 scope ce fs) [] (wipe σ (own.map (·.2))) H' s' ∧ tn i s'.heap ∧ (∀ b ∈ fs, H' b = none) ∧ W i n H') ?_ m0 ⟨0, H3, I4, st4, nfs, w0⟩
    rintro n s5 ⟨i, H5, I5, st5, n5, w5⟩
    rcases turn i n H5 w5 with ⟨stop, qq⟩ | ⟨go, Nx, hNx, step⟩
    · have nfr : px.1 ∉ frs (X.blk s3 H3 scope ce fs).outer := fun m => (List.mem_cons.mp (I3.stkSub px.1 m)).elim P3.2.2.1 P3.2.2.2.1
      have kept : s5.heap.get? px.1 = some px.2 := I5.base.keep px.1 px.2 P3.1 P3.2.1 nfr nxfs
      refine thnN (T.done (X.blk s3 H3 scope ce fs) rfl rfl rfl px.1 i [] s5 _ H5 (fun _ _ => False) ⟨hh, px.2, v1, kept, dx1, cx1⟩ nxfs I5 (stat I5 n5) st5 stop) fun r s6 ⟨hr, I6⟩ => ?_
      subst hr
      have I7 : Inv X pins σ H5 s6 := I3.call' (ch := fs) I6.os I6.base I6.hok I6.bare fun b m => ⟨(f3 b m).1.2.2.2.1, (f3 b m).1.2.1, (f3 b m).1.2.2.2.2.1, (f3 b m).1.2.2.2.2.2⟩
      have nC : H5 s3.heap.objs.size = none := by
        have z : H5 ce.locals = none := I6.free
        rw [cL] at z
        exact z
      obtain ⟨m, hn, _⟩ := I6.loc
      replace hn : s6.heap.Ns ce.locals m := hn
      rw [cL] at hn
      obtain ⟨f0, f1, fz, f4, f5, f6⟩ := I3.fpOk (Nat.le_refl _) nC
      exact ⟨m, hn, fun h'' sb => ⟨.ref L, H5, I7.turned (t' := s6.toks) (fun b o hb e => (sb.2 b hb).trans e) f0 f1 f4 f5 f6, rfl, qq⟩⟩
    · refine thnN (T.item (X.blk s3 H3 scope ce fs) rfl rfl rfl i [] s5 _ H5 (fun _ _ => False) I5 (stat I5 n5) st5 go) fun r s6 ⟨u, hr, h6⟩ => ?_
      subst hr
      refine thnN h6 fun _ s7 ⟨x, H7, I7, r7, y7, st7, n7⟩ => ?_
      have I7' := I7.pinned (stat I7 n7) (T.obj _ _ st7)
      refine thnN (pg.run _ s7 _ H7 x u _ I7' r7 (step x H7 y7)) fun _ s8 ⟨σ8, H8, I8, hw8, q8⟩ => ?_
      refine thnN (pt.run _ s8 σ8 H8 _ I8 q8) fun b s9 ⟨H9, I9, q9⟩ => ?_
      have fin : ∀ {s' : Shared} {H' : Hp}, Inv (X.blk s3 H3 scope ce fs) ([] ++ pinsAt fs s7.heap) σ8 H' s' → Nx H' → ∃ m, m < n ∧ ∃ i H', Inv (X.blk s3 H3 scope ce fs) [] (wipe σ (own.map (·.2))) H' s' ∧ tn i s'.heap ∧ (∀ b ∈ fs, H' b = none) ∧ W i m H' := fun {s' H'} J' nx => by
        obtain ⟨m', lt, w'⟩ := hNx H' nx
        have pin' : ∀ b ∈ fs, ∀ o, s7.heap.get? b = some o → s'.heap.get? b = some o ∧ H' b = none := fun b m o e =>
          let z := J'.pin (b, o) (List.mem_append_right _ (List.mem_append_right _ (mem_pinsAt m e)))
          ⟨z.1, z.2.1⟩
        have hl : (wipe σ (own.map (·.2))).length = σ8.length := by rw [← hw8, wipe_length]
        refine ⟨m', lt, i + 1, H', (J'.unpinned (pins := [])).weak hl (fun j v e => ?_), T.keep _ _ _ st7 fun b m o e => (pin' b m o e).1, fun b m => ?_, w'⟩
        · rw [← hw8] at e
          exact (wipe_some e).1
        · obtain ⟨o, e, _⟩ := T.obj _ _ st7 b m
          exact (pin' b m o e).2
      cases b with
      | false =>
        simp only [Bool.false_eq_true, if_false] at q9 ⊢
        exact fin I9 q9
      | true =>
        simp only [if_true] at q9 ⊢
        exact thnN (pe.run _ s9 σ8 H9 _ I9 q9) fun z s10 ⟨yv, H10, I10, r10, acc, hD10, hz10, nx⟩ => app_ok (X := X.blk s3 H3 scope ce fs) I10 hD10 hz10 r10 fun s11 I11 => fin I11 nx
  exact codeAny_compStart_list loop (T.self X.A 0 _ _ _ st4 loop)
end DL

namespace DL
open PySem PySem.Spec PyProof.Rows L2
/-! ### isinstance of a caught exception, whatever dict it has -/
section
variable {pg : Program} {w : World} {A : Around} {Ex : Value → Shared → Prop} {s0 : Shared} {K : PySem.W.Frag} {x C : Addr} {ox : Obj} {od : Option Obj}
open PySem.W PySem.Calls in
theorem findG {n : Str} {a g : Value} (h1 : (clsIn K C).isSome = true) (h2 : findIn K (.ref C) n = some (some a)) (h3 : specialIn K a "__get__" = some (some g)) (h4 : takesIn K a = some true) : findObj K C od n = some (.bind g a) := by
  obtain ⟨cd, h1⟩ := Option.isSome_iff_exists.mp h1
  unfold findObj
  rw [h1, Option.bind_some, h2, Option.bind_some]
  simp [h3, h4]
open PySem.W PySem.Calls in
theorem kit_classX {Q : Option Value → Shared → Prop} (T : L2.ExcC K C) (X : K.In s0.heap) (I : InstAt s0.heap x ox C od) (q : Q (some (.ref C)) { s0 with toks := s0.toks + 1 }) : wpAny (model pg w) A (getAttr? (.ref x) "__class__") Q Ex s0 := by
  obtain ⟨cdC, hcC, _⟩ := any_some T.hd
  have hf : findObj K C od "__class__" = some (.bind (.builtin "getset_descriptor.__get__") (.builtin "object.__class__")) := findG (by rw [hcC] <;> rfl) T.ha T.hn T.ht
  obtain ⟨hp, g, d, t, os⟩ := s0
  have k0 := I.type (M := model pg w); have k1 := looks_findIn (M := model pg w) X T.hg
  have k2 := looks_findIn (M := model pg w) X T.hk; have k3 := looks_find (M := model pg w) X I hf
  have sub : Looks (model pg w) hp (isInstance (.ref x) (.type "BaseException")) true := k0.andThen (looks_subIn X T.hs)
  have e2 : (Value.builtin "BaseException.__getattribute__" == Value.builtin "object.__getattribute__") = false := by decide +kernel
  have e1 : (onTheHeap (Value.ref C) && Value.builtin "BaseException.__getattribute__" == Value.builtin "object.__getattribute__") = false := by rw [e2] <;> rfl
  have e0 : (false && onTheHeap (Value.builtin "BaseException.__getattribute__")) = false := rfl
  unfold getAttr? getAttrBy? getAttrBy
  refine wpAny_bind (wpAny_mkText (wpAny_bind (wpAny_attempt (wpAny_holding (wpAny_bind (k0.at (wpAny_bind (k1.at ?_))))))))
  show wpAny _ _ (if (onTheHeap (Value.ref C) && Value.builtin "BaseException.__getattribute__" == Value.builtin "object.__getattribute__") = true then _ else _) _ _ _
  rw [e1, if_neg Bool.false_ne_true]
  unfold getAttrByItsOwn hookBefore
  refine wpAny_bind ?_
  rw [if_pos (show onTheHeap (Value.ref C) = true from rfl)]
  refine k2.at (wpAny_bind (wpAny_attempt (wpAny_holding ?_)))
  unfold callGetattribute
  rw [e0, if_neg Bool.false_ne_true]
  unfold boundAndCalled
  rw [PySem.F.excAttr_ValueError.ga.bind (.ref x)]
  refine wpAny_bind (wpAny_pure ?_)
  show wpAny _ _ (call (.builtin "BaseException.__getattribute__") [.ref x, .str "__class__" t]) _ _ _
  refine wpAny_call (codeAny_call_builtin PySem.F.excAttr_ValueError.ga.plain PySem.F.entry_bexc_ga ?_)
  refine @check_slot (model pg w) _ _ ⟨hp, g, d, t + 1, os⟩ "BaseException.__getattribute__" "BaseException" "__getattribute__" (.ref x) [.str "__class__" t] [] _ (by decide +kernel) (by decide +kernel) sub (PySem.F.args_bexc_ga (.ref x) (.str "__class__" t)) ?_
  unfold Builtin.«object.__getattribute__»
  refine wpAny_bind (wpAny_of_eq (a := ((Value.ref x : Value), [Value.str "__class__" t])) (by first | rfl | (simp only [slotArgs]; rfl)) (wpAny_bind (wpAny_pure (wpAny_bind (k0.at (wpAny_bind (k3.at ?_)))))))
  show wpAny _ _ (holding [Value.builtin "object.__class__"] (call (.builtin "getset_descriptor.__get__") [.builtin "object.__class__", .ref x, .ref C]) >>= ret) _ _ _
  refine wpAny_bind (wpAny_holding (wpAny_call (class_get (s := ⟨hp, g, d, t + 1, os⟩) (ox := ox) (od := od) X I T.hm ?_)))
  refine wpAny_pure ?_
  show wpAny _ _ (handedOut (.ref C)) _ _ _
  rw [handedOut_of (v := .ref C) rfl]
  first
    | exact wpAny_pure (wpAny_pure q)
    | exact wpAny_pure q
    | exact wpAny_pure (wpAny_bind (wpAny_pure (wpAny_pure q)))
open PySem.W PySem.Calls in
theorem kitxG (T : L2.ExcC K C) : KitX K (.ref x) (.ref C) (fun h => ∃ od, InstAt h x ox C od) where
  ty := fun _ _ _ ⟨_, I⟩ => I.type
  it := fun _ _ X _ => by
    obtain ⟨cdC, hcC, _⟩ := any_some T.hd
    unfold clsIn at hcC
    split at hcC
    · rename_i c' d' cd' sl' ho
      intro A' Q' E' s' k q
      unfold isType loadHead
      exact wpAny_bind (wpAny_loadPart (k _ _ (X _ _ ho)) (wpAny_pure q))
    · cases hcC
  ne := fun h tp dd its n sl X htp => by
    obtain ⟨cdC, hcC, _⟩ := any_some T.hd
    refine Bool.eq_false_iff.mpr fun q => ?_
    have e : C = tp := Value.ref.inj (beq_iff_eq.mp q)
    subst e
    unfold clsIn at hcC
    split at hcC
    · rename_i c' d' cd' sl' ho
      cases (X _ _ ho).symm.trans htp
    · cases hcC
  ca := fun X ⟨_, I⟩ k => kit_classX T X I k
end
/-- isinstance(e, c), e pinned -/
theorem call_isP {X : Cx} {a C : Addr} {oe : Obj} (T : L2.ExcC X.K C) (hp : (a, oe) ∈ X.pn) (hc : oe.cls = .ref C) (hf : ∃ vs, oe.data = .fields vs) (hd : ∀ d, oe.dict = some d → ∃ o, X.s_0.heap.get? d = some o) (hex : X.ex = []) : CallR X (.builtin "isinstance") (rIsE X.K C a) := by
  intro pins s σ H xs us Q I r h
  obtain ⟨c, cv, b, rfl, hcv, e, q⟩ := h
  cases r with
  | cons rx rr =>
    cases rr with
    | cons rt rr =>
      cases rr
      cases rx
      have ec := hcv _ rt
      subst ec
      obtain ⟨hget, _⟩ := I.pin (a, oe) (List.mem_append_left _ hp)
      obtain ⟨vs, hv⟩ := hf
      have J : ∃ od, PySem.W.InstAt s.heap a oe C od := by
        have no : PySem.W.notCls oe = true := by
          unfold PySem.W.notCls
          rw [hv]
        cases z : oe.dict with
        | none => exact ⟨none, hget, hc, no, by rw [z]; trivial⟩
        | some d =>
          obtain ⟨o, ho⟩ := hd d z
          obtain ⟨o', ho'⟩ := I.base.there d o ho (by rw [hex]; simp)
          exact ⟨some o', hget, hc, no, by rw [z]; exact ho'⟩
      exact PySem.W.kia_one (kitxG T) I.kIn J e (fun z => nomatch z) fun tk => ⟨.bl b, H, I.kept (t' := tk) fun _ _ z => z, rfl, q⟩
def isPE (i : Nat) (a : Addr) (b : Bool) : DEnv → Out D := fun ρ => match ρ[i]? with
  | some (some (.opq (.ref a'))) => if a' = a then .ok (.bl b) else .bad
  | _ => .bad
section
variable {X : Cx} {cl : Nat → Addr} {W : WX} {a C : Addr} {oe : Obj}
theorem de_isP {r : Nat} {c : V} {cv : Value} {b : Bool} {x : Str} {e2 : Expr} {p1 p2 pos : Pos} (i : Nat) (T : L2.ExcC X.K C) (hp : (a, oe) ∈ X.pn) (hc : oe.cls = .ref C) (hf : ∃ vs, oe.data = .fields vs) (hd : ∀ d, oe.dict = some d → ∃ o, X.s_0.heap.get? d = some o) (hex : X.ex = []) (hm : X.mg "isinstance" = none)
    (h2 : PE X e2 (tC c)) (hcv : ∀ u, RelV c u → u = cv) (kit : PySem.W.kitOne X.K (.ref C) cv = some b) (hg : Gl X "isinstance" := by rfl) (hN : X.N[i]? = some x := by rfl) (hv : Vis X.env.scope x := by first | exact Or.inl rfl | exact Or.inr (Or.inl rfl) | exact Or.inr (Or.inr rfl))
    (hdb : (x == ("__debug__" : Str)) = false := by decide) (hcd : (x == ("__classdict__" : Str)) = false := by decide)
    (s1 : starEach [Expr.Name x p2, e2] X.env = (false, eval (Expr.Name x p2) X.env) :: starEach [e2] X.env := by rfl) (s2 : starEach [e2] X.env = (false, eval e2 X.env) :: starEach [] X.env := by rfl) (hpl : (backTo pos (starEach [e2] X.env)).any (·.1) = false := by rfl) : DE X cl W (.Call (.Name "isinstance" p1) [.Name x p2, e2] [] pos) r (isPE i a b) :=
  PE.imp (pe_callB (call_isP T hp hc hf hd hex) hg hm boot_isinstance (pa_cons (pe_var hN hv hdb hcd) (pa_cons h2 pa_nil s2) s1) (he := s1) (hpl := hpl)) fun σ H Q ⟨F, ρ, l, s, w⟩ => by
    unfold isPE at w
    cases q : ρ[i]? with
    | none => rw [q] at w; exact w.elim
    | some o =>
      rw [q] at w
      cases o with
      | none => exact w.elim
      | some d =>
        cases d with
        | opq u =>
          cases u with
          | ref a' =>
            have w' : wpE X.K cl r (if a' = a then .ok (.bl b) else .bad) F H Q (fun c dx H' => W c dx σ H') := w
            by_cases e : a' = a
            · rw [if_pos e] at w'
              subst e
              obtain ⟨v, h1, h2⟩ := s.2 i _ q
              exact ⟨v, h1, c, cv, b, by rw [show v = .ref a' from h2], hcv, kit, w'.val (Gr.refl l) Own.bll⟩
            · rw [if_neg e] at w'
              exact w'.elim
          | _ => exact w.elim
        | _ => exact w.elim
end
/-! ### a def that is called while an exception is handled, and looks at it -/
structure FnP (P : Program) (w : World) (K : PySem.W.Frag) (mg : Str → Option Value) (base : Heap) (CX : CXT) (k : Nat) (f : Addr) (fd : FuncData) (ps : List Str) (sp : Addr × Obj → Sp) : Prop where
  len : ∀ p vs H Q E, sp p vs H Q E → vs.length = ps.length
  run : ∀ (A : Around) (outer : List Env) (s : Shared) (H : Hp) (args : Args) (us : List Value) (vs : List V) (Q : VK) (E : XK) (p : Addr × Obj), L2H.RoomH k A → L2H.Hot1 A p → L2H.PinOk outer H s p → Env0 P w K mg base A outer s H → BindsTo s fd args (ps.zip us) → Vals vs us → sp p vs H Q E →
    codeAny (model P w) A (.call (.ref f) args) (CR CX outer P w H s Q E) s
theorem fn_ofP {CX : CXT} {P : Program} {w : World} {K : PySem.W.Frag} {mg : Str → Option Value} {base : Heap} {k : Nat} {f : Addr} {name qual : Str} {params : Arguments} {body : List Stmt} {scope : Scope} {dvs : List V} {kws : List (Str × V)} {fd : FuncData} {N ps : List Str} {sp : Addr × Obj → Sp}
    (F0 : FunD K name qual params body scope dvs kws f fd) (S : FnScope N ps scope) (len : ∀ p vs H Q E, sp p vs H Q E → vs.length = ps.length) (hdd : ∀ p vs H Q E, sp p vs H Q E → ∀ d, p.2.dict = some d → ∃ fs, H d = some (.xd fs))
    (hb : ∀ (cdv : Value) (A : Around) (outer : List Env) (s : Shared) (H : Hp) (vs : List V) (Q : VK) (E : XK) (p : Addr × Obj), L2H.Hot1 A p → (∀ d, p.2.dict = some d → ∃ o, s.heap.get? d = some o) → L2H.RoomH k (A.deeper (envOfC qual scope s.heap.objs.size f cdv)) → sp p vs H Q E →
      ∃ t, PSs (L2H.cxH CX P w K mg base N qual scope f cdv A outer s H E p) body t ∧ t { nx := fun _ H' => Q .non H', rt := Q } (L2.start N vs) H) : FnP P w K mg base CX (k + 1) f fd ps sp := by
  obtain ⟨oc, od, dV, kV, doc, pm, an, cdv, ct, osl, rfl, lk, hcd, _, _⟩ := F0.ex
  refine ⟨len, fun A outer s H args us vs Q E p hr hot hpin e0 bd r hsp => ?_⟩
  have hl := len _ _ _ _ _ hsp
  have KX : K.In s.heap := e0.mod.kin.keeps fun b o e => (e0.bs b o e).1
  have hk : ∀ y ∈ ps.zip us, scope.names.lookup y.1 = some .local ∨ (scope.names.lookup y.1 = some .cell ∧ ((cellsFrom (s.heap.objs.size + 1) scope.names []).lookup y.1).isSome = true) := fun ⟨n, v⟩ m =>
    (S.par n (List.of_mem_zip m).1).elim .inl fun q => .inr ⟨q, PySem.W.cellsFrom_some _ _ _ (.inl q)⟩
  refine codeAny_call_function hr.depth (KX _ _ lk) rfl S.co S.gen rfl (PySem.W.codeRec_of KX hcd) (bd _ _ _ _ (wpAny_newFunctionEnv_cells S.kind hk fun env he s1 x => ?_))
  subst he
  refine ⟨(e0.mod.nolimit.keeps fun b o e => (e0.bs b o e).1).keeps x.toInCall.keep, codeAny_func ?_⟩
  have hdo : ∀ d, p.2.dict = some d → ∃ o, s.heap.get? d = some o := fun d hd => by
    obtain ⟨fs, e⟩ := hdd _ _ _ _ _ hsp d hd
    obtain ⟨mA, ⟨o, es, ep, g, _⟩, _⟩ := e0.hok d _ e
    exact ⟨o, g⟩
  obtain ⟨t, ht, hq⟩ := hb cdv A outer s H vs Q E p hot hdo (hr.deeper _) hsp
  have I : Inv (L2H.cxH CX P w K mg base N qual scope f cdv A outer s H E p) [] (L2.start N vs) H s1 := L2H.inv_startH S hpin e0 hl r x
  refine wpAny_mono (ht.run [] s1 (L2.start N vs) H _ I hq) (fun fl s2 hs => ?_) fun e s2 hs => hs
  have fin : ∀ {σ' : St} {H' : Hp} {v : V} {u : Value}, Inv (L2H.cxH CX P w K mg base N qual scope f cdv A outer s H E p) [] σ' H' s2 → RelV v u → Q v H' → CE outer P w H s Q u s2 := fun {σ' H' v u} J rv q => ⟨v, H', J.os, J.bare, J.base, J.hok, rv, q⟩
  cases fl with
  | ret u =>
    obtain ⟨v, σ2, H2, J, rv, q⟩ := hs
    exact fin J rv q
  | next =>
    obtain ⟨σ2, H2, J, q⟩ := hs
    exact fin (v := V.non) (u := Value.none) J rfl q
  | brk => obtain ⟨_, _, _, q⟩ := hs; exact q.elim
  | cont => obtain ⟨_, _, _, q⟩ := hs; exact q.elim
section
variable {X : Cx} {CX : CXT} {k : Nat} {f : Addr} {fd : FuncData} {ps : List Str} {sp : Addr × Obj → Sp} {E : St → XK} {x : Str} {q pos : Pos} {e : Expr} {es : List Expr} {t : TA} {p : Addr × Obj}
theorem pe_callP (F : FnP X.prog X.w X.K X.mg X.base CX k f fd ps sp) (hr : L2H.RoomH k X.A) (hot : L2H.Hot1 X.A p) (hp : p ∈ X.pn) (hg : Gl X x) (hm : X.mg x = some (.ref f)) (hk : PySem.W.keepIn X.K (.ref f) = true) (hb : Binds X.K fd ps []) (hx : ∀ σ, PassesAt CX X σ (E σ))
    (ha : PA X (e :: es) t) (hdb : (x == ("__debug__" : Str)) = false := by decide) (he : starEach (e :: es) X.env = (false, eval e X.env) :: starEach es X.env := by rfl) (hpl : (backTo pos (starEach es X.env)).any (·.1) = false := by rfl) : PE X (.Call (.Name x q) (e :: es) [] pos) (tCallS (sp p) E t) := by
  refine ⟨fun pins s σ H Q I h => ?_⟩
  refine wpAny_Call_Name_kw (ld_glob I hg hm ?_ hdb)
  refine PySem.W.callWith_K (h₀ := X.base) I.ok.mod.kin hk (thn (ha.run pos pins s σ H _ I h) fun us s1 ⟨vs, H1, I1, r, q⟩ => ⟨I1.kIn, ?_⟩) he hpl
  have hl : us.length = ps.length := by rw [← r.length]; exact F.len _ _ _ _ _ q
  have b := hb s1 us I1.kIn (by rw [List.append_nil]; exact hl)
  rw [List.append_nil] at b
  have P1 := I1.pin p (List.mem_append_left _ hp)
  refine wpAny_call (codeAny_mono (F.run X.A X.stack s1 H1 ⟨us, []⟩ us vs Q (E σ) p hr hot ⟨P1.1, P1.2.1, fun m => (List.mem_cons.mp (I1.stkSub p.1 m)).elim P1.2.2.1 P1.2.2.2.1, P1.2.2.2.2⟩ I1.env0 b r q) fun r s2 hq => ?_)
  cases r with
  | error e => exact hx σ pins H1 s1 e s2 I1 hq
  | ok fl =>
    cases fl with
    | ret u => exact I1.after hq
    | next => exact hq.elim
    | brk => exact hq.elim
    | cont => exact hq.elim
end
end DL

namespace DL
open PySem PySem.Spec PyProof.Rows L2
/-! ### a def of the caught exception, read -/
def spP (K : PySem.W.Frag) (cl : Nat → Addr) (r : Nat) (h : Nat → Addr → Out D) : Addr × Obj → Sp := fun p vs H Q E => ∃ (c : Nat) (F : Hp), vs = [.ref p.1] ∧ p.2.cls = .ref (cl c) ∧ Same F H ∧ (∀ d, p.2.dict = some d → ∃ fs, F d = some (.xd fs)) ∧ wpE K cl r (h c p.1) F H Q E
def fnP (N : Nat) (b : Nat → Addr → DEnv → SOut) : Nat → Addr → Out D := fun c a => match b c a (some (.opq (.ref a)) :: List.replicate (N - 1) none) with
  | .ret d _ => .ok d
  | .next _ => .ok .non
  | .ex x _ => .ex x
  | _ => .bad
section
variable {P : Program} {w : World} {K : PySem.W.Frag} {mg : Str → Option Value} {base : Heap} {cl : Nat → Addr}
theorem ok_ofP {x qual y : Str} {params : Arguments} {body : List Stmt} {scope : Scope} {N : List Str} {dvs : List V} {f : Addr} {fd : FuncData} {k r : Nat} {b : Nat → Addr → DEnv → SOut} {Δ' : List Nat} (F0 : FunD K x qual params body scope dvs [] f fd) (S : FnScope N [y] scope) (hN : 1 ≤ N.length)
    (hb : ∀ (f : Addr) (cdv : Value) (A : Around) (outer : List Env) (s : Shared) (H : Hp) (E : XK) (p : Addr × Obj) (c : Nat), L2H.Hot1 A p → (∀ d, p.2.dict = some d → ∃ o, s.heap.get? d = some o) → L2H.RoomH k (A.deeper (envOfC qual scope s.heap.objs.size f cdv)) → p.2.cls = .ref (cl c) →
      DSs (L2H.cxH (L2N.CX P w) P w K mg base N qual scope f cdv A outer s H E p) cl (fun c d _ H => E c d H) ⟨r, List.replicate N.length 0, []⟩ (List.replicate N.length 0) (List.replicate N.length 0) body Δ' (b c p.1)) :
    FnP P w K mg base (L2N.CX P w) (k + 1) f fd [y] (spP K cl r (fnP N.length b)) := by
  refine fn_ofP F0 S (fun p vs H Q E ⟨c, F, e, _⟩ => by rw [e] <;> rfl) (fun p vs H Q E ⟨c, F, _, _, l, hd, _⟩ d e => (hd d e).imp fun fs q => l d _ q) fun cdv A outer s H vs Q E p hot hdd hr hsp => ?_
  obtain ⟨c, F, ev, ec, l, hd, w⟩ := hsp
  refine ⟨_, hb f cdv A outer s H E p c hot hdd hr ec, ?_⟩
  subst ev
  unfold fnP at w
  refine ⟨Ent.of F H, F, some (.opq (.ref p.1)) :: List.replicate (N.length - 1) none, [], ⟨l, (fun a m => by cases m), List.nodup_nil, ?_, fun a o e _ => e, Same.refl F, fun _ e n => absurd e n, (fun a m => by cases m), (fun p m => by cases m)⟩, wpS_fn trivial w⟩
  have z := srel0 (K := K) (cl := cl) (F := F) (H := H) (ds := [.opq (.ref p.1)]) (vs := [.ref p.1]) (m := N.length - 1) ⟨.ref p.1, [], rfl, rfl, rfl⟩
  rw [show [D.opq (V.ref p.1)].length + (N.length - 1) = N.length by simp only [List.length_singleton]; omega] at z
  exact z
end
/-- such a def -/
structure CalP (P : Program) (w : World) (K : PySem.W.Frag) (mg : Str → Option Value) (base : Heap) (x : Str) (k : Nat) (sp : Addr × Obj → Sp) : Prop where
  ex : ∃ f fd ps, FnP P w K mg base (L2N.CX P w) k f fd ps sp ∧ mg x = some (.ref f) ∧ PySem.W.keepIn K (.ref f) = true ∧ Binds K fd ps []
/-- a text for each class -/
def kinE (kin : Nat → Option Str) (c : Nat) : DEnv → Out D := fun _ => match kin c with
  | some s => .ok (.str s)
  | none => .bad
section
variable {X : Cx} {cl : Nat → Addr} {cf : Cf} {Δc Δt : List Nat} {i j r k : Nat} {h : Nat → Addr → Out D} {kin : Nat → Option Str} {x y z : Str} {p1 p2 p3 pos cpos : Pos}
/-- y = x(e), e what the suite holds -/
theorem su_kin (C : CalP X.prog X.w X.K X.mg X.base x k (spP X.K cl r h)) (hk : ∀ c s a, kin c = some s → h c a = .ok (.str s)) (hr : Room k X.A) (i j : Nat) (hg : Gl X x) (hi : X.N[i]? = some z) (hv : Vis X.env.scope z) (hN : X.N.Nodup) (hj : X.N[j]? = some y) (hln : Loc X.env.scope y) (hpn : cf.pn.contains j = false)
    (hdz : (z == ("__debug__" : Str)) = false := by decide) (hcz : (z == ("__classdict__" : Str)) = false := by decide) (hdb : (x == ("__debug__" : Str)) = false := by decide)
    (st : starEach [Expr.Name z p2] X.env = (false, eval (Expr.Name z p2) X.env) :: starEach [] X.env := by rfl) (hs : ∀ a q, swapsWith (.Call (.Name x p1) [.Name z p2] [] cpos) (some (.Name y p3)) pos.line (X.suite a q).env = pure false := by intro _ _; rfl)
    (hf : ∀ a q, (X.suite a q).fn y = true ∨ (X.suite a q).env.scope.names.lookup y = some .local := by intro _ _; first | exact .inl rfl | exact .inr rfl) :
    SuOk X cl cf Δc Δt (Δt.set j 0) (some i) [.Assign [.Name y p3] (.Call (.Name x p1) [.Name z p2] [] cpos) pos] (fun x => setS j (kinE kin x.c)) := fun a oe cls d pn hz hfl => by
  obtain ⟨f, fd, ps, F0, hm, hkp, hb⟩ := C.ex
  obtain ⟨vs0, hvs⟩ := hfl
  have hot : L2H.Hot1 (X.suite a ((a, oe) :: pn)).A (a, oe) := ⟨rfl, vs0, hvs, hz.2.2 vs0 hvs⟩
  refine PSs.imp (pss_one (ps_set (i := j) (X := X.suite a ((a, oe) :: pn)) hN hj hln (pe_callP F0 ⟨hr.dp, hr.un⟩ hot List.mem_cons_self hg hm hkp hb tk0 (pa_cons (pe_var hi hv hdz hcz) pa_nil st) hdb st) (hs a _) (hf a _))) fun Dn σ H ⟨E, F, ρ, fp, fv, e, s, xr, na, nd, hsl, w⟩ => ?_
  obtain ⟨hσ, hρ⟩ := hsl i rfl
  refine ⟨.ref a, hσ, e.c, H, rfl, ?_, Same.refl H, fun d2 hd2 => ?_, ?_⟩
  · show oe.cls = _
    rw [hz.1]
    exact xr.1
  · have ed : d = some d2 := hz.2.1.symm.trans hd2
    obtain ⟨_, x2⟩ := xr
    cases y : e.f with
    | none =>
      rw [y] at x2
      rw [ed] at x2
      cases x2.1
    | some q =>
      obtain ⟨g, dd⟩ := q
      rw [y] at x2
      obtain ⟨_, p, v, e1, e2, _⟩ := x2
      rw [ed] at e1
      cases e1
      exact ⟨_, e2⟩
  · replace w : wpS X.K cl W0 cf E Δc (Δt.set j 0) (ckN (some i) (setS j (kinE kin e.c) ρ)) Dn := w
    unfold setS kinE at w
    cases y : kin e.c with
    | none => rw [y] at w; exact w.elim
    | some t =>
      rw [y] at w
      rw [hk e.c t a y]
      intro F1 H1 v fv1 g1 o1 _ _
      replace w : wpS X.K cl W0 cf E Δc (Δt.set j 0) (if freeN (some i) (ρ.set j (some (.str t))) = true then .next (ρ.set j (some (.str t))) else .bad) Dn := w
      by_cases c : freeN (some i) (ρ.set j (some (.str t))) = true
      · rw [if_pos c] at w
        have s1 := s.grow (Gr.base (ov_h s.le) g1.h)
        have ev : v = .str t := by
          cases r with
          | zero => exact o1.1
          | succ r => exact o1.1
        subst ev
        obtain ⟨fp', s2⟩ := s1.set (i := j) (n := 0) (d := .str t) (v := .str t) (fv := []) Own.strr List.nodup_nil (fun a m => by cases m) (fun a m => by cases m) (fun a m => by cases m) hpn
        exact w _ fp' _ H1 s2
      · rw [if_neg c] at w
        exact w.elim
end
end DL

namespace DL
open PySem PySem.Spec PyProof.Rows L2
/-! ### zip -/
def zipD (xs ys : List D) : List D := List.zipWith (fun x y => .tup [x, y]) xs ys
def zipF : List D → Out (List D)
  | [.lst xs, .lst ys] => .ok (zipD xs ys)
  | [.tup xs, .tup ys] => .ok (zipD xs ys)
  | _ => .bad
/-- while an exception is handled: the first one no longer than the second -/
def zipY : List D → Out (List D)
  | [.lst xs, .lst ys] => if xs.length ≤ ys.length then .ok (zipD xs ys) else .bad
  | _ => .bad
section
variable {K : PySem.W.Frag} {cl : Nat → Addr} {F H : Hp}
theorem zipD_len {xs ys : List D} : (zipD xs ys).length = min xs.length ys.length := by
  unfold zipD
  rw [List.length_zipWith]
theorem zipD_get {xs ys : List D} {i : Nat} {x y : D} (h1 : xs[i]? = some x) (h2 : ys[i]? = some y) : (zipD xs ys)[i]? = some (.tup [x, y]) := by
  unfold zipD
  rw [List.getElem?_zipWith, h1, h2]
theorem zip_yld {xs ys : List D} {us vs : List V} {i : Nat} (rx : RepL K cl F xs us) (ry : RepL K cl F ys vs) {H H' : Hp} {T : Addr} {x y : V} (hT : H T = none) (e : H' = upd H T (.tup [x, y])) (hx : us[i]? = some x) (hy : vs[i]? = some y) :
    Same H H' ∧ ∀ Fz, Same F Fz → Same Fz H → ∃ d F', (zipD xs ys)[i]? = some d ∧ Gr Fz H F' H' ∧ Rep K cl F' d (.ref T) := by
  subst e
  refine ⟨same_upd hT, fun Fz f1 f2 => ?_⟩
  obtain ⟨dx, h1, r1⟩ := rx.get' hx
  obtain ⟨dy, h2, r2⟩ := ry.get' hy
  exact ⟨_, upd Fz T (.tup [x, y]), zipD_get h1 h2, Gr.new _ f2 hT, rep_newT ⟨x, [y], rfl, r1.mono f1, y, [], rfl, r2.mono f1, rfl⟩ (none_of_le f2 hT)⟩
theorem walks_zip {a b : Addr} {xs ys : List D} {us vs : List V} (ha : F a = some (.lst us)) (hb : F b = some (.lst vs)) (rx : RepL K cl F xs us) (ry : RepL K cl F ys vs) : Walks K cl F (Itz K a b) (zipD xs ys) where
  go := fun H i l hi => by
    rw [zipD_len, rx.length, ry.length] at hi
    exact ⟨us, vs, us[i]'(by omega), vs[i]'(by omega), SqL.of (l _ _ ha), SqL.of (l _ _ hb), List.getElem?_eq_getElem _, List.getElem?_eq_getElem _⟩
  stop := fun H l => ⟨us, vs, SqL.of (l _ _ ha), SqL.of (l _ _ hb), by rw [zipD_len, rx.length, ry.length]; omega⟩
  yld := fun H i x H' l y hi => by
    obtain ⟨T, u, v, rfl, hT, e, h1, h2⟩ := y
    exact zip_yld rx ry hT e (h1 us (SqL.of (l _ _ ha))) (h2 vs (SqL.of (l _ _ hb)))
theorem walks_zipT {a b : Addr} {xs ys : List D} {us vs : List V} (ha : SqT K F a us) (hb : SqT K F b vs) (rx : RepL K cl F xs us) (ry : RepL K cl F ys vs) : Walks K cl F (RZ.ItzT K a b) (zipD xs ys) where
  go := fun H i l hi => by
    rw [zipD_len, rx.length, ry.length] at hi
    exact ⟨us, vs, us[i]'(by omega), vs[i]'(by omega), (Le.of l).sqT ha, (Le.of l).sqT hb, List.getElem?_eq_getElem _, List.getElem?_eq_getElem _⟩
  stop := fun H l => ⟨us, vs, (Le.of l).sqT ha, (Le.of l).sqT hb, by rw [zipD_len, rx.length, ry.length]; omega⟩
  yld := fun H i x H' l y hi => by
    obtain ⟨T, u, v, rfl, hT, e, h1, h2⟩ := y
    exact zip_yld rx ry hT e (h1 us ((Le.of l).sqT ha)) (h2 vs ((Le.of l).sqT hb))
theorem walks_zipY {a b : Addr} {xs ys : List D} {us vs : List V} (ha : F a = some (.lst us)) (hb : F b = some (.lst vs)) (rx : RepL K cl F xs us) (ry : RepL K cl F ys vs) (le : xs.length ≤ ys.length) : Walks K cl F (ItY K a b) (zipD xs ys) where
  go := (walks_zip ha hb rx ry).go
  stop := fun H l => ⟨us, vs, SqL.of (l _ _ ha), SqL.of (l _ _ hb), by rw [zipD_len, rx.length, ry.length] ; rw [rx.length, ry.length] at le; omega⟩
  yld := (walks_zip ha hb rx ry).yld
end
section
variable {X : Cx} {cl : Nat → Addr} {W : WX} {e e2 : Expr} {t : DEnv → Out (List D)} {p pos tpos : Pos} {elts : List Expr} {kk : Nat}
theorem zip_args {K : PySem.W.Frag} {F : Hp} {a b : D} {vs : List V} (h : RepL K cl F [a, b] vs) : ∃ u v, vs = [u, v] ∧ Rep K cl F a u ∧ Rep K cl F b v := by
  obtain ⟨u, t1, e1, q1, v, t2, e2, q2, e3⟩ := h
  rw [show t2 = [] from e3] at e2
  subst e2 e1
  exact ⟨u, v, rfl, q1, q2⟩
theorem di_zip (hg : Gl X "zip") (hm : X.mg "zip" = none) (ha : DA X cl W [e, e2] 0 t) (hs : starEach [e, e2] X.env = (false, eval e X.env) :: starEach [e2] X.env := by rfl) (hpl : (backTo pos (starEach [e2] X.env)).any (·.1) = false := by rfl) :
    DI X cl W (.Tuple elts kk tpos) (.Call (.Name "zip" p) [e, e2] [] pos) (itA zipF t) := PI.imp (RZ.pi_zipA hg hm ha hs hpl) fun σ H R ⟨F, ρ, l, s, w⟩ => ⟨F, ρ, l, s, w.bndA fun ds F1 H1 vs g q w1 => by
  have no : ∀ ds, (∀ xs ys, ds ≠ [.lst xs, .lst ys]) → (∀ xs ys, ds ≠ [.tup xs, .tup ys]) → zipF ds = .bad := fun ds h h' => by
    unfold zipF
    split
    · rename_i xs ys
      exact absurd rfl (h xs ys)
    · rename_i xs ys
      exact absurd rfl (h' xs ys)
    · rfl
  by_cases c : ∃ xs ys, ds = [.lst xs, .lst ys]
  · obtain ⟨xs, ys, rfl⟩ := c
    obtain ⟨u, v, rfl, q1, q2⟩ := zip_args q
    obtain ⟨a, us, rfl, ha, rx⟩ := q1
    obtain ⟨b, vs, rfl, hb, ry⟩ := q2
    exact ⟨a, b, us, vs, rfl, .inl ⟨SqL.of (g.le _ _ ha), SqL.of (g.le _ _ hb), w1 F1 H1 _ (Gr.refl g.le) (walks_zip ha hb rx ry)⟩⟩
  by_cases c' : ∃ xs ys, ds = [.tup xs, .tup ys]
  · obtain ⟨xs, ys, rfl⟩ := c'
    obtain ⟨u, v, rfl, q1, q2⟩ := zip_args q
    obtain ⟨a, us, rfl, ha, rx⟩ := q1
    obtain ⟨b, vs, rfl, hb, ry⟩ := q2
    exact ⟨a, b, us, vs, rfl, .inr ⟨(Le.of g.le).sqT ha, (Le.of g.le).sqT hb, w1 F1 H1 _ (Gr.refl g.le) (walks_zipT ha hb rx ry)⟩⟩
  rw [no ds (fun xs ys e => c ⟨xs, ys, e⟩) fun xs ys e => c' ⟨xs, ys, e⟩] at w1
  exact w1.elim⟩
theorem PIY.imp {tg : Expr} {t t' : TI} (h : PIY X tg e t) (i : ∀ σ H R, t' σ H R → t σ H R) : PIY X tg e t' := ⟨fun pins s σ H R I w => h.run pins s σ H R I (i σ H R w)⟩
theorem di_zipY (hg : Gl X "zip") (hm : X.mg "zip" = none) (ha : DA X cl W [e, e2] 0 t) (hs : starEach [e, e2] X.env = (false, eval e X.env) :: starEach [e2] X.env := by rfl) (hpl : (backTo pos (starEach [e2] X.env)).any (·.1) = false := by rfl) :
    PIY X (.Tuple elts kk tpos) (.Call (.Name "zip" p) [e, e2] [] pos) (tI X.K cl W (itA zipY t)) := PIY.imp (pi_zipY hg hm ha hs hpl) fun σ H R ⟨F, ρ, l, s, w⟩ => ⟨F, ρ, l, s, w.bndA fun ds F1 H1 vs g q w1 => by
  have no : ∀ ds, (∀ xs ys, ds ≠ [.lst xs, .lst ys]) → zipY ds = .bad := fun ds h => by
    unfold zipY
    split
    · rename_i xs ys
      exact absurd rfl (h xs ys)
    · rfl
  by_cases c : ∃ xs ys, ds = [.lst xs, .lst ys]
  · obtain ⟨xs, ys, rfl⟩ := c
    obtain ⟨u, v, rfl, q1, q2⟩ := zip_args q
    obtain ⟨a, us, rfl, ha, rx⟩ := q1
    obtain ⟨b, vs, rfl, hb, ry⟩ := q2
    replace w1 : wpI X.K cl (if xs.length ≤ ys.length then .ok (zipD xs ys) else .bad) F1 H1 R (fun c dx H' => W c dx σ H') := w1
    by_cases le : xs.length ≤ ys.length
    · rw [if_pos le] at w1
      exact ⟨a, b, us, vs, rfl, SqL.of (g.le _ _ ha), SqL.of (g.le _ _ hb), w1 F1 H1 _ (Gr.refl g.le) (walks_zipY ha hb rx ry le)⟩
    · rw [if_neg le] at w1
      exact w1.elim
  · rw [no ds fun xs ys e => c ⟨xs, ys, e⟩] at w1
    exact w1.elim⟩
theorem de_lcY {r : Nat} {elt tge iter : Expr} {ifs : List Expr} {scope : Scope} {own : List (Str × Nat)} {it : DEnv → Out (List D)} {tg : Tg} {h : DEnv → Out D} {tt : DEnv → Out Bool} (hot : L2H.HotC X) (hN : X.N.Nodup) (hi : PIY X tge iter (tI X.K cl W it)) (ok : BlkOk X.N X.env.scope scope own)
    (hg : ∀ (s : Shared) (H : Hp) (C : Addr) (cc : List (Str × Addr)) (fp : List Addr), HotB (X.blk s H scope (compEnvC scope cc C X.env) fp) → PG (X.blk s H scope (compEnvC scope cc C X.env) fp) tge (tgR X.K tg)) (ht : ∀ (s : Shared) (H : Hp) (C : Addr) (cc : List (Str × Addr)) (fp : List Addr), PTs (X.blk s H scope (compEnvC scope cc C X.env) fp) ifs (tB' X.K cl W0 tt))
    (he : ∀ (s : Shared) (H : Hp) (C : Addr) (cc : List (Str × Addr)) (fp : List Addr), DE (X.blk s H scope (compEnvC scope cc C X.env) fp) cl W0 elt r h) (hm : ∀ i ∈ tgIs tg, i ∈ own.map (·.2)) (hs : ∀ x, foldedSetIterable iter X.env x = pure x := by intro _; rfl) :
    DE X cl W (.ListComp elt [⟨tge, iter, ifs, 0⟩] scope pos) (r + 1) (lcE it (own.map (·.2)) tg tt h) := PE.imp (pe_lcY (te := tE X.K cl W0 r h) (g := tgR X.K tg) (tt := tB' X.K cl W0 tt) hot hN hi ok hg ht he hs) (lc_ok hm)
end
end DL

namespace DL
open PySem PySem.Spec PyProof.Rows L2
open PySem.Builtin in
/-- its repr is some text of no more than n signs -/
def RepB (pg : Program) (w : World) (h0 : Heap) (d : Nat) (x : Value) (n : Nat) : Prop := ∀ (b : Nat), b + n ≤ sizeLine → ∀ (A : Around) (E : Value → Shared → Prop) (s : Shared) (Q : Str → Shared → Prop), A.units + d < cLine → (∀ c o, h0.get? c = some o → s.heap.get? c = some o) → (∀ t tk, t.length ≤ n → Q t { s with toks := tk }) → wpAny (model pg w) A (pyReprUnder b x) Q E s
inductive RepBs (pg : Program) (w : World) (h0 : Heap) (d : Nat) : List Value → List Nat → Prop
  | nil : RepBs pg w h0 d [] []
  | cons {x : Value} {n : Nat} {l : List Value} {ns : List Nat} : RepB pg w h0 d x n → RepBs pg w h0 d l ns → RepBs pg w h0 d (x :: l) (n :: ns)
def pileN (ns : List Nat) : Nat := (ns.map fun n => n + 2).sum
theorem pileN_cons (n : Nat) (ns : List Nat) : pileN (n :: ns) = n + 2 + pileN ns := by
  unfold pileN
  rw [List.map_cons, List.sum_cons]
section
variable {pg : Program} {w : World} {h0 : Heap}
theorem repB_is {x : Value} {t : Str} {d n : Nat} (h : ReprIs pg w x t) (hn : t.length ≤ n) : RepB pg w h0 d x n := fun b hb A E s Q _ _ q => h b (by omega) A E s Q fun tk => q t tk hn
theorem foldB {A : Around} {E : Value → Shared → Prop} {d : Nat} (hu : A.units + d < cLine) : ∀ (l : List Value) (ns : List Nat) (acc : Array Str) (n : Nat) (s : Shared) (Q : (Array Str × Nat) → Shared → Prop), RepBs pg w h0 d l ns → n + pileN ns ≤ sizeLine → (∀ c o, h0.get? c = some o → s.heap.get? c = some o) →
    (∀ ts tk, ts.length = l.length → piled ts ≤ pileN ns → Q ⟨acc ++ ts.toArray, n + piled ts⟩ { s with toks := tk }) → wpAny (model pg w) A (forIn l (⟨acc, n⟩ : (Array Str × Nat)) tupBody) Q E s := by
  intro l
  induction l with
  | nil =>
    intro ns acc n s Q hT hn k q
    cases hT
    have z := q [] s.toks rfl (Nat.le_refl _)
    simp only [List.forIn_nil]
    exact wpAny_pure (by simpa [piled] using z)
  | cons x l ih =>
    intro ns acc n s Q hT hn k q
    cases hT with
    | cons hx hl =>
      rename_i n1 ns1
      rw [pileN_cons] at hn
      rw [List.forIn_cons]
      refine wpAny_bind (wpAny_bind (hx (n + 1) (by omega) _ _ _ _ hu k fun t tk ht => wpAny_pure ?_))
      refine ih ns1 (acc.push t) (n + (t.length + 2)) _ Q hl (by omega) k fun ts tk2 h1 h2 => ?_
      have z := q (t :: ts) tk2 (by rw [List.length_cons, List.length_cons, h1]) (by rw [piled_cons, pileN_cons]; omega)
      rw [show n + piled (t :: ts) = n + (t.length + 2) + piled ts by rw [piled_cons]; omega] at z
      simpa using z
theorem restB {A : Around} {E : Value → Shared → Prop} {s : Shared} {a : Addr} {o : Obj} {items : Array Value} {n b d : Nat} {ns : List Nat} {Q : Fin → Shared → Prop} (hu : A.units + d < cLine) (ha : s.heap.get? a = some o) (hd : o.data = .seq items n) (hT : RepBs pg w h0 d items.toList ns) (k : ∀ c o, h0.get? c = some o → s.heap.get? c = some o)
    (q : ∀ (m : Str) (u tk : Tok), m.length ≤ pileN ns + 5 → Q (.done (.ret (.str m u))) { s with toks := tk }) (hz : b + (pileN ns + 5) ≤ sizeLine) : wpAny (model pg w) A (tupleReprRest b (.ref a)) Q E s := by
  unfold tupleReprRest Builtin.Tuple.tupleItemsOf
  refine wpAny_bind (wpAny_bind (wpAny_seqItems ha hd (wpAny_pure ?_)))
  rw [← Array.forIn_toList]
  refine wpAny_bind (foldB hu _ ns _ _ _ _ hT (by omega) k fun ts tk h1 h2 => ?_)
  have hl : ts.length = items.size := by simpa using h1
  have ht := fmt_text ts
  have e : (("(" : Str) ++ Str.join ", " (#[] ++ ts.toArray).toList ++ (if items.size == 1 then ",)" else ")" : String)) = tupleText ts := by
    unfold tupleText
    rw [hl]
    simp
  rw [e]
  refine wpAny_bind (wpAny_mkStr (wpAny_pure ?_) (by omega))
  exact q (tupleText ts) tk (tk + 1) (by omega)
theorem atB {A : Around} {E : Value → Shared → Prop} {s : Shared} {a : Addr} {o : Obj} {items : Array Value} {n b d : Nat} {ns : List Nat} {Q : Fin → Shared → Prop} (hu : A.units + d < cLine) (ha : s.heap.get? a = some o) (hd : o.data = .seq items n) (hT : RepBs pg w h0 d items.toList ns) (k : ∀ c o, h0.get? c = some o → s.heap.get? c = some o)
    (q : ∀ (m : Str) (u tk : Tok), m.length ≤ pileN ns + 5 → Q (.done (.ret (.str m u))) { s with toks := tk }) (hz : b + (pileN ns + 5) ≤ sizeLine) : wpAny (model pg w) A (Builtin.tupleReprAt b ⟨[.ref a], []⟩) Q E s := by
  rw [tuple_repr_tree]
  refine wpAny_bind (fmt_underWay fun u => ?_)
  cases u with
  | true =>
    refine PySem.W.KFB.if_so rfl (wpAny_bind (wpAny_rule (wpAny_bind (wpAny_mkStr (wpAny_pure ?_) (by decide +kernel)))))
    exact q "(...)" _ _ (Nat.le_trans fmt_way (Nat.le_add_left _ _))
  | false => exact PySem.W.KFB.if_not rfl (restB hu ha hd hT k q hz)
/-- tuple.__repr__ of a tuple -/
theorem callB {A : Around} {E : Value → Shared → Prop} {s : Shared} {a : Addr} {o : Obj} {items : Array Value} {n d : Nat} {ns : List Nat} {Q : Value → Shared → Prop} (hu : A.units + 1 + d < cLine) (ha : s.heap.get? a = some o) (hc : o.cls = .type "tuple") (hd : o.data = .seq items n) (hT : RepBs pg w h0 d items.toList ns)
    (k : ∀ c o, h0.get? c = some o → s.heap.get? c = some o) (q : ∀ (m : Str) (u tk : Tok), m.length ≤ pileN ns + 5 → Q (.str m u) { s with toks := tk }) (hz : pileN ns + 5 ≤ sizeLine) : wpAny (model pg w) A (call (.builtin "tuple.__repr__") [.ref a]) Q E s := by
  refine wpAny_call (codeAny_call_builtin_own (Code.quiet_builtin _ (by decide +kernel)) PySem.F.entry_tuple_repr (PySem.F.slot_tuple_repr.check _ _ _ _ _ _ _ _ ⟨o, ha, hc⟩ (PySem.F.args_tuple_repr_1 _) (wpOwn_of_wpAny ?_)))
  refine atB (b := 0) (d := d) ?_ ha hd hT k q (by omega)
  rw [units_under_tuple_repr]
  omega
theorem RepB.tup {a : Addr} {o : Obj} {items : Array Value} {n d : Nat} {ns : List Nat} (ha : h0.get? a = some o) (hc : o.cls = .type "tuple") (hd : o.data = .seq items n) (hT : RepBs pg w h0 d items.toList ns) : RepB pg w h0 (d + 1) (.ref a) (pileN ns + 5) := by
  intro b hb A E s Q hu k q
  refine wpAny_pyReprUnder_ref (by omega) (wpAny_pyReprObjUnder_twin (twin := "tuple.__repr__.under") ⟨o, k _ _ ha, hc⟩ PySem.F.slot_tuple_repr rfl (by omega) ?_)
  refine call_twin_own (PySem.F.quiet_tuple_repr_under _) PySem.F.entry_tuple_repr_under PySem.F.check_tuple_repr_under ⟨o, k _ _ ha, hc⟩ PySem.F.slot_tuple_repr (PySem.F.args_tuple_repr_1 _) (wpOwn_of_wpAny ?_)
  refine atB (d := d) ?_ (k _ _ ha) hd hT k (fun m u tk hm => ⟨⟨m, u, rfl⟩, m, u, rfl, q m tk hm⟩) hb
  have e := PySem.units_under_tuple_repr_under A ⟨[.ref a, rawInt b], []⟩
  rw [e]
  omega
/-- how long at the most -/
def sizB : PyData → Nat
  | .none => 10
  | .bool _ => 10
  | .int _ => 2000
  | .str x => 10 * x.length + 10
  | .tuple ds => sizBs ds + 5
  | _ => 0
where sizBs : List PyData → Nat
  | [] => 0
  | d :: ds => sizB d + 2 + sizBs ds
/-- flat things, tuples of such, tuples of those -/
def okB : Nat → PyData → Bool
  | _, .none => true
  | _, .bool _ => true
  | _, .int i => decide (i.natAbs.log2 < 1920)
  | _, .str x => x.cps.toList.all fun c => decide (c < 16 ^ 8)
  | d + 1, .tuple ds => ds.all (okB d)
  | _, _ => false
theorem RepB.mono {x : Value} {d n m : Nat} (h : RepB pg w h0 d x n) (hn : n ≤ m) : RepB pg w h0 d x m := fun b hb A E s Q hu k q => h b (by omega) A E s Q hu k fun t tk ht => q t tk (by omega)
theorem sizBs_pile : ∀ ds : List PyData, sizB.sizBs ds = pileN (ds.map sizB)
  | [] => rfl
  | d :: ds => by
    rw [List.map_cons, pileN_cons, ← sizBs_pile ds] <;> rfl
theorem len_le_size : ∀ {d : Nat} {pd : PyData}, okB d pd = true → True := fun _ => trivial
theorem repB_reads : ∀ (d : Nat) (pd : PyData) (v : Value) (as : List Addr), okB d pd = true → sizB pd ≤ sizeLine → Reads h0 v pd as → RepB pg w h0 d v (sizB pd)
  | d, .none, _, _, _, hz, .none => repB_is ReprIs.none (by decide +kernel)
  | d, .bool b, _, _, _, hz, .bool _ => repB_is (ReprIs.bool b) (by cases b <;> decide +kernel)
  | d, .int i, _, _, ok, hz, .int _ t => by
    have h : i.natAbs.log2 < 1920 := by cases d <;> exact of_decide_eq_true ok
    have h2 := int_text_length_le (by decide : 0 < 1920) h
    exact repB_is (ReprIs.int t h) (by rw [PySem.ofString_length]; show _ ≤ 2000; omega)
  | d, .str x, _, _, ok, hz, .str _ t => by
    have ok2 : (x.cps.toList.all fun c => decide (c < 16 ^ 8)) = true := by cases d <;> exact ok
    have h1 := StrLaws.reprText_len x fun c m => of_decide_eq_true (List.all_eq_true.mp ok2 c m)
    have hz' : 10 * x.length + 10 ≤ sizeLine := hz
    exact repB_is (ReprIs.str x t (by omega)) (by show _ ≤ 10 * x.length + 10; omega)
  | 0, .tuple ds, _, _, ok, hz, _ => by cases ok
  | d + 1, .tuple ds, _, as, ok, hz, .tuple h1 h2 h3 h4 => by
    have ok' : ds.all (okB d) = true := ok
    have e : sizB (.tuple ds) = pileN (ds.map sizB) + 5 := by
      show sizB.sizBs ds + 5 = _
      rw [sizBs_pile]
    rw [e] at hz ⊢
    have go : ∀ (l : List Value) (es : List PyData) (bs : List Addr), es.all (okB d) = true → pileN (es.map sizB) ≤ sizeLine → ReadsAll h0 l es bs → RepBs pg w h0 d l (es.map sizB) := by
      intro l es
      induction es generalizing l with
      | nil => intro bs _ _ r; cases r; exact .nil
      | cons e es ih =>
        intro bs ok hz r
        cases r with
        | cons r1 r2 =>
          rw [List.all_cons] at ok
          obtain ⟨o1, o2⟩ := Bool.and_eq_true_iff.mp ok
          rw [List.map_cons, pileN_cons] at hz
          exact .cons (repB_reads d e _ _ o1 (by omega) r1) (ih _ _ o2 (by omega) r2)
    exact RepB.tup h1 h2 h3 (go _ _ _ ok' (by omega) h4)
  | 0, .list ds, _, _, ok, hz, _ => by cases ok
  | _ + 1, .list ds, _, _, ok, hz, _ => by cases ok
  | 0, .dict ds, _, _, ok, hz, _ => by cases ok
  | _ + 1, .dict ds, _, _, ok, hz, _ => by cases ok
end
end DL

namespace DL
open PySem PySem.Spec PyProof.Rows L2
section
variable {pg : Program} {w : World} {h0 : Heap}
theorem repBs_reads (d : Nat) : ∀ (es : List PyData) (l : List Value) (bs : List Addr), es.all (okB d) = true → pileN (es.map sizB) ≤ sizeLine → ReadsAll h0 l es bs → RepBs pg w h0 d l (es.map sizB)
  | [], l, bs, _, _, r => by cases r; exact .nil
  | e :: es, l, bs, ok, hz, r => by
    cases r with
    | cons r1 r2 =>
      rw [List.all_cons] at ok
      obtain ⟨o1, o2⟩ := Bool.and_eq_true_iff.mp ok
      rw [List.map_cons, pileN_cons] at hz
      exact .cons (repB_reads d e _ _ o1 (by omega) r1) (repBs_reads d es _ _ o2 (by omega) r2)
end
/-! ### str(tuple): some text -/
def rStrT (K : PySem.W.Frag) : List V → Hp → VK → Prop := fun xs H Q => ∃ x ds, xs = [x] ∧ Dp K H x (.tuple ds) ∧ ds.all (okB 3) = true ∧ sizB (.tuple ds) ≤ 1000000 ∧ ∀ m : Str, m.length ≤ 1000000 → Q (.str m) H
theorem call_strT {X : Cx} (hu : X.A.units + 64 < cLine) : CallR X (.type "str") (rStrT X.K) := by
  intro pins s σ H xs us Q I r h
  obtain ⟨x, ds, rfl, hd, ok, hz, q⟩ := h
  cases r with
  | cons r1 rr =>
    cases rr
    obtain ⟨as, rd⟩ := Dp.reads I _ _ _ hd r1
    cases rd with
    | @tuple a o vs n _ _ e1 e2 e3 e4 =>
      have es : sizB (.tuple ds) = pileN (ds.map sizB) + 5 := by
        show sizB.sizBs ds + 5 = _
        rw [sizBs_pile]
      rw [es] at hz
      have big : 1000000 ≤ sizeLine := by rw [sizeLine_eq]; decide
      refine callType_new PySem.F.called_str (by decide) (PySem.F.typeCall_str_1 _) (PySem.F.newCall_str_1 _) (fun obj => PySem.F.args_object_init_2 obj _) PySem.F.entry_str_new
        (meets_str_new (S := fun A' R s' => A'.units + 50 < cLine ∧ (∀ b o, s.heap.get? b = some o → s'.heap.get? b = some o) ∧ ∀ (m : Str) (u tk : Tok), m.length ≤ 1000000 → R (.ok (.ret (.str m u))) { s' with toks := tk }) fun pg w A' R s' h => ?_) ⟨by show X.A.units + 1 + 50 < cLine; omega, fun _ _ z => z, fun m u tk hm => ⟨typeIs_str _ _ _, ⟨.str m, H, I.kept (t' := tk) fun _ _ z => z, ⟨u, rfl⟩, q m hm⟩⟩⟩
      obtain ⟨u1, k, q1⟩ := h
      refine wpAny_strOf_slot rfl (by show A'.units + 1 + 1 < cLine; omega) ⟨o, k _ _ e1, e2⟩ PySem.F.slot_tuple_str PySem.F.slot_tuple_repr ?_
      exact callB (h0 := s.heap) (d := 3) (by show A'.units + 1 + 1 + 1 + 3 < cLine; omega) (k _ _ e1) e2 e3 (repBs_reads 3 ds _ _ ok (by omega) e4) k (fun m u tk hm => ⟨m, u, rfl, q1 m u tk (by omega)⟩) (by omega)
/-! ### data, as the library has it -/
mutual
def pdOf : D → Option PyData
  | .non => some .none
  | .bl b => some (.bool b)
  | .int i => some (.int i)
  | .str s => some (.str s)
  | .tup ds => (pdL ds).map .tuple
  | .lst ds => (pdL ds).map .list
  | _ => none
def pdL : List D → Option (List PyData)
  | [] => some []
  | d :: ds => match pdOf d, pdL ds with
    | some x, some xs => some (x :: xs)
    | _, _ => none
end
section
variable {K : PySem.W.Frag} {cl : Nat → Addr} {F H : Hp}
mutual
theorem dp_of (l : Same F H) : ∀ (d : D) (v : V) (p : PyData), pdOf d = some p → Rep K cl F d v → Dp K H v p
  | .non, v, p, e, r => by cases e; cases r; exact .non
  | .bl b, v, p, e, r => by cases e; cases r; exact .bl b
  | .int b, v, p, e, r => by cases e; cases r; exact .int b
  | .str b, v, p, e, r => by cases e; cases r; exact .str b
  | .tup ds, v, p, e, r => by
    have e' : (pdL ds).map PyData.tuple = some p := e
    obtain ⟨ps, h1, h2⟩ := Option.map_eq_some_iff.mp e'
    obtain ⟨a, vs, e, q, rl⟩ := r
    subst e h2
    exact .tup ((Le.of l).sqT q) (dp_all l ds vs ps h1 rl)
  | .lst ds, v, p, e, r => by
    have e' : (pdL ds).map PyData.list = some p := e
    obtain ⟨ps, h1, h2⟩ := Option.map_eq_some_iff.mp e'
    obtain ⟨a, vs, e, q, rl⟩ := r
    subst e h2
    exact .lst (SqL.of (l _ _ q)) (dp_all l ds vs ps h1 rl)
  | .dic _, v, p, e, r => by cases e
  | .ins _ _, v, p, e, r => by cases e
  | .opq _, v, p, e, r => by cases e
theorem dp_all (l : Same F H) : ∀ (ds : List D) (vs : List V) (ps : List PyData), pdL ds = some ps → RepL K cl F ds vs → DpAll K H vs ps
  | [], vs, ps, e, r => by cases e; rw [show vs = [] from r]; exact .nil
  | d :: ds, vs, ps, e, r => by
    obtain ⟨v, t, e1, q, rl⟩ := r
    subst e1
    have e' : (match pdOf d, pdL ds with
      | some x, some xs => some (x :: xs)
      | _, _ => none) = some ps := e
    cases h1 : pdOf d with
    | none => rw [h1] at e'; cases e'
    | some x =>
      cases h2 : pdL ds with
      | none => rw [h1, h2] at e'; cases e'
      | some xs =>
        rw [h1, h2] at e'
        cases e'
        exact .cons (dp_of l d v x h1 q) (dp_all l ds t xs h2 rl)
end
/-! ### == of data -/
def deqD (n : Bool) (x y : D) : Out D := match pdOf x, pdOf y with
  | some p, some q => if SeqAt.shaped p = true ∧ SeqAt.shaped q = true then .ok (.bl (if n then !PyData.eqv p q else PyData.eqv p q)) else .bad
  | _, _ => .bad
theorem sp_deq {r : Nat} : OpD K cl (rEqD K) r (deqD false) := fun x y u v F H Q EX l hx hy w => by
  unfold deqD at w
  cases h1 : pdOf x with
  | none => rw [h1] at w; exact w.elim
  | some p =>
    cases h2 : pdOf y with
    | none => rw [h1, h2] at w; exact w.elim
    | some q =>
      rw [h1, h2] at w
      replace w : wpE K cl r (if SeqAt.shaped p = true ∧ SeqAt.shaped q = true then .ok (.bl (PyData.eqv p q)) else .bad) F H Q EX := w
      by_cases c : SeqAt.shaped p = true ∧ SeqAt.shaped q = true
      · rw [if_pos c] at w
        exact ⟨p, q, dp_of l x u p h1 hx, dp_of l y v q h2 hy, c.1, c.2, w.val (Gr.refl l) Own.bll⟩
      · rw [if_neg c] at w
        exact w.elim
theorem sp_dne {r : Nat} : OpD K cl (rNeD K) r (deqD true) := fun x y u v F H Q EX l hx hy w => by
  unfold deqD at w
  cases h1 : pdOf x with
  | none => rw [h1] at w; exact w.elim
  | some p =>
    cases h2 : pdOf y with
    | none => rw [h1, h2] at w; exact w.elim
    | some q =>
      rw [h1, h2] at w
      replace w : wpE K cl r (if SeqAt.shaped p = true ∧ SeqAt.shaped q = true then .ok (.bl (!PyData.eqv p q)) else .bad) F H Q EX := w
      by_cases c : SeqAt.shaped p = true ∧ SeqAt.shaped q = true
      · rw [if_pos c] at w
        exact ⟨p, q, dp_of l x u p h1 hx, dp_of l y v q h2 hy, c.1, c.2, w.val (Gr.refl l) Own.bll⟩
      · rw [if_neg c] at w
        exact w.elim
end
theorem hu64 {k : Nat} {A : Around} (hr : Room k A) : A.units + 64 < cLine := by
  have := hr.un
  omega
theorem hu1 {k : Nat} {A : Around} (hr : Room k A) : A.units + 1 < cLine := by
  have := hr.un
  omega
end DL

namespace DL
open PySem PySem.Spec PyProof.Rows L2
/-! ### a test of which nothing is known: len(str(tuple)) % 3 == 0 -/
def coinOk : Out D → Bool
  | .ok d => (match pdOf d with
    | some (.tuple ds) => ds.all (okB 3) && decide (sizB (.tuple ds) ≤ 1000000)
    | _ => false)
  | _ => false
section
variable {X : Cx} {cl : Nat → Addr} {W : WX} {cf : Cf} {Δc Δ Δ' Δ1 : List Nat} {e : Expr} {f : DEnv → Out D} {body rest : List Stmt} {g h : DEnv → SOut}
theorem pt_coin {p1 p2 p3 p4 p5 p6 p7 p8 : Pos} {j1 j2 : Nat} (hu : X.A.units + 64 < cLine) (hl : X.mg "len" = none) (hs : X.mg "str" = none) (he : DE X cl W e 0 f) (g1 : Gl X "len" := by rfl) (g2 : Gl X "str" := by rfl)
    (s1 : starEach [e] X.env = (false, eval e X.env) :: starEach [] X.env := by rfl) (s2 : starEach [Expr.Call (.Name "str" p1) [e] [] p2] X.env = (false, eval (Expr.Call (.Name "str" p1) [e] [] p2) X.env) :: starEach [] X.env := by rfl) :
    PT X (.Compare (.BinOp (.Call (.Name "len" p3) [.Call (.Name "str" p1) [e] [] p2] [] p4) .Mod (.Constant (.int 3) j1 p5) p6) [.Eq] [.Constant (.int 0) j2 p7] p8) (fun σ H Q => ∃ F ρ, Same F H ∧ RepS X.K cl F ρ σ ∧ coinOk (f ρ) = true ∧ ∀ b F' H', Gr F H F' H' → Q b H') :=
  PT.imp (pt_cmpR op_eq (pe_op op_mod (pe_callB call_len g1 hl boot_len (pa_cons (pe_callTy (call_strT hu) g2 hs boot_str (pa_cons he pa_nil s1) (he := s1)) pa_nil s2) (he := s2)) pe_int) pe_int rfl) fun σ H Q ⟨F, ρ, l, s, ok, q⟩ => by
    refine ⟨F, ρ, l, s, ?_⟩
    cases y : f ρ with
    | ex x => rw [y] at ok; cases ok
    | bad => rw [y] at ok; cases ok
    | ok d =>
      rw [y] at ok
      intro F1 H1 v fv g1 o1 _ _
      have ok' : (match pdOf d with
        | some (.tuple ds) => ds.all (okB 3) && decide (sizB (.tuple ds) ≤ 1000000)
        | _ => false) = true := ok
      cases z : pdOf d with
      | none => rw [z] at ok'; cases ok'
      | some p =>
        rw [z] at ok'
        cases p with
        | tuple ds =>
          obtain ⟨k1, k2⟩ := Bool.and_eq_true_iff.mp ok'
          refine ⟨v, ds, rfl, dp_of g1.le d v _ z o1.1, k1, of_decide_eq_true k2, fun m hm => ?_⟩
          have big : 1000000 ≤ sizeLine := by rw [sizeLine_eq]; decide
          refine ⟨.str m, m.length, rfl, ⟨by omega, rfl⟩, _, _, rfl, rfl, (by show (0 : Int) < 3; decide), rfl, _, rfl, q _ F1 H1 g1⟩
        | _ => cases ok'
open Classical in
/-- both ways come to the same -/
noncomputable def agreeS (pre : DEnv → Bool) (g h : DEnv → SOut) : DEnv → SOut := fun ρ => if pre ρ = true ∧ g ρ = h ρ then h ρ else .bad
theorem ds_coin {c : Expr} {pos : Pos} {rest' : List Stmt} (hc : PT X c (fun σ H Q => ∃ F ρ, Same F H ∧ RepS X.K cl F ρ σ ∧ coinOk (f ρ) = true ∧ ∀ b F' H', Gr F H F' H' → Q b H')) (ha : DSs X cl W cf Δc Δ body Δ g) (hr : DSs X cl W cf Δc Δ rest Δ' h) :
    DSs X cl W cf Δc Δ (.If c body [] pos :: rest) Δ' (agreeS (fun ρ => coinOk (f ρ)) (seqS g h) h) := PSs.imp (pss_cons (ps_if hc ha (ds_nil (Δ := Δ) (Δc := Δc) (cf := cf) (cl := cl) (W := W))) hr) fun Dn σ H ⟨E, F, ρ, fp, s, w⟩ => by
  unfold agreeS at w
  by_cases k : coinOk (f ρ) = true ∧ seqS g h ρ = h ρ
  · rw [if_pos k] at w
    refine ⟨_, ρ, ov_h s.le, s.view, k.1, fun b F1 H1 g1 => ?_⟩
    have s1 := s.grow g1
    cases b with
    | false => exact ⟨E, _, ρ, fp, s1, fun F2 fp2 σ2 H2 s2 => ⟨E, F2, ρ, fp2, s2, w⟩⟩
    | true =>
      have e := k.2
      refine ⟨E, _, ρ, fp, s1, ?_⟩
      unfold seqS at e
      cases y : g ρ with
      | next ρ1 =>
        rw [y] at e
        exact fun F2 fp2 σ2 H2 s2 => ⟨E, F2, ρ1, fp2, s2, by rw [show h ρ1 = h ρ from e]; exact w⟩
      | ret d ρ1 => rw [y] at e; rw [← e] at w; exact w
      | brk ρ1 => rw [y] at e; rw [← e] at w; exact w
      | cont ρ1 => rw [y] at e; rw [← e] at w; exact w
      | ex x ρ1 => rw [y] at e; rw [← e] at w; exact w
      | bad => rw [y] at e; rw [← e] at w; exact w.elim
  · rw [if_neg k] at w
    exact w.elim
end
end DL

namespace DL
open PySem PySem.Spec PyProof.Rows L2
/-! ### a def that calls itself: nothing is promised of the last call -/
theorem FnOk.false {P : Program} {w : World} {K : PySem.W.Frag} {mg : Str → Option Value} {base : Heap} {CX : CXT} {f : Addr} {fd : FuncData} {ps : List Str} {sp : Sp} (h : ∀ vs H Q E, ¬ sp vs H Q E) : FnOk P w K mg base CX 1 f fd ps sp :=
  ⟨fun vs H Q E z => absurd z (h vs H Q E), fun A outer s H args us vs Q E _ _ _ _ z => absurd z (h vs H Q E)⟩
theorem cal_none {P : Program} {w : World} {K : PySem.W.Frag} {mg : Str → Option Value} {base : Heap} {cl : Nat → Addr} {x : Str} {params : Arguments} {body : List Stmt} {scope : Scope} {ps : List Str} {r : Nat} (D0 : Def0 K mg x params body scope [])
    (hbind : ∀ (kV doc pm : Value) (an : Option Addr) (cdv ct : Value) (us : List Value), us.length = ps.length → bindArgs (PySem.W.fnOf x x params body scope .none kV doc pm an cdv ct) ⟨us, []⟩ = pure (ps.zip us)) : Cal P w K mg base x 1 (spD K cl r fun _ => .bad) := by
  obtain ⟨f, fd, F, hm⟩ := D0.ex
  exact ⟨f, fd, ps, FnOk.false (fun vs H Q E ⟨_, _, _, _, z⟩ => z), hm, F.kp, F.bindsN hbind⟩
theorem cal_mono {P : Program} {w : World} {K : PySem.W.Frag} {mg : Str → Option Value} {base : Heap} {x : Str} {j k : Nat} {sp : Sp} (C : Cal P w K mg base x j sp) (h : j ≤ k) : Cal P w K mg base x k sp := by
  obtain ⟨f, fd, ps, F, hm, hk, hb⟩ := C.ex
  exact ⟨f, fd, ps, F.mono h, hm, hk, hb⟩
/-! ### len(o), o of a class with its own __len__ -/
section
variable {X : Cx} {C f : Addr} {fd : FuncData} {ps : List Str} {sp : Sp} {j : Nat}
theorem call_lenO (hf : Meth X.K C "__len__" f) (F : FnOk X.prog X.w X.K X.mg X.base (L2N.CX X.prog X.w) j f fd ps sp) (hr : Room (j + 1) X.A) (hb : Binds X.K fd ps []) : CallR X (.builtin "len") (fun xs H Q => ∃ a dx fs, xs = [.ref a] ∧ H a = some (.ins C dx fs) ∧ sp [.ref a] H (fun v H' => ∃ n : Int, v = .int n ∧ 0 ≤ n ∧ n < 2 ^ 63 ∧ Q (.int n) H') (fun _ _ _ => False)) := by
  intro pins s σ H xs us Q I r h
  obtain ⟨a, dx, fs, rfl, ha, hsp⟩ := h
  obtain ⟨u, rfl, ru⟩ := vals1 r
  obtain rfl : u = Value.ref a := ru
  obtain ⟨mA, O, _, _, _, _⟩ := ins_get I.hok ha
  obtain ⟨od, J, _⟩ := O.look
  have ty : PySem.W.typeIn X.K (.ref f) = some (.type "function") := by
    have := hf.fn
    unfold PySem.W.isFn at this
    simpa using this
  refine Calls.call_function_entry kind_len plain_len entry_len (args_len1 _) ?_
  unfold Builtin.«len»
  refine wpAny_bind (m := oneArg "len" _) (wpAny_pure ?_)
  refine wpAny_bind (m := callSpecial? (.ref a) (PySem.Str.ofString "__len__")) ?_
  unfold callSpecial? specialOf
  refine wpAny_bind (wpAny_bind (J.type.here ((PySem.W.looks_findIn I.kIn hf.at_).here ?_)))
  refine wpAny_holding (wpAny_bind ((PySem.W.bind_fn I.kIn _ ty).here (wpAny_bind ?_)))
  have hl : [Value.ref a].length = ps.length := (F.len _ _ _ _ hsp)
  have b := hb s [.ref a] I.kIn (by rw [List.append_nil]; exact hl)
  rw [List.append_nil] at b
  refine wpAny_call (codeAny_mono (F.run X.A.in1 X.stack s H ⟨[.ref a], []⟩ [.ref a] [.ref a] _ _ hr.in1 I.env0.in1 b (.cons rfl .nil) hsp) fun r s2 hq => ?_)
  cases r with
  | error e =>
    obtain ⟨_, _, _, _, _, _, _, _, _, _, _, _, z⟩ := hq
    exact z.elim
  | ok fl =>
    cases fl with
    | next => exact hq.elim
    | brk => exact hq.elim
    | cont => exact hq.elim
    | ret u =>
      obtain ⟨v, H2, I2, rv, n, rfl, h0, h1, q⟩ := I.after hq
      obtain ⟨t, rfl⟩ := rv
      refine wpAny_pure ?_
      refine wpAny_bind (wpAny_holding (wpAny_pure ?_))
      refine wpAny_bind (wpAny_letGo ?_)
      show wpAny _ _ (if n < 0 then _ else _) _ _ _
      rw [if_neg (by omega)]
      show wpAny _ _ (if n ≥ 2 ^ 63 then _ else _) _ _ _
      rw [if_neg (by omega)]
      exact wpAny_bind (wpAny_mkInt (wpAny_pure ⟨_, rfl, .int n, H2, I2.tok _, ⟨_, rfl⟩, q⟩))
end
/-- len of an instance of class c, by its method's reading -/
def lenO (c : Nat) (h : List D → Out D) : List D → Out D
  | [.ins c' fs] => if c' = c then (match h [.ins c' fs] with
    | .ok (.int n) => if 0 ≤ n ∧ n < 2 ^ 63 then .ok (.int n) else .bad
    | _ => .bad) else .bad
  | _ => .bad
theorem de_lenO {X : Cx} {cl : Nat → Addr} {W : WX} {e : Expr} {t : DEnv → Out D} {h : List D → Out D} {r c j : Nat} {p pos : Pos} (C : CalM X.prog X.w X.K X.mg X.base (cl c) "__len__" j (spD X.K cl 0 h)) (hr : Room (j + 1) X.A) (hm : X.mg "len" = none) (ha : DE X cl W e 0 t) (hg : Gl X "len" := by rfl)
    (s1 : starEach [e] X.env = (false, eval e X.env) :: starEach [] X.env := by rfl) : DE X cl W (.Call (.Name "len" p) [e] [] pos) r (callE (lenO c h) (consA t nilA)) := by
  obtain ⟨f, fd, ps, F0, hf, hb⟩ := C.ex
  refine PE.imp (pe_callB (call_lenO hf F0 hr hb) hg hm boot_len (pa_cons ha.zero pa_nil s1) (he := s1)) fun σ H Q ⟨F, ρ, l, s, w⟩ => ?_
  refine ⟨F, ρ, l, s, ?_⟩
  unfold callE consA nilA at w
  cases y : t ρ with
  | ex x => rw [y] at w; exact w
  | bad => rw [y] at w; exact w
  | ok d =>
    rw [y] at w
    refine wpE.ok0 (cl := cl) (K := X.K) (EX := fun c dx H' => W c dx σ H') (Q := fun x H1 => ∃ a dx fs, [x] = [V.ref a] ∧ H1 a = some (.ins (cl c) dx fs) ∧ spD X.K cl 0 h [.ref a] H1 (fun v H' => ∃ n : Int, v = .int n ∧ 0 ≤ n ∧ n < 2 ^ 63 ∧ Q (.int n) H') (fun _ _ _ => False)) fun F1 H1 v g q => ?_
    have w1 : wpE X.K cl r (lenO c h [d]) F1 H1 Q (fun c dx H' => W c dx σ H') := wpE.grow g w
    cases d with
    | ins c' fs =>
      replace w1 : wpE X.K cl r (if c' = c then (match h [.ins c' fs] with
        | .ok (.int n) => if 0 ≤ n ∧ n < 2 ^ 63 then .ok (.int n) else .bad
        | _ => .bad) else .bad) F1 H1 Q (fun c dx H' => W c dx σ H') := w1
      by_cases e1 : c' = c
      · rw [if_pos e1] at w1
        subst e1
        have q0 := q
        obtain ⟨a, dx, vs, ev, ha, _, _⟩ := q
        subst ev
        refine ⟨a, dx, vs, rfl, g.le _ _ ha, F1, [.ins c' fs], g.le, ⟨.ref a, [], rfl, q0, rfl⟩, ?_⟩
        cases z : h [.ins c' fs] with
        | ex x => rw [z] at w1; exact w1.elim
        | bad => rw [z] at w1; exact w1.elim
        | ok d2 =>
          rw [z] at w1
          cases d2 with
          | int n =>
            replace w1 : wpE X.K cl r (if 0 ≤ n ∧ n < 2 ^ 63 then .ok (.int n) else .bad) F1 H1 Q (fun c dx H' => W c dx σ H') := w1
            by_cases b : 0 ≤ n ∧ n < 2 ^ 63
            · rw [if_pos b] at w1
              refine wpE.ok0 fun F2 H2 v2 g2 q2 => ⟨n, q2, b.1, b.2, ?_⟩
              exact (wpE.grow g2 w1).val (Gr.refl g2.le) Own.intt
            · rw [if_neg b] at w1; exact w1.elim
          | _ => exact w1.elim
      · rw [if_neg e1] at w1; exact w1.elim
    | _ => exact w1.elim
end DL

namespace DL
open PySem PySem.Spec PyProof.Rows L2
/-! ### for k in d: the dict is locked meanwhile -/
/-- what Rep leans on -/
structure LeR (K : PySem.W.Frag) (F F' : Hp) : Prop where
  tup : ∀ a xs, SqT K F a xs → SqT K F' a xs
  dk : ∀ a kvs, Rd F a (.dK kvs) → Rd F' a (.dK kvs)
  lst : ∀ a xs, F a = some (.lst xs) → F' a = some (.lst xs)
  ins : ∀ a C dx fs, F a = some (.ins C dx fs) → F' a = some (.ins C dx fs)
  own : ∀ a x, F a = some (.own x) → F' a = some (.own x)
section
variable {K : PySem.W.Frag} {cl : Nat → Addr} {F F' : Hp}
theorem LeR.of (h : Same F F') : LeR K F F' := ⟨fun a xs q => (Le.of h).sqT q, fun a u q => (Le.of h).rd a _ q, fun a xs q => h _ _ q, fun a C dx fs q => h _ _ q, fun a x q => h _ _ q⟩
mutual
theorem Rep.leR (h : LeR K F F') : ∀ (d : D) (v : V), Rep K cl F d v → Rep K cl F' d v
  | .non, v, r => r
  | .bl b, v, r => r
  | .int i, v, r => r
  | .str s, v, r => r
  | .opq s, v, r => r
  | .tup ds, v, ⟨a, vs, e, q, l⟩ => ⟨a, vs, e, h.tup _ _ q, RepL.leR h ds vs l⟩
  | .lst ds, v, ⟨a, vs, e, q, l⟩ => ⟨a, vs, e, h.lst _ _ q, RepL.leR h ds vs l⟩
  | .dic ds, v, ⟨a, vs, e, q, l⟩ => ⟨a, vs, e, h.dk _ _ q, RepK.leR h ds vs l⟩
  | .ins c ds, v, ⟨a, dx, vs, e, q, q2, l⟩ => ⟨a, dx, vs, e, h.ins _ _ _ _ q, h.own _ _ q2, RepF.leR h ds vs l⟩
theorem RepL.leR (h : LeR K F F') : ∀ (ds : List D) (vs : List V), RepL K cl F ds vs → RepL K cl F' ds vs
  | [], vs, r => r
  | d :: ds, vs, ⟨v, t, e, q, l⟩ => ⟨v, t, e, Rep.leR h d v q, RepL.leR h ds t l⟩
theorem RepK.leR (h : LeR K F F') : ∀ (ds : List (Key × D)) (vs : List (Key × V)), RepK K cl F ds vs → RepK K cl F' ds vs
  | [], vs, r => r
  | (k, d) :: ds, vs, ⟨v, t, e, q, l⟩ => ⟨v, t, e, Rep.leR h d v q, RepK.leR h ds t l⟩
theorem RepF.leR (h : LeR K F F') : ∀ (ds : List (Str × D)) (vs : List (Str × V)), RepF K cl F ds vs → RepF K cl F' ds vs
  | [], vs, r => r
  | (k, d) :: ds, vs, ⟨v, t, e, q, l⟩ => ⟨v, t, e, Rep.leR h d v q, RepF.leR h ds t l⟩
end
theorem Own.leR (h : LeR K F F') : ∀ {n : Nat} {H H' : Hp} {d : D} {v : V} {fp : List Addr}, (∀ a ∈ fp, H' a = H a) → Own K cl n F H d v fp → Own K cl n F' H' d v fp
  | 0, H, H', d, v, fp, k, r => ⟨Rep.leR h d v r.1, r.2⟩
  | n + 1, H, H', d, v, fp, k, r => by
    cases d with
    | lst ds =>
      obtain ⟨a, vs, fq, e1, e2, e3, l⟩ := r
      subst e3
      exact ⟨a, vs, fq, e1, by rw [k a List.mem_cons_self]; exact e2, rfl, LRel.impm (fun d v g m o => Own.leR h (fun b q => k b (List.mem_cons_of_mem _ (m b q))) o) l⟩
    | dic ds =>
      obtain ⟨a, vs, fq, e1, e2, e3, l⟩ := r
      subst e3
      exact ⟨a, vs, fq, e1, by rw [k a List.mem_cons_self]; exact e2, rfl, KRel.impm (fun d v g m o => Own.leR h (fun b q => k b (List.mem_cons_of_mem _ (m b q))) o) l⟩
    | ins c ds =>
      obtain ⟨a, dx, vs, fq, e1, e2, e4, e3, l⟩ := r
      subst e3
      exact ⟨a, dx, vs, fq, e1, by rw [k a List.mem_cons_self]; exact e2, by rw [k dx (List.mem_cons_of_mem _ List.mem_cons_self)]; exact e4, rfl, KRel.impm (fun d v g m o => Own.leR h (fun b q => k b (List.mem_cons_of_mem _ (List.mem_cons_of_mem _ (m b q)))) o) l⟩
    | tup ds =>
      obtain ⟨a, vs, e1, e2, l⟩ := r
      exact ⟨a, vs, e1, h.tup _ _ e2, LRel.impm (fun d v g m o => Own.leR h (fun b q => k b (m b q)) o) l⟩
    | non => exact ⟨Rep.leR h _ v r.1, r.2⟩
    | bl b => exact ⟨Rep.leR h _ v r.1, r.2⟩
    | int i => exact ⟨Rep.leR h _ v r.1, r.2⟩
    | str s => exact ⟨Rep.leR h _ v r.1, r.2⟩
    | opq u => exact ⟨Rep.leR h _ v r.1, r.2⟩
theorem RepS.leR (h : LeR K F F') {ρ : DEnv} {σ : St} (r : RepS K cl F ρ σ) : RepS K cl F' ρ σ := ⟨r.1, fun i d e => by
  obtain ⟨v, h1, h2⟩ := r.2 i d e
  exact ⟨v, h1, Rep.leR h d v h2⟩⟩
end
def lk (a : Addr) (o : Obj) (kvs : List (Key × V)) (F : Hp) : Hp := fun x => if x = a then (match F a with
  | none => none
  | some _ => some (.frz o (.dK kvs))) else F x
section
variable {K : PySem.W.Frag} {cl : Nat → Addr} {a : Addr} {o : Obj} {kvs : List (Key × V)} {F H : Hp}
theorem lk_ne {x : Addr} (h : x ≠ a) : lk a o kvs F x = F x := if_neg h
theorem lk_at (h : F a ≠ none) : lk a o kvs F a = some (.frz o (.dK kvs)) := by
  unfold lk
  rw [if_pos rfl]
  cases q : F a with
  | none => exact absurd q h
  | some u => rfl
theorem lk_none {x : Addr} : lk a o kvs F x = none ↔ F x = none := by
  by_cases h : x = a
  · subst h
    unfold lk
    rw [if_pos rfl]
    cases q : F x with
    | none => exact Iff.rfl
    | some u => exact ⟨(fun z => nomatch z), (fun z => nomatch z)⟩
  · rw [lk_ne h]
theorem lk_upd (h : F a ≠ none) : lk a o kvs F = upd F a (.frz o (.dK kvs)) := by
  funext x
  by_cases e : x = a
  · subst e
    rw [lk_at h, upd_same]
  · rw [lk_ne e, upd_ne e]
theorem lk_same (l : Same F H) : Same (lk a o kvs F) (lk a o kvs H) := fun x u e => by
  by_cases q : x = a
  · subst q
    have n : F x ≠ none := fun z => by rw [lk_none.mpr z] at e; cases e
    rw [lk_at n] at e
    rw [lk_at (by
      cases y : F x with
      | none => exact absurd y n
      | some w => rw [l x w y]; exact fun z => nomatch z)]
    exact e
  · rw [lk_ne q] at e ⊢
    exact l x u e
theorem leR_lk (h : F a = some (.dK kvs)) : LeR K F (lk a o kvs F) := by
  have ne : ∀ {b u}, F b = some u → u ≠ .dK kvs → b ≠ a := fun e n z => by rw [z, h] at e; exact n (Option.some.inj e).symm
  refine ⟨fun b xs q => ?_, fun b ks q => ?_, fun b xs q => ?_, fun b C dx fs q => ?_, fun b x q => ?_⟩
  · rcases q with (q | ⟨ob, q⟩) | q
    · exact .inl (.inl (by rw [lk_ne (ne q (fun z => nomatch z))]; exact q))
    · exact .inl (.inr ⟨ob, by rw [lk_ne (ne q (fun z => nomatch z))]; exact q⟩)
    · exact .inr q
  · by_cases e : b = a
    · subst e
      rcases q with q | ⟨ob, q⟩
      · rw [h] at q
        cases q
        exact .inr ⟨o, lk_at (by rw [h]; exact fun z => nomatch z)⟩
      · rw [h] at q; cases q
    · rcases q with q | ⟨ob, q⟩
      · exact .inl (by rw [lk_ne e]; exact q)
      · exact .inr ⟨ob, by rw [lk_ne e]; exact q⟩
  · rw [lk_ne (ne q (fun z => nomatch z))]; exact q
  · rw [lk_ne (ne q (fun z => nomatch z))]; exact q
  · rw [lk_ne (ne q (fun z => nomatch z))]; exact q
theorem leR_un (h : F a = some (.frz o (.dK kvs))) : LeR K F (upd F a (.dK kvs)) := by
  have ne : ∀ {b u}, F b = some u → u ≠ .frz o (.dK kvs) → b ≠ a := fun e n z => by rw [z, h] at e; exact n (Option.some.inj e).symm
  refine ⟨fun b xs q => ?_, fun b ks q => ?_, fun b xs q => ?_, fun b C dx fs q => ?_, fun b x q => ?_⟩
  · rcases q with (q | ⟨ob, q⟩) | q
    · exact .inl (.inl (by rw [upd_ne (ne q (fun z => nomatch z))]; exact q))
    · exact .inl (.inr ⟨ob, by rw [upd_ne (ne q (fun z => nomatch z))]; exact q⟩)
    · exact .inr q
  · by_cases e : b = a
    · subst e
      rcases q with q | ⟨ob, q⟩
      · rw [h] at q; cases q
      · rw [h] at q
        cases q
        exact .inl upd_same
    · rcases q with q | ⟨ob, q⟩
      · exact .inl (by rw [upd_ne e]; exact q)
      · exact .inr ⟨ob, by rw [upd_ne e]; exact q⟩
  · rw [upd_ne (ne q (fun z => nomatch z))]; exact q
  · rw [upd_ne (ne q (fun z => nomatch z))]; exact q
  · rw [upd_ne (ne q (fun z => nomatch z))]; exact q
end
section
variable {K : PySem.W.Frag} {cl : Nat → Addr} {pn : List Nat} {E : Ent pn} {Δ Δ' : List Nat} {F H F2 H2 : Hp} {ρ ρ' : DEnv} {σ σ' : St} {fp fp' : List Addr} {a : Addr} {o : Obj} {kvs : List (Key × V)}
def lkE (a : Addr) (o : Obj) (kvs : List (Key × V)) (E : Ent pn) (F : Hp) : Ent pn := ⟨lk a o kvs F, lk a o kvs E.H0, E.fp0, E.pin, E.hpin⟩
theorem StOk.lock (s : StOk K cl E Δ F H ρ σ fp) (h : F a = some (.dK kvs)) : StOk K cl (lkE a o kvs E F) Δ (lk a o kvs F) (lk a o kvs H) ρ σ fp := by
  have na : a ∉ fp := fun m => by rw [s.sep a m] at h; cases h
  have nf : ∀ x ∈ fp, x ≠ a := fun x m e => na (e ▸ m)
  refine ⟨lk_same s.le, fun x m => lk_none.mpr (s.sep x m), s.nd, SRel.impm (fun n d v f m r => Own.leR (leR_lk h) (fun x q => lk_ne (nf x (m x q))) r) s.sl, fun x u e hx => ?_, Same.refl _, fun x e n => absurd e n, fun x m => ?_, s.pn⟩
  · have e' : lk a o kvs E.H0 x = some u := e
    by_cases q : x = a
    · subst q
      have n : E.H0 x ≠ none := fun z => by rw [lk_none.mpr z] at e'; cases e'
      rw [lk_at n] at e'
      rw [lk_at (by rw [s.le x _ h]; exact fun z => nomatch z)]
      exact e'
    · rw [lk_ne q] at e' ⊢
      exact s.keep x u e' hx
  · exact (s.nwO x m).imp (fun z => lk_none.mpr z) id
theorem StOk.unlock (s : StOk K cl E Δ F H ρ σ fp) (h : F a = some (.dK kvs)) (t : StOk K cl (lkE a o kvs E F) Δ' F2 H2 ρ' σ' fp') : StOk K cl E Δ' (upd F2 a (.dK kvs)) (upd H2 a (.dK kvs)) ρ' σ' fp' ∧ H2 a = some (.frz o (.dK kvs)) := by
  have fa : F2 a = some (.frz o (.dK kvs)) := t.f0 a _ (lk_at (by rw [h]; exact fun z => nomatch z))
  have ha : H2 a = some (.frz o (.dK kvs)) := t.le a _ fa
  have na : a ∉ fp' := fun m => by rw [t.sep a m] at fa; cases fa
  have nf : ∀ x ∈ fp', x ≠ a := fun x m e => na (e ▸ m)
  refine ⟨⟨fun x u e => ?_, fun x m => ?_, t.nd, SRel.impm (fun n d v f m r => Own.leR (leR_un fa) (fun x q => upd_ne (nf x (m x q))) r) t.sl, fun x u e hx => ?_, fun x u e => ?_, fun x e n => ?_, fun x m => ?_, t.pn⟩, ha⟩
  · by_cases q : x = a
    · subst q
      rw [upd_same] at e ⊢
      exact e
    · rw [upd_ne q] at e ⊢
      exact t.le x u e
  · rw [upd_ne (nf x m)]
    exact t.sep x m
  · by_cases q : x = a
    · subst q
      have z := s.keep x u e hx
      rw [s.le x _ h] at z
      rw [upd_same]
      exact z
    · rw [upd_ne q]
      exact t.keep x u (by show lk a o kvs E.H0 x = _; rw [lk_ne q]; exact e) hx
  · have z := s.f0 x u e
    by_cases q : x = a
    · subst q
      rw [h] at z
      rw [upd_same]
      exact z
    · rw [upd_ne q]
      exact t.f0 x u (by show lk a o kvs F x = _; rw [lk_ne q]; exact z)
  · by_cases q : x = a
    · subst q
      exact s.nwF x e (by rw [h]; exact fun z => nomatch z)
    · rw [upd_ne q] at n
      cases y : F x with
      | some u => exact s.nwF x e (by rw [y]; exact fun z => nomatch z)
      | none =>
        refine (t.nwF x (by show lk a o kvs F x = _; rw [lk_ne q]; exact y) n).imp (fun z => ?_) id
        exact lk_none.mp (show lk a o kvs E.H0 x = none from z)
  · exact (t.nwO x m).imp (fun z => lk_none.mp (show lk a o kvs E.H0 x = none from z)) id
end
/-! ### what is told at once -/
/-- e reads what stands there, no more -/
structure DV (X : Cx) (cl : Nat → Addr) (e : Expr) (f : DEnv → Out D) : Prop where
  ex : ∃ te, PE X e te ∧ ∀ (σ : St) (F : Hp) (ρ : DEnv) (d : D), RepS X.K cl F ρ σ → f ρ = .ok d → ∃ v, Rep X.K cl F d v ∧ ∀ (F' H : Hp) (Q : VK), LeR X.K F F' → Same F' H → Q v H → te σ H Q
def keyD : Key → D
  | .inl i => .int i
  | .inr s => .str s
/-- the dict, its keys as they stand -/
def forLk (tg : Tg) (f : DEnv → Out D) (b : DEnv → SOut) : DEnv → SOut := fun ρ => match f ρ with
  | .ok (.dic kds) => (match forL tg b (kds.map fun kd => keyD kd.1) ρ with
    | .ex _ _ => .bad
    | o => o)
  | _ => .bad
section
variable {X : Cx} {cl : Nat → Addr} {W : WX} {cf : Cf} {Δc Δ Δl : List Nat} {e tge : Expr} {f : DEnv → Out D} {b : DEnv → SOut} {body : List Stmt} {pos : Pos} {tg : Tg}
theorem dv_var (i : Nat) {x : Str} (hN : X.N[i]? = some x := by rfl) (hv : Vis X.env.scope x := by first | exact Or.inl rfl | exact Or.inr (Or.inl rfl) | exact Or.inr (Or.inr rfl)) (hd : (x == ("__debug__" : Str)) = false := by decide) (hcd : (x == ("__classdict__" : Str)) = false := by decide) : DV X cl (.Name x pos) (varE i) :=
  ⟨_, pe_var hN hv hd hcd, fun σ F ρ d s e => by
    unfold varE at e
    cases q : ρ[i]? with
    | none => rw [q] at e; cases e
    | some o =>
      rw [q] at e
      cases o with
      | none => cases e
      | some d1 =>
        cases e
        obtain ⟨v, h1, h2⟩ := s.2 i d q
        exact ⟨v, h2, fun F' H Q l sm q => ⟨v, h1, q⟩⟩⟩
/-- d['k'] -/
theorem dv_key {k : Str} {j : Nat} {p1 : Pos} (ha : DV X cl e f) (hu : X.A.units + 1 < cLine) : DV X cl (.Subscript e (.Constant (.str k) j p1) pos) (op2E ixA f (cE (.str k))) := by
  obtain ⟨te, h1, h2⟩ := ha.ex
  refine ⟨_, pe_ix (ix_all hu) h1 pe_str (fun _ _ => rfl), fun σ F ρ d s e => ?_⟩
  unfold op2E cE at e
  cases q : f ρ with
  | ex x => rw [q] at e; cases e
  | bad => rw [q] at e; cases e
  | ok d1 =>
    rw [q] at e
    obtain ⟨v, r, hv⟩ := h2 σ F ρ d1 s q
    replace e : ixA d1 (.str k) = .ok d := e
    cases d1 with
    | dic kds =>
      obtain ⟨a, kvs, ev, ha, rk⟩ := r
      subst ev
      replace e : (match kds.lookup (.inr k) with
        | some d => Out.ok d
        | none => .bad) = .ok d := e
      cases z : kds.lookup (.inr k) with
      | none => rw [z] at e; cases e
      | some d2 =>
        rw [z] at e
        cases e
        obtain ⟨u, h3, h4⟩ := (lookup_valV rk).1 d z
        exact ⟨u, h4, fun F' H Q l sm q => hv F' H _ l sm (.inr ⟨a, u, rfl, .inl ⟨kvs, .inr k, (Le.of sm).rd _ _ (l.dk _ _ ha), rfl, h3.symm⟩, q⟩)⟩
    | lst _ => cases e
    | tup _ => cases e
    | str _ => cases e
    | _ => cases e
theorem walks_keys {K : PySem.W.Frag} {F : Hp} {a : Addr} {o : Obj} {kds : List (Key × D)} {kvs : List (Key × V)} (h : F a = some (.frz o (.dK kvs))) (rk : RepK K cl F kds kvs) : Walks K cl F (Itk a o kvs) (kds.map fun kd => keyD kd.1) where
  go := fun H i l hi => ⟨l _ _ h, by rw [List.length_map, rk.length] at hi; exact hi⟩
  stop := fun H l => ⟨l _ _ h, by rw [List.length_map, rk.length]; exact Nat.le_refl _⟩
  yld := fun H i x H' l y hi => by
    obtain ⟨e, k, v, h1, h2⟩ := y
    subst e h2
    refine ⟨Same.refl _, fun Fz f1 f2 => ⟨keyD k, Fz, ?_, Gr.refl f2, ?_⟩⟩
    · have hk := RepK.keyz rk
      have h3 : (kvs.map (·.1))[i]? = some k := by rw [List.getElem?_map, h1] <;> rfl
      rw [hk, List.getElem?_map] at h3
      rw [List.getElem?_map]
      obtain ⟨q, h4, h5⟩ := Option.map_eq_some_iff.mp h3
      rw [h4, ← h5] <;> rfl
    · cases k <;> rfl
theorem ends_lock {K : PySem.W.Frag} {E : Ent cf.pn} {F H : Hp} {ρ : DEnv} {σ : St} {fp : List Addr} {a : Addr} {o : Obj} {kvs : List (Key × V)} {so : SOut} {Dn : Ends} (s : StOk K cl E Δ F H ρ σ fp) (h : F a = some (.dK kvs)) (w : wpS K cl W cf E Δc Δl (match so with
    | .ex _ _ => .bad
    | o => o) Dn) : wpS K cl W cf (lkE a o kvs E F) Δc Δl so ⟨fun σ' H' => H' a = some (.frz o (.dK kvs)) ∧ Dn.nx σ' (upd H' a (.dK kvs)), fun v H' => H' a = some (.frz o (.dK kvs)) ∧ Dn.rt v (upd H' a (.dK kvs)), fun σ' H' => H' a = some (.frz o (.dK kvs)) ∧ Dn.bk σ' (upd H' a (.dK kvs)), fun σ' H' => H' a = some (.frz o (.dK kvs)) ∧ Dn.ct σ' (upd H' a (.dK kvs))⟩ := by
  cases so with
  | next ρ1 =>
    intro F1 fp1 σ1 H1 s1
    obtain ⟨s2, ha⟩ := s.unlock h s1
    exact ⟨ha, w _ _ _ _ s2⟩
  | brk ρ1 =>
    intro F1 fp1 σ1 H1 s1
    obtain ⟨s2, ha⟩ := s.unlock h s1
    exact ⟨ha, w _ _ _ _ s2⟩
  | cont ρ1 =>
    intro F1 fp1 σ1 H1 s1
    obtain ⟨s2, ha⟩ := s.unlock h s1
    exact ⟨ha, w _ _ _ _ s2⟩
  | ret d ρ1 =>
    intro F1 fp1 σ1 H1 v fv s1 ow av nd
    have fa : F1 a = some (.frz o (.dK kvs)) := s1.f0 a _ (lk_at (by rw [h]; exact fun z => nomatch z))
    obtain ⟨s2, ha⟩ := s.unlock h s1
    have nv : ∀ x ∈ fv, x ≠ a := fun x m e => by
      have z := (av x m).2.1
      rw [e, fa] at z
      cases z
    refine ⟨ha, w _ _ _ _ v fv s2 (Own.leR (leR_un fa) (fun x m => upd_ne (nv x m)) ow) (fun x m => ⟨(av x m).1, ?_, ?_⟩) nd⟩
    · rw [upd_ne (nv x m)]
      exact (av x m).2.1
    · exact (av x m).2.2.imp (fun z => lk_none.mp (show lk a o kvs E.H0 x = none from z)) id
  | ex x ρ1 => exact w.elim
  | bad => exact w
theorem PS.or {st : Stmt} {t t' : TS} (h : PS X st t) (h' : PS X st t') : PS X st (fun D σ H => t D σ H ∨ t' D σ H) := ⟨fun pins s σ H D I w => w.elim (h.run pins s σ H D I) (h'.run pins s σ H D I)⟩
theorem ds_forD (hp : PassesOwn (model X.prog X.w) X.A X.env X.xe) (he : DV X cl e f) (hg : PG X tge (tgR X.K tg)) (hb : DSs X cl W cf Δl Δl body Δl b) (hl : setZ (tgIs tg) Δl = Δl := by rfl) (hpl : ptB Δ Δl = true := by rfl) (hpn : npn cf.pn (tgIs tg) = true := by rfl)
    (hs : ∀ x, foldedSetIterable e X.env x = pure x := by intro _; rfl) (hc : X.calm = true := by rfl) : DS X cl W cf Δc Δ (.For tge e body [] pos) Δl (forLk tg (mE Δ f) b) := by
  obtain ⟨te, h1, h2⟩ := he.ex
  refine PS.imp (PS.or (ps_lock (ps_for hp hc (pi_keys h1) hg hb hs)) (ps_for hp hc (pi_keys h1) hg hb hs)) fun Dn σ H ⟨E, F, ρ, fp, s, w⟩ => ?_
  unfold forLk mE at w
  cases q : f (mask Δ ρ) with
  | ex x => rw [q] at w; exact w.elim
  | bad => rw [q] at w; exact w.elim
  | ok d =>
    rw [q] at w
    cases d with
    | dic kds =>
      obtain ⟨v, r, hv⟩ := h2 σ F (mask Δ ρ) _ s.mask q
      obtain ⟨a, kvs, ev, ha, rk⟩ := r
      subst ev
      replace w : wpS X.K cl W cf E Δc Δl (match forL tg b (kds.map fun kd => keyD kd.1) ρ with
        | .ex _ _ => .bad
        | o => o) Dn := w
      rcases ha with ha | ⟨ob, ha⟩
      · refine .inl ⟨a, .dK kvs, s.le _ _ ha, trivial, fun od => ?_⟩
        obtain ⟨F2, fp2, b1, b2, b3, s2⟩ := s.part hpl
        have ha2 := b1 _ _ ha
        have w2 := ends_lock (o := od) s2 ha2 w
        have s3 := s2.lock (o := od) ha2
        have hn : H a ≠ none := by rw [s.le _ _ ha]; exact fun z => nomatch z
        rw [← lk_upd hn]
        refine hv (lk a od kvs F) (lk a od kvs H) _ (leR_lk ha) (lk_same s.le) ⟨a, od, rfl, .inl ⟨kvs, lk_at hn, ?_⟩⟩
        have fl : lk a od kvs F2 a = some (.frz od (.dK kvs)) := lk_at (by rw [ha2]; exact fun z => nomatch z)
        exact for_core hpn hl (walks_keys fl (RepK.leR ((leR_lk ha2)) _ _ (RepK.leR (LeR.of b1) _ _ rk))) s3 w2
      · obtain ⟨F2, fp2, b1, b2, b3, s2⟩ := s.part hpl
        have w2 : wpS X.K cl W cf E Δc Δl (forL tg b (kds.map fun kd => keyD kd.1) ρ) Dn := by
          cases z : forL tg b (kds.map fun kd => keyD kd.1) ρ with
          | next ρ1 => rw [z] at w; exact w
          | brk ρ1 => rw [z] at w; exact w
          | cont ρ1 => rw [z] at w; exact w
          | ret d ρ1 => rw [z] at w; exact w
          | ex x ρ1 => rw [z] at w; exact w.elim
          | bad => rw [z] at w; exact w
        exact .inr (hv F H _ (LeR.of (Same.refl F)) s.le ⟨a, ob, rfl, .inl ⟨kvs, s.le _ _ ha, for_core hpn hl (walks_keys (b1 _ _ ha) (RepK.leR (LeR.of b1) _ _ rk)) s2 w2⟩⟩)
    | _ => exact w.elim
end
end DL

namespace DL
open PySem PySem.Spec PyProof.Rows L2
/-! ### methods, makers, defs that change their first parameter: short -/
/-- the j-th statement of a class's body -/
def inC (st : Stmt) (j : Nat) : Stmt := match st with
  | .ClassDef _ _ _ b _ _ _ _ _ _ _ => b.getD j (.Pass ⟨0, 0, 0, 0⟩)
  | _ => .Pass ⟨0, 0, 0, 0⟩
structure DefM (K : PySem.W.Frag) (C : Addr) (mn qual : Str) (params : Arguments) (body : List Stmt) (scope : Scope) (dvs : List V) : Prop where
  ex : ∃ f fd, FunD K mn qual params body scope dvs [] f fd ∧ Meth K C mn f
structure DefI (K : PySem.W.Frag) (mg : Str → Option Value) (x : Str) (C : Addr) (qual : Str) (params : Arguments) (body : List Stmt) (scope : Scope) (dvs : List V) : Prop where
  ex : ∃ f fd, FunD K "__init__" qual params body scope dvs [] f fd ∧ Mk K C f ∧ mg x = some (.ref C)
section
variable {P : Program} {w : World} {K : PySem.W.Frag} {mg : Str → Option Value} {base : Heap} {cl : Nat → Addr} {C : Addr} {mn qual x : Str} {params : Arguments} {body : List Stmt} {scope : Scope} {N ps : List Str} {k r : Nat} {ms : List Nat} {b : DEnv → SOut} {Δ' : List Nat}
theorem calm_of (D0 : DefM K C mn qual params body scope []) (S : FnScope N ps scope) (hbind : ∀ (kV doc pm : Value) (an : Option Addr) (cdv ct : Value) (us : List Value), us.length = ps.length → bindArgs (PySem.W.fnOf mn qual params body scope .none kV doc pm an cdv ct) ⟨us, []⟩ = pure (ps.zip us))
    (hb : ∀ (f : Addr) (cdv : Value) (A : Around) (outer : List Env) (s : Shared) (H : Hp) (E : XK), Room k (A.deeper (envOfC qual scope s.heap.objs.size f cdv)) →
      DSs (cxOf (L2N.CX P w) P w K mg base N qual scope f cdv A outer s H E) cl (fun c d _ H => E c d H) ⟨r, List.replicate N.length 0, []⟩ (List.replicate N.length 0) (List.replicate N.length 0) body Δ' b) :
    CalM P w K mg base C mn (k + 1) (spD K cl r (fnD ps.length N.length b)) := by
  obtain ⟨f, fd, F, m⟩ := D0.ex
  exact ⟨f, fd, ps, ok_of F S hb, m, F.bindsN hbind⟩
theorem calm_ofM (D0 : DefM K C mn qual params body scope []) (S : FnScope N ps scope) (hm : ms.length = ps.length) (hpt : ptB Δ' (ms ++ List.replicate (N.length - ms.length) 0) = true) (hbind : ∀ (kV doc pm : Value) (an : Option Addr) (cdv ct : Value) (us : List Value), us.length = ps.length → bindArgs (PySem.W.fnOf mn qual params body scope .none kV doc pm an cdv ct) ⟨us, []⟩ = pure (ps.zip us))
    (hb : ∀ (f : Addr) (cdv : Value) (A : Around) (outer : List Env) (s : Shared) (H : Hp) (E : XK), Room k (A.deeper (envOfC qual scope s.heap.objs.size f cdv)) →
      DSs (cxOf (L2N.CX P w) P w K mg base N qual scope f cdv A outer s H E) cl (fun c d _ H => E c d H) ⟨r, ms ++ List.replicate (N.length - ms.length) 0, pnOf 0 ms⟩ (ms ++ List.replicate (N.length - ms.length) 0) (ms ++ List.replicate (N.length - ms.length) 0) body Δ' b) :
    CalM P w K mg base C mn (k + 1) (spM K cl r ms (fnM ms N.length b)) := by
  obtain ⟨f, fd, F, m⟩ := D0.ex
  exact ⟨f, fd, ps, ok_ofM F S hm hpt hb, m, F.bindsN hbind⟩
theorem cal_ofM (D0 : Def0 K mg x params body scope []) (S : FnScope N ps scope) (hm : ms.length = ps.length) (hpt : ptB Δ' (ms ++ List.replicate (N.length - ms.length) 0) = true) (hbind : ∀ (kV doc pm : Value) (an : Option Addr) (cdv ct : Value) (us : List Value), us.length = ps.length → bindArgs (PySem.W.fnOf x x params body scope .none kV doc pm an cdv ct) ⟨us, []⟩ = pure (ps.zip us))
    (hb : ∀ (f : Addr) (cdv : Value) (A : Around) (outer : List Env) (s : Shared) (H : Hp) (E : XK), Room k (A.deeper (envOfC x scope s.heap.objs.size f cdv)) →
      DSs (cxOf (L2N.CX P w) P w K mg base N x scope f cdv A outer s H E) cl (fun c d _ H => E c d H) ⟨r, ms ++ List.replicate (N.length - ms.length) 0, pnOf 0 ms⟩ (ms ++ List.replicate (N.length - ms.length) 0) (ms ++ List.replicate (N.length - ms.length) 0) body Δ' b) :
    Cal P w K mg base x (k + 1) (spM K cl r ms (fnM ms N.length b)) := by
  obtain ⟨f, fd, F, hmg⟩ := D0.ex
  exact ⟨f, fd, ps, ok_ofM F S hm hpt hb, hmg, F.kp, F.bindsN hbind⟩
theorem cali_of (D0 : DefI K mg x C qual params body scope []) (S : FnScope N ps scope) (hm : ms.length = ps.length) (hpt : ptB Δ' (ms ++ List.replicate (N.length - ms.length) 0) = true) (hbind : ∀ (kV doc pm : Value) (an : Option Addr) (cdv ct : Value) (us : List Value), us.length = ps.length → bindArgs (PySem.W.fnOf "__init__" qual params body scope .none kV doc pm an cdv ct) ⟨us, []⟩ = pure (ps.zip us))
    (hb : ∀ (f : Addr) (cdv : Value) (A : Around) (outer : List Env) (s : Shared) (H : Hp) (E : XK), Room k (A.deeper (envOfC qual scope s.heap.objs.size f cdv)) →
      DSs (cxOf (L2N.CX P w) P w K mg base N qual scope f cdv A outer s H E) cl (fun c d _ H => E c d H) ⟨0, ms ++ List.replicate (N.length - ms.length) 0, pnOf 0 ms⟩ (ms ++ List.replicate (N.length - ms.length) 0) (ms ++ List.replicate (N.length - ms.length) 0) body Δ' b) :
    CalI P w K mg base x C (k + 1) (spM K cl 0 ms (fnM ms N.length b)) := by
  obtain ⟨f, fd, F, mk, hmg⟩ := D0.ex
  exact ⟨f, fd, ps, ok_ofM F S hm hpt hb, mk, hmg, F.bindsN hbind⟩
end
/-! ### exceptions of the text -/
def veB : List Value := [.type "ValueError", .type "Exception", .type "BaseException", .type "object"]
def leB : List Value := [.type "LookupError", .type "Exception", .type "BaseException", .type "object"]
structure ExF (K : PySem.W.Frag) (mg : Str → Option Value) (C : Addr) (x : Str) (bm : List Value) (nid : String) : Prop where
  g : mg x = some (.ref C)
  k : PySem.W.keepIn K (.ref C) = true
  q : PySem.W.excIn K C bm nid = true
  s : PySem.W.subIn K (.ref C) (.type "BaseException") = some true
  t : PySem.W.typeIn K (.ref C) = some (.type "type")
def exfB (K : PySem.W.Frag) (C : Addr) (bm : List Value) (nid : String) : Bool := PySem.W.excIn K C bm nid && (PySem.W.keepIn K (.ref C) && (decide (PySem.W.subIn K (.ref C) (.type "BaseException") = some true) && decide (PySem.W.typeIn K (.ref C) = some (.type "type"))))
theorem exf_of {K : PySem.W.Frag} {mg : Str → Option Value} {C : Addr} {x : Str} {bm : List Value} {nid : String} (g : mg x = some (.ref C)) (h : exfB K C bm nid = true) : ExF K mg C x bm nid := by
  obtain ⟨h1, h⟩ := Bool.and_eq_true_iff.mp h
  obtain ⟨h2, h⟩ := Bool.and_eq_true_iff.mp h
  obtain ⟨h3, h4⟩ := Bool.and_eq_true_iff.mp h
  exact ⟨g, h2, h1, of_decide_eq_true h3, of_decide_eq_true h4⟩
/-- isinstance is asked of it rightly -/
def excB (K : PySem.W.Frag) (C : Addr) : Bool := He.eqO (PySem.W.findIn K (.ref C) "__getattribute__") (some (some (.builtin "BaseException.__getattribute__"))) && (He.eqO (PySem.W.findIn K (.ref C) "__getattr__") (some none) && (decide (PySem.W.subIn K (.ref C) (.type "BaseException") = some true) && (PySem.W.hasDictIn K C &&
  (He.eqO (PySem.W.findIn K (.ref C) "__class__") (some (some (.builtin "object.__class__"))) && (He.eqO (PySem.W.specialIn K (.builtin "object.__class__") "__get__") (some (some (.builtin "getset_descriptor.__get__"))) && (decide (PySem.W.takesIn K (.builtin "object.__class__") = some true) && decide (PySem.W.mroIn K C (.type "object") = some true)))))))
theorem exc_of {K : PySem.W.Frag} {C : Addr} (h : excB K C = true) : L2.ExcC K C := by
  obtain ⟨h1, h⟩ := Bool.and_eq_true_iff.mp h
  obtain ⟨h2, h⟩ := Bool.and_eq_true_iff.mp h
  obtain ⟨h3, h⟩ := Bool.and_eq_true_iff.mp h
  obtain ⟨h4, h⟩ := Bool.and_eq_true_iff.mp h
  obtain ⟨h5, h⟩ := Bool.and_eq_true_iff.mp h
  obtain ⟨h6, h⟩ := Bool.and_eq_true_iff.mp h
  obtain ⟨h7, h8⟩ := Bool.and_eq_true_iff.mp h
  exact ⟨He.eqO_ok h1, He.eqO_ok h2, of_decide_eq_true h3, h4, He.eqO_ok h5, He.eqO_ok h6, of_decide_eq_true h7, of_decide_eq_true h8⟩
section
variable {X : Cx} {cl : Nat → Addr} {W : WX} {cf : Cf} {Δc Δ Δ' Δ1 : List Nat} {e tge : Expr} {h : DEnv → Out D} {f : DEnv → EOut} {r n i c : Nat} {x : Str} {p p2 p3 pos : Pos} {m : Str} {j : Nat} {tg : Tg}
theorem ds_raiseV (T : ExF X.K X.mg (cl c) x veB "ValueError.__new__") (hg : Gl X x) (tk : L2N.Takes X W) (hc : X.calm = true := by rfl) (hp : ptB Δ cf.Δr = true := by rfl) (hdb : (x == ("__debug__" : Str)) = false := by decide) : DS X cl W cf Δc Δ (.Raise (some (.Call (.Name x p) [.Constant (.str m) j p2] [] p3)) none pos) Δ' (raiseS c) :=
  ds_raise (L2N.pmk_own PySem.F.excBase_ValueError T.q T.g T.k (raises_own T.s T.t) hg hdb) tk hc hp
theorem ds_raiseL (T : ExF X.K X.mg (cl c) x leB "LookupError.__new__") (hg : Gl X x) (tk : L2N.Takes X W) (hc : X.calm = true := by rfl) (hp : ptB Δ cf.Δr = true := by rfl) (hdb : (x == ("__debug__" : Str)) = false := by decide) : DS X cl W cf Δc Δ (.Raise (some (.Call (.Name x p) [.Constant (.str m) j p2] [] p3)) none pos) Δ' (raiseS c) :=
  ds_raise (L2N.pmk_own PySem.F.excBase_LookupError T.q T.g T.k (raises_own T.s T.t) hg hdb) tk hc hp
/-- what can't change may be called ours -/
theorem de_up (he : DE X cl W e 0 h) : DE X cl W e r (immE 0 h) := PE.imp he fun σ H Q ⟨F, ρ, l, s, w⟩ => by
  refine ⟨F, ρ, l, s, ?_⟩
  unfold immE at w
  cases q : h ρ with
  | ex x => rw [q] at w; exact w
  | bad => rw [q] at w; exact w
  | ok d =>
    rw [q] at w
    replace w : wpE X.K cl r (if immAt 0 d = true then .ok d else .bad) F H Q (fun c dx H' => W c dx σ H') := w
    by_cases im : immAt 0 d = true
    · rw [if_pos im] at w
      exact wpE.ok0 fun F1 H1 v g q1 => w F1 H1 v [] g (Own.of_imm d r v (by cases d <;> exact im) q1) (fun a m => by cases m) List.nodup_nil
    · rw [if_neg im] at w
      exact w.elim
/-- name = e, with what changes -/
theorem sax {pos' : Pos} (hN : X.N.Nodup) (he : DX X cl W cf Δ Δ1 e n f) (hi : X.N[i]? = some x := by rfl) (hx : Loc X.env.scope x := by first | exact Or.inl rfl | exact Or.inr rfl) (hs : swapsWith e (some (.Name x pos')) pos.line X.env = pure false := by rfl) (hf : X.fn x = true ∨ X.env.scope.names.lookup x = some .local := by first | exact .inl rfl | exact .inr rfl) :
    PS X (.Assign [.Name x pos'] e pos) (tAsg (tX X.K cl W cf Δ Δ1 n f) (gName i)) := ps_set hN hi hx he hs hf
theorem sux (he : DX X cl W cf Δ Δ1 e 0 f) (hg : PG X tge (tgR X.K tg)) (hs : swapsWithSole [tge] e pos.line X.env = pure false := by rfl) (hw : swappedStores [tge] e X.env = pure none := by rfl) (h1 : (assignEach [tge] X.env).map (·.2) = [assign tge X.env] := by rfl) :
    PS X (.Assign [tge] e pos) (tAsg (tX X.K cl W cf Δ Δ1 0 f) (tgR X.K tg)) := ps_asg he hg hs hw h1
/-- o[k] = e -/
theorem sput {k : Nat} {o b : Expr} {pl : Plc} {g hh : DEnv → Out D} {pos' : Pos} (ho : DP X cl W cf Δ o i k pl) (he : DG X cl W cf Δ e 0 g) (hb : DG X cl W cf Δ b 0 hh) (hu : X.A.units + 1 < cLine) (hΔ : Δ[i]? = some (0 + 1 + k) := by rfl)
    (hs : swapsWithSole [.Subscript o b pos'] e pos.line X.env = pure false := by rfl) (hw : swappedStores [.Subscript o b pos'] e X.env = pure none := by rfl) (h1 : (assignEach [.Subscript o b pos'] X.env).map (·.2) = [assign (.Subscript o b pos') X.env] := by rfl) (hpl : ∀ (v : Value),
      assign (.Subscript o b pos') X.env v = (do
        let ov ← holding [v] (eval o X.env)
        let iv ← holding [v, ov] (eval b X.env)
        standAt pos'
        holding [v, ov, iv] (setItem ov iv v)
        release [v, ov, iv] []) := by intro _; rfl) :
    DS X cl W cf Δc Δ (.Assign [.Subscript o b pos'] e pos) Δ (putE i pl g hh) := ds_put ho (ps_asg he (pg_sub ho.walk hb (PSet.or set_list (set_dict hu)) hpl) hs hw h1) hΔ
end
end DL

namespace DL
open PySem PySem.Spec PyProof.Rows L2 HotX
/-! ### unpacking while an exception is handled -/
section
variable {pg : Program} {w : World} {A : Around} {Ex : Value → Shared → Prop} {s0 : Shared}
theorem push2 {h : Heap} {b : Addr} {o p q : Obj} (e : h.get? b = some o) : ((h.push p).push q).get? b = some o := Heap.get?_push_of_some _ (Heap.get?_push_of_some _ e)
/-- the end of an iterator is told by a fresh StopIteration, whose context is the one handled -/
theorem stop_hot {α : Type} {x1 : Addr} {Q : α → Shared → Prop} (hot : HotAt A x1 s0.heap) (fin : ∀ h2 e, (∀ b o, s0.heap.get? b = some o → h2.get? b = some o) → (∃ o, h2.get? e = some o ∧ o.cls = .type "StopIteration") → Ex (.ref e) { s0 with heap := h2 }) :
    wpAny (model pg w) A (newExc (.type "StopIteration") [] >>= fun e => (raiseNew e : Sem α)) Q Ex s0 := by
  obtain ⟨hh, o1, vs1, g1, d1, c1⟩ := hot
  refine wpAny_bind ?_
  simp only [newExc, newTuple]
  refine wpAny_bind (wpAny_newObj_type ?_ (by size_fits))
  refine wpAny_bind (m := firstArgMember _ _) (wpAny_of_eq (a := Value.none) (by first | rfl | (simp only [firstArgMember] <;> rfl)) ?_)
  refine wpAny_newObj_type ?_ (by size_fits)
  refine raiseNew_hot ⟨hh, o1, vs1, push2 g1, d1, c1⟩ (Nat.ne_of_lt (Heap.lt_size (Heap.get?_push_of_some _ g1))) (Heap.get?_push_size _ rfl) rfl (by first | (simp; done) | (simp; omega) | (simp only [Array.size_append]; simp; omega)) ?_
  refine fin _ _ (fun b o e => ?_) ⟨_, Heap.get?_update_self _ (Heap.get?_push_size _ rfl) rfl, rfl⟩
  rw [Heap.get?_update_other _ _ (Nat.ne_of_gt (Heap.lt_size (Heap.get?_push_of_some _ e)))]
  exact push2 e
theorem hot_up {x1 it : Addr} {f : Obj → Obj} (hot : HotAt A x1 s0.heap) (ne : x1 ≠ it) : HotAt A x1 (s0.heap.update it f) := by
  obtain ⟨hh, o1, vs1, g1, d1, c1⟩ := hot
  exact ⟨hh, o1, vs1, (Heap.get?_update_other _ _ (Ne.symm ne)).trans g1, d1, c1⟩
theorem up_keep {it : Addr} {f : Obj → Obj} {h2 : Heap} (k : ∀ b o, (s0.heap.update it f).get? b = some o → h2.get? b = some o) : Heap.ExtBut it s0.heap h2 := fun b o nb e => k b o ((Heap.get?_update_other _ _ (Ne.symm nb)).trans e)
theorem tupEnd_hot {it t x1 : Addr} {i : Nat} {its : Array Value} {Q : Option Value → Shared → Prop} (hot : HotAt A x1 s0.heap) (ne : x1 ≠ it) (hi : IsTupIter s0.heap it t i) (ht : IsTup s0.heap t its) (hx : its[i]? = none) (q : ∀ h2, Heap.ExtBut it s0.heap h2 → Q none { s0 with heap := h2 }) :
    wpAny (model pg w) A (pyNext (.ref it)) Q Ex s0 := by
  obtain ⟨oi, gi, ci, di⟩ := id hi
  obtain ⟨ot, gt, _, nt, dt⟩ := ht
  have nb : ¬ ((Value.ref t == Value.none) = true) := Bool.false_ne_true
  unfold pyNext
  have me := args_tupleiter_next (.ref it)
  refine wpAny_bind (wpAny_attempt (wpAny_callSpecial?_slot (name := Str.ofString "__next__") hi.typeIs slot_tupleiter_next (wpAny_call_entry slot_tupleiter_next hi.typeIs entry_tupleiter_next ?_ me)))
  show wpAny _ _ (field (.ref it) 0 >>= _) _ _ s0
  refine wpAny_bind (wpAny_field gi di (x := .ref t) rfl ?_)
  show wpAny _ _ (if (Value.ref t == Value.none) = true then _ else _) _ _ s0
  rw [if_neg nb]
  show wpAny _ _ (field (.ref it) 1 >>= _) _ _ s0
  refine wpAny_bind (wpAny_field gi di (x := .int i 0) rfl ?_)
  show wpAny _ _ (seqItems? (.ref t) >>= _) _ _ s0
  refine wpAny_bind (wpAny_seqItems gt dt ?_)
  simp only [Int.toNat_natCast, hx]
  refine wpAny_bind (wpAny_rule (wpAny_bind (wpAny_setField gi di (by simp) ?_)))
  refine stop_hot (hot_up hot ne) fun h2 e kp ⟨o, ho, hc⟩ => ?_
  refine wpAny_bind (wpAny_isInstance (T := "StopIteration") (b := true) ⟨o, ho, hc⟩ isSubtype_stop ?_)
  exact wpAny_pure (q h2 (up_keep kp))
theorem lstEnd_hot {it l x1 : Addr} {i : Nat} {its : Array Value} {Q : Option Value → Shared → Prop} (hot : HotAt A x1 s0.heap) (ne : x1 ≠ it) (hi : s0.heap.IsListIter it l i) (hl : s0.heap.IsList l its) (hx : its[i]? = none) (q : ∀ h2, Heap.ExtBut it s0.heap h2 → Q none { s0 with heap := h2 }) :
    wpAny (model pg w) A (pyNext (.ref it)) Q Ex s0 := by
  obtain ⟨oi, gi, ci, di⟩ := id hi
  obtain ⟨ol, gl, _, nl, dl⟩ := hl
  have nb : ¬ ((Value.ref l == Value.none) = true) := Bool.false_ne_true
  unfold pyNext
  have me := args_listiter_next (.ref it)
  refine wpAny_bind (wpAny_attempt (wpAny_callSpecial?_slot (name := Str.ofString "__next__") hi.typeIs slot_listiter_next (wpAny_call_entry slot_listiter_next hi.typeIs entry_listiter_next ?_ me)))
  show wpAny _ _ (field (.ref it) 0 >>= _) _ _ s0
  refine wpAny_bind (wpAny_field gi di (x := .ref l) rfl ?_)
  show wpAny _ _ (if (Value.ref l == Value.none) = true then _ else _) _ _ s0
  rw [if_neg nb]
  show wpAny _ _ (field (.ref it) 1 >>= _) _ _ s0
  refine wpAny_bind (wpAny_field gi di (x := .int i 0) rfl ?_)
  show wpAny _ _ (seqItems? (.ref l) >>= _) _ _ s0
  refine wpAny_bind (wpAny_seqItems gl dl ?_)
  simp only [Int.toNat_natCast, hx]
  refine wpAny_bind (wpAny_rule (wpAny_bind (wpAny_setField gi di (by simp) ?_)))
  refine stop_hot (hot_up hot ne) fun h2 e kp ⟨o, ho, hc⟩ => ?_
  refine wpAny_bind (wpAny_isInstance (T := "StopIteration") (b := true) ⟨o, ho, hc⟩ isSubtype_stop ?_)
  exact wpAny_pure (q h2 (up_keep kp))
theorem hot_ext {x1 c : Addr} {h2 : Heap} (hot : HotAt A x1 s0.heap) (k : Heap.ExtBut c s0.heap h2) (ne : x1 ≠ c) : HotAt A x1 h2 := by
  obtain ⟨hh, o1, vs1, g1, d1, c1⟩ := hot
  exact ⟨hh, o1, vs1, k _ _ ne g1, d1, c1⟩
theorem HotX_lt {x1 : Addr} (hot : HotAt A x1 s0.heap) : x1 < s0.heap.objs.size := by
  obtain ⟨_, _, _, g1, _⟩ := hot
  exact Heap.lt_size g1
theorem unpT_hot {t x1 : Addr} {its : Array Value} {Q : List Value → Shared → Prop} (hot : HotAt A x1 s0.heap) (ht : IsTup s0.heap t its) (q : ∀ h2, Heap.ExtBut s0.heap.objs.size s0.heap h2 → Q its.toList { s0 with heap := h2 }) :
    wpAny (model pg w) A (unpackItems (.ref t) its.size none) Q Ex s0 := by
  have lt : t ≠ s0.heap.objs.size := by
    obtain ⟨o, ho, _⟩ := ht
    exact Nat.ne_of_lt (Heap.lt_size ho)
  have ltx : x1 ≠ s0.heap.objs.size := Nat.ne_of_lt (HotX_lt hot)
  unfold unpackItems
  refine wpAny_bind ?_
  unfold notIterableAtAll
  refine wpAny_bind (wpAny_specialOf ht.typeIs slot_tuple_iter.lookup (wpAny_pure ?_))
  simp only [Bool.false_eq_true, if_false]
  refine wpAny_bind (wpAny_holding (iter_tuple ht (wpAny_bind (wpAny_holding ?_))))
  refine draw_tuple lt its.size 0 _ _ ⟨_, Heap.get?_push_size _ rfl, rfl, rfl⟩ (ht.push _) (by omega) fun h3 j3 b3 => ?_
  have all : List.take its.size (List.drop 0 its.toList) = its.toList := List.take_of_length_le (by simp)
  rw [all, if_neg (by simp)]
  have k3 : Heap.ExtBut s0.heap.objs.size s0.heap h3 := fun b o nb e => b3.extBut _ _ nb (Heap.get?_push_of_some _ e)
  refine wpAny_bind (wpAny_holding (tupEnd_hot (hot_ext hot k3 ltx) ltx j3 (its := its) ((ht.push _).extBut b3.extBut lt) (by simp) fun h4 k4 => ?_))
  simp only [Option.isSome_none, Bool.false_eq_true, if_false]
  exact wpAny_pure (q h4 fun b o nb e => k4 b o nb (k3 b o nb e))
theorem unpL_hot {l x1 : Addr} {its : Array Value} {Q : List Value → Shared → Prop} (hot : HotAt A x1 s0.heap) (hl : s0.heap.IsList l its) (q : ∀ h2, Heap.ExtBut s0.heap.objs.size s0.heap h2 → Q its.toList { s0 with heap := h2 }) :
    wpAny (model pg w) A (unpackItems (.ref l) its.size none) Q Ex s0 := by
  have lt : l ≠ s0.heap.objs.size := by
    obtain ⟨o, ho, _⟩ := hl
    exact Nat.ne_of_lt (Heap.lt_size ho)
  have ltx : x1 ≠ s0.heap.objs.size := Nat.ne_of_lt (HotX_lt hot)
  unfold unpackItems
  refine wpAny_bind ?_
  unfold notIterableAtAll
  refine wpAny_bind (wpAny_specialOf hl.typeIs slot_list_iter.lookup (wpAny_pure ?_))
  simp only [Bool.false_eq_true, if_false]
  refine wpAny_bind (wpAny_holding (wpAny_pyIter_list hl (wpAny_bind (wpAny_holding ?_))))
  refine PySem.W.kun_draw lt its.size 0 _ _ ⟨_, Heap.get?_push_size _ rfl, rfl, rfl⟩ (hl.push _) (by omega) fun h3 j3 b3 => ?_
  have all : List.take its.size (List.drop 0 its.toList) = its.toList := List.take_of_length_le (by simp)
  rw [all, if_neg (by simp)]
  have k3 : Heap.ExtBut s0.heap.objs.size s0.heap h3 := fun b o nb e => b3.extBut _ _ nb (Heap.get?_push_of_some _ e)
  refine wpAny_bind (wpAny_holding (lstEnd_hot (hot_ext hot k3 ltx) ltx j3 (its := its) ((hl.push _).extBut b3.extBut lt) (by simp) fun h4 k4 => ?_))
  simp only [Option.isSome_none, Bool.false_eq_true, if_false]
  exact wpAny_pure (q h4 fun b o nb e => k4 b o nb (k3 b o nb e))
end
theorem pg_tpH {X : Cx} {es : List Expr} {k : Nat} {is : List Nat} {pos : Pos} (hot : HotB X) (h : PGs X es (tgs is)) (hn : (assignEach es X.env).length = is.length := by rfl) (hst : (assignEach es X.env).findIdx? (·.1) = none := by rfl) : PG X (.Tuple es k pos) (tgR X.K (.tp is)) := by
  obtain ⟨x1, hot⟩ := hot
  refine ⟨fun pins s σ H v u Q I r hw => ?_⟩
  rw [PyProof.Rows.assign_Tuple]
  refine wpAny_bind (wpAny_standAt ?_)
  unfold unpack
  rcases hw with ⟨a, xs, rfl, hq, hl, hw⟩ | ⟨a, xs, rfl, hq, hl, hw⟩
  · cases r
    obtain ⟨its, rv, ht, hz⟩ := I.tuple hq
    have e : (assignEach es X.env).length = its.toArray.size := by simp [hn, ← hl, rv.length]
    rw [e, hst]
    refine wpAny_bind (wpAny_holding (unpT_hot (hot _ _ _ _ I) ht fun h2 k2 => ?_))
    have I1 : Inv X pins σ H { s with heap := h2 } := I.kept (t' := s.toks) fun b o e => k2 b o (Nat.ne_of_lt (Heap.lt_size e)) e
    exact h.run pins _ σ H xs _ Q I1 (by simpa using rv) hw
  · cases r
    obtain ⟨its, rv, pl, hz⟩ := I.list hq
    have e : (assignEach es X.env).length = its.toArray.size := by simp [hn, ← hl, rv.length]
    rw [e, hst]
    refine wpAny_bind (wpAny_holding (unpL_hot (hot _ _ _ _ I) pl.isList fun h2 k2 => ?_))
    have I1 : Inv X pins σ H { s with heap := h2 } := I.kept (t' := s.toks) fun b o e => k2 b o (Nat.ne_of_lt (Heap.lt_size e)) e
    exact h.run pins _ σ H xs _ Q I1 (by simpa using rv) hw
end DL

namespace DL
open PySem PySem.Spec PyProof.Rows L2
/-! ### xs.append(e), e changing what is ours -/
def appX (i : Nat) (f : DEnv → EOut) : DEnv → EOut := fun ρ => match ρ[i]? with
  | some (some (.lst _)) => (match f ρ with
    | .ok d ρ1 => (match ρ1[i]? with
      | some (some (.lst xs)) => if xs.length < sizeLine then .ok .non (ρ1.set i (some (.lst (xs ++ [d])))) else .bad
      | _ => .bad)
    | .ex x ρ1 => .ex x ρ1
    | .bad => .bad)
  | _ => .bad
section
variable {X : Cx} {cl : Nat → Addr} {W : WX} {cf : Cf} {Δ : List Nat} {e : Expr} {f : DEnv → EOut} {r : Nat} {x : Str} {p apos cpos : Pos}
theorem dx_appX (i : Nat) (he : DX X cl W cf Δ Δ e 0 f) (hΔ : Δ[i]? = some 1 := by rfl) (hN : X.N[i]? = some x := by rfl) (hv : Vis X.env.scope x := by first | exact Or.inl rfl | exact Or.inr (Or.inl rfl) | exact Or.inr (Or.inr rfl)) (hd : (x == ("__debug__" : Str)) = false := by decide) (hcd : (x == ("__classdict__" : Str)) = false := by decide)
    (hbase : attributeBase (.Name x p) "append" X.env (eval (.Name x p) X.env) = eval (.Name x p) X.env := by rfl)
    (hfew : ((backTo cpos (starEach [e] X.env)).all (fun x => !x.1) && (backToKw cpos (keywordEach [] X.env)).all (fun x => x.1.isSome)
      && decide ([e].length + ([] : List Keyword).length + (if ([] : List Keyword).isEmpty then 0 else 1) < 30)) = true := by rfl)
    (hline : (apos.endLine == cpos.line) = true := by rfl) (hs : starEach [e] X.env = (false, eval e X.env) :: starEach [] X.env := by rfl) (hplain : (backTo cpos (starEach [] X.env)).any (·.1) = false := by rfl) :
    DX X cl W cf Δ Δ (.Call (.Attribute (.Name x p) "append" apos) [e] [] cpos) r (appX i f) :=
  PE.imp (pe_bm PySem.F.plainAttrs_list PySem.F.slot_list_append PySem.F.type_list_append mt_append (pe_var hN hv hd hcd) (pa_cons he pa_nil hs) hbase hfew hline hs hplain) fun σ H Q ⟨E, F, ρ, fp, s, w⟩ => by
    unfold appX at w
    cases q : ρ[i]? with
    | none => rw [q] at w; exact w.elim
    | some o =>
      rw [q] at w
      match o, q, w with
      | some (.lst ds), q, w =>
        dsimp only at w
        obtain ⟨v0, v1, f1, P0⟩ := s.place (m := 1) (ss := []) q hΔ rfl
        obtain ⟨l, vs, fq, b1, b2, _⟩ := place_lst s P0 (Gr.refl s.le)
        have e0 : v0 = v1 := PathV.fn (ss := []) (v := v0) rfl P0.path
        rw [e0, b1] at P0
        refine ⟨.ref l, P0.at_, .inl ⟨rfl, vs, SqL.of b2⟩, E, F, ρ, fp, s, ?_⟩
        cases y : f ρ with
        | ex x ρ1 => rw [y] at w; exact w
        | bad => rw [y] at w; exact w.elim
        | ok d ρ1 =>
          rw [y] at w
          dsimp only at w
          intro F1 fp1 H1 v fv s1 ov nf nd
          obtain ⟨rv, ev⟩ := ov
          subst ev
          cases z : ρ1[i]? with
          | none => rw [z] at w; exact w.elim
          | some o1 =>
            rw [z] at w
            match o1, z, w with
            | some (.lst xs), z, w =>
              dsimp only at w
              by_cases c : xs.length < sizeLine
              · rw [if_pos c] at w
                obtain ⟨u0, u1, g1, P1⟩ := s1.place (m := 1) (ss := []) z hΔ rfl
                obtain ⟨l', us, gq, c1, c2, c3, c4, c5, c6, c7, put⟩ := place_lst s1 P1 (Gr.refl s1.le)
                have e1 : u0 = u1 := PathV.fn (ss := []) (v := u0) rfl P1.path
                rw [e1, c1] at P1
                have el : l' = l := by
                  have t := P1.at_.symm.trans P0.at_
                  injection t with t
                  injection t with t
                  exact V.ref.inj t
                subst el
                refine ⟨l', us, v, rfl, rfl, c2, by rw [← LRel.length c3]; exact c, ?_⟩
                have lr := LRel.snoc (P := Own X.K cl 0 F1 H1) (y := d) (v := v) (fy := []) ⟨rv, rfl⟩ c3
                rw [List.append_nil] at lr
                obtain ⟨fp', s2, _⟩ := put (xs ++ [d]) (us ++ [v]) gq lr c4 c5 fun a m => .inl m
                exact w F1 fp' _ .non [] s2 Own.nonn (fun a m => by cases m) List.nodup_nil
              · rw [if_neg c] at w
                exact w.elim
            | some .non, z, w => exact w.elim
            | some (.bl _), z, w => exact w.elim
            | some (.int _), z, w => exact w.elim
            | some (.str _), z, w => exact w.elim
            | some (.tup _), z, w => exact w.elim
            | some (.dic _), z, w => exact w.elim
            | some (.ins _ _), z, w => exact w.elim
            | some (.opq _), z, w => exact w.elim
            | none, z, w => exact w.elim
      | some .non, q, w => exact w.elim
      | some (.bl _), q, w => exact w.elim
      | some (.int _), q, w => exact w.elim
      | some (.str _), q, w => exact w.elim
      | some (.tup _), q, w => exact w.elim
      | some (.dic _), q, w => exact w.elim
      | some (.ins _ _), q, w => exact w.elim
      | some (.opq _), q, w => exact w.elim
      | none, q, w => exact w.elim
end
end DL

namespace DL
open PySem PySem.Spec PyProof.Rows L2
section
variable {X : Cx} {cl : Nat → Addr} {W : WX} {r : Nat} {pos : Pos}
theorem de_dic0 : DE X cl W (.Dict [] [] pos) (r + 1) (cE (.dic [])) := PE.imp pe_dnewK fun σ H Q ⟨F, ρ, l, s, w⟩ => fun p hp => by
  have w' : wpE X.K cl (r + 1) (.ok (.dic [])) F H Q (fun c dx H' => W c dx σ H') := w
  exact w' F _ (.ref p) [p] (Gr.newH _ l hp) ⟨p, [], [], rfl, upd_same, rfl, rfl, rfl⟩ (fun a m => by
    rw [List.mem_singleton.mp m]
    exact ⟨hp, none_of_le l hp⟩) (List.nodup_cons.mpr ⟨fun z => (by cases z), List.nodup_nil⟩)
end
theorem la0 : ∀ (ρ : DEnv) (ds : List D), nilA ρ = .ok ds → ds.length = 0 := fun ρ ds e => by
  cases e
  rfl
theorem la1 {f : DEnv → Out D} {t : DEnv → Out (List D)} {n : Nat} (h : ∀ (ρ : DEnv) (ds : List D), t ρ = .ok ds → ds.length = n) : ∀ (ρ : DEnv) (ds : List D), consA f t ρ = .ok ds → ds.length = n + 1 := fun ρ ds e => by
  unfold consA at e
  cases q : f ρ with
  | ex x => rw [q] at e; cases e
  | bad => rw [q] at e; cases e
  | ok d =>
    rw [q] at e
    cases q2 : t ρ with
    | ex x => rw [q2] at e; cases e
    | bad => rw [q2] at e; cases e
    | ok xs =>
      rw [q2] at e
      cases e
      rw [List.length_cons, h ρ xs q2]

/-! ### list.index -/
def indexF : D → List D → Out D
  | .lst xs, [y] => if flatD y = true ∧ xs.all flatD = true then (match xs.findIdx? (fun z => eqF z y) with
    | some j => .ok (.int j)
    | none => .bad) else .bad
  | _, _ => .bad
section
variable {K : PySem.W.Frag} {cl : Nat → Addr} {r : Nat}
theorem sp_index : MtD K cl "list" (rIndex K) r indexF := fun d ds v vs F H Q EX l q qs w => by
  cases d with
  | lst xs =>
    cases ds with
    | nil => exact w.elim
    | cons y tl =>
      cases tl with
      | cons _ _ => exact w.elim
      | nil =>
        obtain ⟨u, t, e, q1, q2⟩ := qs
        rw [show t = [] from q2] at e
        subst e
        obtain ⟨a, us, rfl, ha, hl⟩ := q
        replace w : wpE K cl r (if flatD y = true ∧ xs.all flatD = true then (match xs.findIdx? (fun z => eqF z y) with
          | some j => .ok (.int j)
          | none => .bad) else .bad) F H Q EX := w
        by_cases c : flatD y = true ∧ xs.all flatD = true
        · rw [if_pos c] at w
          obtain ⟨fy, fx⟩ := c
          have ey := rep_isflat fy q1
          have ex := repL_isflat fx hl
          subst ey ex
          cases z : xs.findIdx? (fun z => eqF z y) with
          | none => rw [z] at w; exact w.elim
          | some j =>
            rw [z] at w
            obtain ⟨hj, h1, h2⟩ := List.findIdx?_eq_some_iff_getElem.mp z
            have fl : ∀ m (h : m < xs.length), flatD xs[m] = true := fun m h => List.all_eq_true.mp fx _ (List.getElem_mem h)
            refine ⟨a, _, _, j, vOf xs[j], rfl, rfl, SqL.of (l _ _ ha), flat_V fy, flat_Vs fx, by rw [List.getElem?_map, List.getElem?_eq_getElem hj] <;> rfl, by rw [eqF_V (fl j hj) fy]; exact h1, fun m z' hm hz => ?_, wpE.val w (Gr.refl l) Own.intt⟩
            have hm' : m < xs.length := Nat.lt_trans hm hj
            rw [List.getElem?_map, List.getElem?_eq_getElem hm'] at hz
            cases hz
            rw [eqF_V (fl m hm') fy]
            have := h2 m hm
            simpa using this
        · rw [if_neg c] at w
          exact w.elim
  | _ => exact (show False by cases ds <;> exact w).elim
theorem sp_dict' {X : Cx} : CallR X (.type "dict") (fun xs H Q => ∃ x, xs = [x] ∧ ∃ (a : Addr) (kvs : List (Key × V)), x = .ref a ∧ Rd H a (.dK kvs) ∧ ∀ p, H p = none → Q (.ref p) (upd H p (.dK kvs))) := fun pins s σ H xs us Q I r h => by
  obtain ⟨x, rfl, a, kvs, rfl, h1, h2⟩ := h
  exact call_dictD pins s σ H _ us Q I r ⟨a, kvs, rfl, h1, h2⟩
end
end DL

namespace DL
open PySem PySem.Spec PyProof.Rows L2
section
variable {X : Cx} {cl : Nat → Addr} {W : WX} {r : Nat} {pos : Pos} {x : Str}
theorem de_gintE {i : Int} (hg : Gl X x) (hm : ∃ t, X.mg x = some (.int i t)) (hd : (x == ("__debug__" : Str)) = false := by decide) : DE X cl W (.Name x pos) r (cE (.int i)) := by
  obtain ⟨t, h⟩ := hm
  exact de_gint hg h ⟨t, rfl⟩ hd
theorem de_gstrE {z : Str} (hg : Gl X x) (hm : ∃ t, X.mg x = some (.str z t)) (hd : (x == ("__debug__" : Str)) = false := by decide) : DE X cl W (.Name x pos) r (cE (.str z)) := by
  obtain ⟨t, h⟩ := hm
  exact de_gstr hg h ⟨t, rfl⟩ hd
end
section
variable {P : Program} {w : World} {K : PySem.W.Frag} {mg : Str → Option Value} {base : Heap} {cl : Nat → Addr}
theorem calP_of {x y : Str} {params : Arguments} {body : List Stmt} {scope : Scope} {N : List Str} {k r : Nat} {b : Nat → Addr → DEnv → SOut} {Δ' : List Nat} (D0 : Def0 K mg x params body scope []) (S : FnScope N [y] scope) (hN : 1 ≤ N.length)
    (hbind : ∀ (kV doc pm : Value) (an : Option Addr) (cdv ct : Value) (us : List Value), us.length = [y].length → bindArgs (PySem.W.fnOf x x params body scope .none kV doc pm an cdv ct) ⟨us, []⟩ = pure ([y].zip us))
    (hb : ∀ (f : Addr) (cdv : Value) (A : Around) (outer : List Env) (s : Shared) (H : Hp) (E : XK) (p : Addr × Obj) (c : Nat), L2H.Hot1 A p → (∀ d, p.2.dict = some d → ∃ o, s.heap.get? d = some o) → L2H.RoomH k (A.deeper (envOfC x scope s.heap.objs.size f cdv)) → p.2.cls = .ref (cl c) →
      DSs (L2H.cxH (L2N.CX P w) P w K mg base N x scope f cdv A outer s H E p) cl (fun c d _ H => E c d H) ⟨r, List.replicate N.length 0, []⟩ (List.replicate N.length 0) (List.replicate N.length 0) body Δ' (b c p.1)) :
    CalP P w K mg base x (k + 1) (spP K cl r (fnP N.length b)) := by
  obtain ⟨f, fd, F, hm⟩ := D0.ex
  exact ⟨f, fd, [y], ok_ofP F S hN hb, hm, F.kp, F.bindsN hbind⟩
end
section
variable {X : Cx} {cl : Nat → Addr} {W : WX} {a b c : Expr} {f g k : DEnv → Out D} {pos : Pos} {o o' : R2} {h h' : D → D → Out D} {op op' : CmpOp}
theorem dt_chain (ho : OpR X (compareOp op) o) (hd : OpD X.K cl o 0 h) (ho' : OpR X (compareOp op') o') (hd' : OpD X.K cl o' 0 h') (ha : DE X cl W a 0 f) (hb : DE X cl W b 0 g) (hc : DE X cl W c 0 k)
    (hm : lastMarks [op, op'] [b, c] = false := by with_unfolding_all rfl) : DT X cl W (.Compare a [op, op'] [b, c] pos) (tstE (chE h h' f g k)) := PT.imp (pt_chain ho ho' ha hb hc hm) fun σ H Q ⟨F, ρ, l, s, w⟩ => by
  refine chain_ok (r := 0) hd hd' σ H _ ⟨F, ρ, l, s, ?_⟩
  unfold tstE at w
  cases q : chE h h' f g k ρ with
  | ex x => rw [q] at w; exact w
  | bad => rw [q] at w; exact w
  | ok d =>
    rw [q] at w
    cases d with
    | bl i =>
      refine wpE.ok0 fun F' H' v g q => ?_
      cases q
      exact ⟨i, rfl, w F' H' g⟩
    | _ => exact w.elim
end
section
variable {X : Cx} {cl : Nat → Addr} {W : WX} {r k : Nat} {x : Str} {p pos : Pos} {h : List D → Out D}
/-- x() -/
theorem de_call0 (C : Cal X.prog X.w X.K X.mg X.base x k (spD X.K cl r h)) (hr : Room k X.A) (hg : Gl X x) (tk : Tk X W) (hdb : (x == ("__debug__" : Str)) = false := by decide) : DE X cl W (.Call (.Name x p) [] [] pos) r (callE h nilA) := by
  obtain ⟨f, fd, ps, F0, hm, hk, hb⟩ := C.ex
  refine ⟨fun pins s σ H Q I ⟨F, ρ, l, sr, w⟩ => ?_⟩
  refine wpAny_Call_Name_kw (ld_glob I hg hm ?_ hdb)
  exact PySem.W.callWith_K0 I.kIn hk (run_fnS (us := []) (vs := []) F0 hr hb (tk σ) I .nil ⟨F, [], l, rfl, w⟩)
end
theorem bootVE : bootBuiltins "ValueError" = some (.type "ValueError") := by decide +kernel
theorem bootLE : bootBuiltins "LookupError" = some (.type "LookupError") := by decide +kernel
end DL

namespace DL
open PySem PySem.Spec PyProof.Rows L2
/-! ### how the further readings reckon: for simp -/
section
variable {f g k : DEnv → Out D} {x : DEnv → EOut} {ρ : DEnv} {s : DEnv → Out (List D)} {p : Plc} {i c : Nat} {n : Str} {op : LOp}
@[simp] theorem r_exprX : exprX x ρ = (match x ρ with | .ok _ ρ' => .next ρ' | .ex e ρ' => .ex e ρ' | .bad => .bad) := rfl
@[simp] theorem r_retX : retX x ρ = (match x ρ with | .ok d ρ' => .ret d ρ' | .ex e ρ' => .ex e ρ' | .bad => .bad) := rfl
@[simp] theorem r_setX : setX i x ρ = (match x ρ with | .ok d ρ' => .next (ρ'.set i (some d)) | .ex e ρ' => .ex e ρ' | .bad => .bad) := rfl
@[simp] theorem r_unpX {tg} : unpX tg x ρ = (match x ρ with | .ok d ρ' => (match bindT tg d ρ' with | some ρ2 => .next ρ2 | none => .bad) | .ex e ρ' => .ex e ρ' | .bad => .bad) := rfl
@[simp] theorem r_mX {Δ} : mX Δ f ρ = (match f (mask Δ ρ) with | .ok d => .ok d ρ | .ex e => .ex e ρ | .bad => .bad) := rfl
@[simp] theorem r_iX {r} : iX r f ρ = (match f ρ with | .ok d => if immAt r d = true then .ok d ρ else .bad | .ex e => .ex e ρ | .bad => .bad) := rfl
@[simp] theorem r_zX : zX f ρ = (match f ρ with | .ok d => .ok d ρ | .ex e => .ex e ρ | .bad => .bad) := rfl
@[simp] theorem r_pvE : pvE i ρ = (match ρ[i]? with | some (some d) => .ok ([], d) | _ => .bad) := rfl
@[simp] theorem r_pfE : pfE c n p ρ = (p ρ).bind (pfS c n) := rfl
@[simp] theorem r_pkE : pkE p f ρ = ((p ρ).bind fun sd => (f ρ).bind (pkS sd)) := rfl
@[simp] theorem r_immE {r} : immE r f ρ = ((f ρ).bind fun d => if immAt r d = true then .ok d else .bad) := rfl
@[simp] theorem r_methE {h} : methE c n f s h ρ = ((f ρ).bind fun d => if isIns c n d = true then (s ρ).bind fun ds => h (d :: ds) else .bad) := rfl
@[simp] theorem r_newE {h} : newE c s h ρ = ((s ρ).bind fun ds => match h (.ins c [] :: ds) with | .ok .non (s0 :: _) => .ok s0 | .ex e _ => .ex e | _ => .bad) := rfl
theorem r_chE {h h'} : chE h h' f g k ρ = ((f ρ).bind fun x => (g ρ).bind fun y => (h x y).bind fun z => match z with | .bl true => (k ρ).bind fun w => h' y w | .bl false => .ok (.bl false) | _ => .bad) := rfl
@[simp] theorem r_callS {ok1 h} : callS i ok1 p s h ρ = (match p ρ with
  | .ok (ss, d1) => if ok1 d1 = true then (match s ρ with
    | .ok ds => (match h (d1 :: ds), ρ[i]? with
      | .ok d (s0 :: _), some (some d0) => .ok d (ρ.set i (some (putP d0 ss s0)))
      | .ex x (s0 :: _), some (some d0) => .ex x (ρ.set i (some (putP d0 ss s0)))
      | _, _ => .bad)
    | .ex x => .ex x ρ
    | .bad => .bad) else .bad
  | .ex x => .ex x ρ
  | .bad => .bad) := rfl
@[simp] theorem r_opL : opL i p s op ρ = (match p ρ with
  | .ok (ss, .lst ds) => (match s ρ with
    | .ok as => (match op ds as, ρ[i]? with
      | some (d, es), some (some d0) => .ok d (ρ.set i (some (putP d0 ss (.lst es))))
      | _, _ => .bad)
    | .ex x => .ex x ρ
    | .bad => .bad)
  | .ex x => .ex x ρ
  | _ => .bad) := rfl
@[simp] theorem r_putE : putE i p f g ρ = (match f ρ with
  | .ok d => (match p ρ with
    | .ok (ss, c) => (match g ρ with
      | .ok kd => (match putC c kd d, ρ[i]? with
        | some c', some (some d0) => .next (ρ.set i (some (putP d0 ss c')))
        | _, _ => .bad)
      | .ex x => .ex x ρ
      | .bad => .bad)
    | .ex x => .ex x ρ
    | .bad => .bad)
  | .ex x => .ex x ρ
  | .bad => .bad) := by unfold putE; rfl
@[simp] theorem r_fldS : fldS c i p n f ρ = (match f ρ with
  | .ok d => (match p ρ with
    | .ok (ss, .ins c' fds) => (match ρ[i]? with
      | some (some d0) => if c' = c ∧ fds.length < 1000 then .next (ρ.set i (some (putP d0 ss (.ins c' (putFD n d fds))))) else .bad
      | _ => .bad)
    | .ex x => .ex x ρ
    | _ => .bad)
  | .ex x => .ex x ρ
  | .bad => .bad) := rfl
@[simp] theorem r_appX : appX i x ρ = (match ρ[i]? with
  | some (some (.lst _)) => (match x ρ with
    | .ok d ρ1 => (match ρ1[i]? with
      | some (some (.lst xs)) => if xs.length < sizeLine then .ok .non (ρ1.set i (some (.lst (xs ++ [d])))) else .bad
      | _ => .bad)
    | .ex x ρ1 => .ex x ρ1
    | .bad => .bad)
  | _ => .bad) := rfl
@[simp] theorem r_raiseS : raiseS c ρ = .ex ⟨c, none⟩ ρ := rfl
@[simp] theorem r_dispE {t : DEnv → Out (List (Key × D))} : dispE t ρ = ((t ρ).bind fun kds => if ndB (kds.map (·.1)) = true ∧ kds.length ≤ 15 then .ok (.dic kds) else .bad) := rfl
@[simp] theorem r_nilP : nilP ρ = .ok [] := rfl
@[simp] theorem r_consP {k : Key} {t : DEnv → Out (List (Key × D))} : consP k f t ρ = ((f ρ).bind fun x => (t ρ).bind fun xs => .ok ((k, x) :: xs)) := rfl
@[simp] theorem r_tryS {isub b hs} : tryS isub b hs ρ = (match b ρ with | .ex x ρ1 => pickS isub hs x ρ1 | o => o) := rfl
@[simp] theorem r_kinE {kin} : kinE kin c ρ = (match kin c with | some s => .ok (.str s) | none => .bad) := rfl
end
@[simp] theorem r_lenAl {xs} : lenA [.lst xs] = .ok (.int xs.length) := rfl
@[simp] theorem r_lenAt {xs} : lenA [.tup xs] = .ok (.int xs.length) := rfl
@[simp] theorem r_lenAd {kds} : lenA [.dic kds] = .ok (.int kds.length) := rfl
@[simp] theorem r_lenAs {z} : lenA [.str z] = if z.length ≤ sizeLine then .ok (.int z.length) else .bad := rfl
@[simp] theorem r_ixAl {xs i} : ixA (.lst xs) (.int i) = (match atI xs i with | some d => .ok d | none => .bad) := rfl
@[simp] theorem r_ixAt {xs i} : ixA (.tup xs) (.int i) = (match atI xs i with | some d => .ok d | none => .bad) := rfl
@[simp] theorem r_ixAs {z i} : ixA (.str z) (.int i) = if z.length ≤ sizeLine then (match atI z.cps.toList i with | some c => .ok (.str ⟨#[c]⟩) | none => .bad) else .bad := rfl
@[simp] theorem r_ixAd {kds s} : ixA (.dic kds) (.str s) = (match kds.lookup (.inr s) with | some d => .ok d | none => .bad) := rfl
@[simp] theorem r_inAl {n x ys} : inA n x (.lst ys) = inDn n x (.lst ys) := by cases x <;> rfl
@[simp] theorem r_inAt {n x ys} : inA n x (.tup ys) = inDn n x (.tup ys) := by cases x <;> rfl
@[simp] theorem r_inAs {n x z} : inA n x (.str z) = inDn n x (.str z) := by cases x <;> rfl
@[simp] theorem r_inAd {n s kds} : inA n (.str s) (.dic kds) = .ok (.bl (if n then !(kds.lookup (.inr s)).isSome else (kds.lookup (.inr s)).isSome)) := rfl
@[simp] theorem r_inDs {n x y} : inDn n (.str x) (.str y) = if x.cps.size = 1 then .ok (.bl (if n then !decide (x.cps.getD 0 0 ∈ y.cps.toList) else decide (x.cps.getD 0 0 ∈ y.cps.toList))) else .bad := rfl
@[simp] theorem r_putP0 {d x} : putP d [] x = x := rfl
@[simp] theorem r_appO {ds d} : appendO ds [d] = if ds.length < sizeLine then some (.non, ds ++ [d]) else none := rfl
@[simp] theorem r_dictF {kds} : dictF (.dic kds) = .ok (.dic kds) := rfl
@[simp] theorem r_putCd {kds s d} : putC (.dic kds) (.str s) d = if kds.length < sizeLine then some (.dic (putKD kds (.inr s) d)) else none := rfl
@[simp] theorem r_putCl {ds j d} : putC (.lst ds) (.int j) d = (ixN ds.length j).map fun m => .lst (ds.set m d) := rfl
@[simp] theorem immA0 {d} : immAt 0 d = imm d := by cases d <;> rfl
@[simp] theorem imm_str {s} : imm (.str s) = true := rfl
@[simp] theorem imm_int {s} : imm (.int s) = true := rfl
@[simp] theorem imm_bl {s} : imm (.bl s) = true := rfl
@[simp] theorem imm_non : imm .non = true := rfl
@[simp] theorem imm_tup {ds} : imm (.tup ds) = immL ds := rfl
@[simp] theorem immL_nil : immL [] = true := rfl
@[simp] theorem immL_cons {d ds} : immL (d :: ds) = (imm d && immL ds) := rfl
@[simp] theorem immL_map {α : Type} {f : α → D} {xs : List α} : immL (xs.map f) = xs.all fun x => imm (f x) := by
  induction xs with
  | nil => rfl
  | cons x xs ih => rw [List.map_cons, immL_cons, ih, List.all_cons]
@[simp] theorem immA_lst {n ds} : immAt (n + 1) (.lst ds) = ds.all (immAt n) := rfl
@[simp] theorem immA_tup {n ds} : immAt (n + 1) (.tup ds) = ds.all (immAt n) := rfl
@[simp] theorem immA_dic {n kds} : immAt (n + 1) (.dic kds) = kds.all fun q => immAt n q.2 := rfl
@[simp] theorem immA_int {n i} : immAt n (.int i) = true := by cases n <;> rfl
@[simp] theorem immA_str {n i} : immAt n (.str i) = true := by cases n <;> rfl
@[simp] theorem immA_non {n} : immAt n .non = true := by cases n <;> rfl
@[simp] theorem immA_bl {n b} : immAt n (.bl b) = true := by cases n <;> rfl
/-! ### defs that change their first parameter -/
theorem fnM_ret {ms : List Nat} {N : Nat} {b : DEnv → SOut} {ds ss : List D} {d : D} {ρ : DEnv} (hn : ds.length = ms.length) (h : b (ds.map some ++ List.replicate (N - ms.length) none) = .ret d ρ) (hb : backP ms ds ρ = some ss) : fnM ms N b ds = .ok d ss := by
  unfold fnM
  rw [if_pos hn, h]
  dsimp only
  rw [hb]
theorem fnM_next {ms : List Nat} {N : Nat} {b : DEnv → SOut} {ds ss : List D} {ρ : DEnv} (hn : ds.length = ms.length) (h : b (ds.map some ++ List.replicate (N - ms.length) none) = .next ρ) (hb : backP ms ds ρ = some ss) : fnM ms N b ds = .ok .non ss := by
  unfold fnM
  rw [if_pos hn, h]
  dsimp only
  rw [hb]
theorem fnM_ex {ms : List Nat} {N : Nat} {b : DEnv → SOut} {ds ss : List D} {x : Exn} {ρ : DEnv} (hn : ds.length = ms.length) (h : b (ds.map some ++ List.replicate (N - ms.length) none) = .ex x ρ) (hb : backP ms ds ρ = some ss) : fnM ms N b ds = .ex x ss := by
  unfold fnM
  rw [if_pos hn, h]
  dsimp only
  rw [hb]
@[simp] theorem backP0 {ρ} : backP [] [] ρ = some [] := by cases ρ <;> rfl
@[simp] theorem backPz {ms d ds o ρ} : backP (0 :: ms) (d :: ds) (o :: ρ) = (backP ms ds ρ).map (d :: ·) := by cases o <;> rfl
@[simp] theorem backPs {n ms d ds d' ρ} : backP ((n + 1) :: ms) (d :: ds) (some d' :: ρ) = (backP ms ds ρ).map (d' :: ·) := rfl
/-! ### truth values that are not known -/
def chK (h' : D → D → Out D) (y : D) (w : Out D) : D → Out D
  | .bl b => if b = true then w.bind (h' y) else .ok (.bl false)
  | _ => .bad
@[simp] theorem chK_bl {h' y w b} : chK h' y w (.bl b) = if b = true then w.bind (h' y) else .ok (.bl false) := rfl
@[simp] theorem r_ch {h h'} {f g k : DEnv → Out D} {ρ : DEnv} : chE h h' f g k ρ = ((f ρ).bind fun x => (g ρ).bind fun y => (h x y).bind fun z => chK h' y (k ρ) z) := by
  rw [r_chE]
  cases f ρ with
  | ok x =>
    cases g ρ with
    | ok y =>
      show (h x y).bind _ = (h x y).bind _
      cases h x y with
      | ok z =>
        cases z with
        | bl b => cases b <;> rfl
        | _ => rfl
      | ex _ => rfl
      | bad => rfl
    | ex _ => rfl
    | bad => rfl
  | ex _ => rfl
  | bad => rfl
def andK (w : Out D) : D → Out D
  | .bl b => if b = true then w else .ok (.bl false)
  | _ => .bad
def orK (w : Out D) : D → Out D
  | .bl b => if b = true then .ok (.bl true) else w
  | _ => .bad
@[simp] theorem andK_bl {w b} : andK w (.bl b) = if b = true then w else .ok (.bl false) := rfl
@[simp] theorem orK_bl {w b} : orK w (.bl b) = if b = true then .ok (.bl true) else w := rfl
@[simp] theorem r_andK {f g : DEnv → Out D} {ρ : DEnv} : andE f g ρ = (f ρ).bind (andK (g ρ)) := by
  rw [r_andE]
  cases f ρ with
  | ok x =>
    cases x with
    | bl b => cases b <;> rfl
    | _ => rfl
  | ex _ => rfl
  | bad => rfl
@[simp] theorem r_orK {f g : DEnv → Out D} {ρ : DEnv} : orE f g ρ = (f ρ).bind (orK (g ρ)) := by
  rw [r_orE]
  cases f ρ with
  | ok x =>
    cases x with
    | bl b => cases b <;> rfl
    | _ => rfl
  | ex _ => rfl
  | bad => rfl
end DL


namespace H37
open PySem PySem.Spec PyProof.Rows L2 DL
/-- classes that are raised -/
def rsd : List Nat := [3, 7, 8, 9, 10, 11, 12, 17, 18]
def sb (a b : Nat) : Bool := [(3, 1), (3, 3), (7, 1), (7, 7), (8, 1), (8, 8), (9, 1), (9, 9), (10, 1), (10, 10), (11, 1), (11, 11), (12, 1), (12, 12), (17, 2), (17, 17), (18, 2), (18, 18)].contains (a, b)
def isub : Sub := fun a b => if rsd.contains a = true ∧ [1, 2].contains b = true then some (sb a b) else none
def s_ValueError (c : Nat) : Bool := [3, 7, 8, 9, 10, 11, 12].contains c
def s_LookupError (c : Nat) : Bool := [17, 18].contains c
def kin : Nat → Option Str
  | 3 => some "BadDay"
  | 7 => some "BadRow"
  | 8 => some "BadName"
  | 9 => some "Taken"
  | 10 => some "Full"
  | 11 => some "Twice"
  | 12 => some "GivenUp"
  | 17 => some "NoLife"
  | 18 => some "NoHolding"
  | _ => none
noncomputable def b_Manor___init__ : DEnv → SOut := (seqS (fldS 0 0 (pvE 0) "folk" (mE [2] (lstE nilA))) (seqS (fldS 0 0 (pvE 0) "lets" (mE [2] (cE (.dic [])))) (seqS (fldS 0 0 (pvE 0) "stands" (mE [2] (cE (.dic [])))) (seqS (fldS 0 0 (pvE 0) "fresh" (mE [2] (cE (.int 1)))) (seqS (fldS 0 0 (pvE 0) "behind" (mE [2] (lstE nilA))) (fldS 0 0 (pvE 0) "ahead" (mE [2] (lstE nilA))))))))
noncomputable def d_Manor___init__ : List D → MOut := fnM [2] 1 b_Manor___init__
noncomputable def b__law_mix : DEnv → SOut := (seqS (setS 1 (op2E modD (op2E addD (op2E mulD (varE 0) (cE (.int 48271))) (cE (.int 11))) (cE (.int 2147483647)))) (seqS (setS 2 (op2E modD (op2E addD (op2E addD (op2E mulD (varE 1) (varE 1)) (op2E mulD (cE (.int 40692)) (varE 1))) (varE 0)) (cE (.int 2147483399)))) (retS (op2E modD (op2E addD (op2E addD (op2E mulD (varE 2) (varE 2)) (op2E mulD (cE (.int 69621)) (varE 2))) (varE 1)) (cE (.int 2147483563))))))
noncomputable def d__law_mix : List D → Out D := fnD 1 3 b__law_mix
noncomputable def b__law_raw : DEnv → SOut := (seqS (setS 2 (op2E addD (op2E mulD (cE (.int 7)) (varE 1)) (cE (.int 3)))) (seqS (ifS (tstE (op2E gtD (callE lenA (consA (varE 0) nilA)) (cE (.int 0)))) (setS 2 (op2E addD (op2E ixA (varE 0) (op2E modD (varE 1) (callE lenA (consA (varE 0) nilA)))) (op2E mulD (cE (.int 9973)) (op2E divD (varE 1) (callE lenA (consA (varE 0) nilA)))))) nextS) (seqS (ifS (andT (tstE (op2E ltD (varE 1) (callE lenA (consA (varE 0) nilA)))) (tstE (op2E geD (varE 2) (op2E powD (cE (.int 10)) (cE (.int 18)))))) (retS (op2E subD (varE 2) (op2E powD (cE (.int 10)) (cE (.int 18))))) nextS) (seqS (setS 3 (cE (.int 0))) (seqS (forS (.nm 4) (itA rng1 (consA (cE (.int 40)) nilA)) (setS 3 (op2E addD (op2E mulD (varE 3) (cE (.int 2147483563))) (callE d__law_mix (consA (op2E addD (op2E addD (varE 2) (op2E mulD (cE (.int 1009)) (varE 1))) (op2E mulD (cE (.int 7919)) (varE 4))) nilA))))) (retS (varE 3)))))))
noncomputable def d__law_raw : List D → Out D := fnD 2 5 b__law_raw
noncomputable def b__law_digits : DEnv → SOut := (seqS (setS 3 (callE d__law_raw (consA (varE 0) (consA (varE 1) nilA)))) (seqS (setS 4 (lstE nilA)) (seqS (forS (.nm 5) (mE [0, 0, 0, 0, 1, 0] (itE (varE 2))) (seqS (exprX (opL 4 (pvE 4) (consA (mE [0, 0, 0, 0, 1, 0] (op2E modD (varE 3) (varE 5))) nilA) appendO)) (setS 3 (mE [0, 0, 0, 0, 1, 0] (op2E divD (varE 3) (varE 5)))))) (retS (varE 4)))))
noncomputable def d__law_digits : List D → Out D := fnD 3 6 b__law_digits
noncomputable def b__law_new : DEnv → SOut := (retS (dispE (consP (.inr "folk") (lstE nilA) (consP (.inr "lets") (cE (.dic [])) (consP (.inr "stands") (cE (.dic [])) (consP (.inr "fresh") (cE (.int 1)) nilP))))))
noncomputable def d__law_new : List D → Out D := fnD 0 0 b__law_new
noncomputable def b__law_bad_holding : DEnv → SOut := (seqS (ifS (tstE (op2E (inA true) (op2E ixA (varE 1) (cE (.int 1))) (op2E ixA (varE 0) (cE (.str "lets"))))) (retS (cE (.str "NoHolding"))) nextS) (seqS (unpS (.tp [2, 3, 4]) (op2E ixA (op2E ixA (varE 0) (cE (.str "lets"))) (op2E ixA (varE 1) (cE (.int 1))))) (seqS (ifS (tstE (op2E eqD (op2E ixA (varE 1) (cE (.int 0))) (cE (.str "give_up")))) (seqS (ifS (notT (tstE (chE ltD leD (varE 3) (op2E ixA (varE 1) (cE (.int 2))) (cE (.int 9999))))) (retS (cE (.str "BadDay"))) nextS) (retS (ifE (tstE (op2E isntD (varE 4) (cE .non))) (cE (.str "GivenUp")) (cE (.str ""))))) nextS) (seqS (ifS (andT (tstE (op2E eqD (op2E ixA (varE 1) (cE (.int 0))) (cE (.str "change")))) (notT (tstE (chE leD ltD (cE (.int 0)) (op2E ixA (varE 1) (cE (.int 2))) (callE lenA (consA (varE 2) nilA)))))) (retS (cE (.str "NoPlace"))) nextS) (seqS (ifS (tstE (op2E (inA true) (op2E ixA (varE 1) (un1E negD (cE (.int 1)))) (op2E ixA (varE 0) (cE (.str "folk"))))) (retS (cE (.str "NoLife"))) nextS) (seqS (ifS (tstE (op2E isntD (varE 4) (cE .non))) (retS (cE (.str "GivenUp"))) nextS) (seqS (ifS (tstE (op2E (inA false) (op2E ixA (varE 1) (un1E negD (cE (.int 1)))) (varE 2))) (retS (cE (.str "Twice"))) nextS) (seqS (ifS (tstE (op2E eqD (op2E ixA (varE 1) (cE (.int 0))) (cE (.str "put_in")))) (retS (ifE (tstE (op2E gtD (callE lenA (consA (varE 2) nilA)) (cE (.int 3)))) (cE (.str "Full")) (cE (.str "")))) nextS) (retS (ifE badE (cE (.str "Held")) (cE (.str ""))))))))))))
noncomputable def d__law_bad_holding : List D → Out D := fnD 2 5 b__law_bad_holding
noncomputable def b__law_name_ok : DEnv → SOut := (retS (andE (chE leD leD (cE (.int 1)) (callE lenA (consA (varE 0) nilA)) (cE (.int 8))) (callE (one1 allF) (consA (lcE (itE (varE 0)) [1] (.nm 1) yesT (op2E (inA false) (varE 1) (cE (.str "abcdefghijklmnopqrstuvwxyz")))) nilA))))
noncomputable def d__law_name_ok : List D → Out D := fnD 1 2 b__law_name_ok
noncomputable def b__law_bad_let : DEnv → SOut := (seqS (ifS (notT (tstE (callE d__law_name_ok (consA (op2E ixA (varE 1) (cE (.int 1))) nilA)))) (retS (cE (.str "BadName"))) nextS) (seqS (ifS (tstE (op2E (inA false) (op2E ixA (varE 1) (cE (.int 1))) (op2E ixA (varE 0) (cE (.str "lets"))))) (retS (cE (.str "Taken"))) nextS) (seqS (ifS (orT (notT (tstE (chE leD leD (cE (.int 1)) (callE lenA (consA (op2E ixA (varE 1) (cE (.int 2))) nilA)) (cE (.int 4))))) (tstE (op2E ltD (un1E lenSetD (op2E ixA (varE 1) (cE (.int 2)))) (callE lenA (consA (op2E ixA (varE 1) (cE (.int 2))) nilA))))) (retS (cE (.str "BadRow"))) nextS) (seqS (ifS (notT (tstE (callE (one1 allF) (consA (lcE (itE (op2E ixA (varE 1) (cE (.int 2)))) [2] (.nm 2) yesT (op2E (inA false) (varE 2) (op2E ixA (varE 0) (cE (.str "folk"))))) nilA)))) (retS (cE (.str "NoLife"))) nextS) (seqS (ifS (notT (tstE (chE leD leD (cE (.int 0)) (op2E ixA (varE 1) (cE (.int 3))) (cE (.int 9999))))) (retS (cE (.str "BadDay"))) nextS) (retS (ifE (tstE (op2E gtD (callE lenA (consA (op2E ixA (varE 0) (cE (.str "lets"))) nilA)) (cE (.int 7)))) (cE (.str "Full")) (cE (.str "")))))))))
noncomputable def d__law_bad_let : List D → Out D := fnD 2 3 b__law_bad_let
noncomputable def b__law_bad : DEnv → SOut := (seqS (ifS (tstE (op2E eqD (op2E ixA (varE 1) (cE (.int 0))) (cE (.str "life")))) (seqS (ifS (notT (tstE (callE d__law_name_ok (consA (op2E ixA (varE 1) (cE (.int 1))) nilA)))) (retS (cE (.str "BadName"))) nextS) (seqS (ifS (tstE (op2E (inA false) (op2E ixA (varE 1) (cE (.int 1))) (op2E ixA (varE 0) (cE (.str "folk"))))) (retS (cE (.str "Taken"))) nextS) (retS (ifE (tstE (op2E gtD (callE lenA (consA (op2E ixA (varE 0) (cE (.str "folk"))) nilA)) (cE (.int 9)))) (cE (.str "Full")) (cE (.str "")))))) nextS) (seqS (ifS (tstE (op2E eqD (op2E ixA (varE 1) (cE (.int 0))) (cE (.str "let")))) (retS (callE d__law_bad_let (consA (varE 0) (consA (varE 1) nilA)))) nextS) (seqS (ifS (tstE (op2E (inA false) (op2E ixA (varE 1) (cE (.int 0))) (tupE (consA (cE (.str "put_in")) (consA (cE (.str "change")) (consA (cE (.str "give_up")) nilA)))))) (retS (callE d__law_bad_holding (consA (varE 0) (consA (varE 1) nilA)))) nextS) (seqS (ifS badE (retS (ifE (tstE (op2E (inA false) (op2E ixA (varE 1) (cE (.int 1))) (op2E ixA (varE 0) (cE (.str "stands"))))) (cE (.str "")) (cE (.str "NoPresentment")))) nextS) badS))))
noncomputable def d__law_bad : List D → Out D := fnD 2 2 b__law_bad
noncomputable def b__law_copy : DEnv → SOut := (retS (dispE (consP (.inr "folk") (callE (one1 listF) (consA (op2E ixA (varE 0) (cE (.str "folk"))) nilA)) (consP (.inr "lets") (callE (one1 dictF) (consA (op2E ixA (varE 0) (cE (.str "lets"))) nilA)) (consP (.inr "stands") (callE (one1 dictF) (consA (op2E ixA (varE 0) (cE (.str "stands"))) nilA)) (consP (.inr "fresh") (immE 0 (op2E ixA (varE 0) (cE (.str "fresh")))) nilP))))))
noncomputable def d__law_copy : List D → Out D := fnD 1 1 b__law_copy
noncomputable def b__law_done : DEnv → SOut := (seqS (setS 2 (callE d__law_copy (consA (varE 0) nilA))) (seqS (ifS (tstE (op2E eqD (op2E ixA (varE 1) (cE (.int 0))) (cE (.str "life")))) (exprX (opL 2 (pkE (pvE 2) (mE [0, 0, 2, 0, 0, 0] (cE (.str "folk")))) (consA (mE [0, 0, 2, 0, 0, 0] (op2E ixA (varE 1) (cE (.int 1)))) nilA) appendO)) (ifS (tstE (op2E eqD (op2E ixA (varE 1) (cE (.int 0))) (cE (.str "let")))) (putE 2 (pkE (pvE 2) (mE [0, 0, 2, 0, 0, 0] (cE (.str "lets")))) (mE [0, 0, 2, 0, 0, 0] (tupE (consA (op2E ixA (varE 1) (cE (.int 2))) (consA (op2E ixA (varE 1) (cE (.int 3))) (consA (cE .non) nilA))))) (mE [0, 0, 2, 0, 0, 0] (op2E ixA (varE 1) (cE (.int 1))))) (ifS (tstE (op2E eqD (op2E ixA (varE 1) (cE (.int 0))) (cE (.str "strike")))) badS (ifS (tstE (op2E eqD (op2E ixA (varE 1) (cE (.int 0))) (cE (.str "right")))) badS (ifS (tstE (op2E eqD (op2E ixA (varE 1) (cE (.int 0))) (cE (.str "present")))) badS (seqS (unpX (.tp [3, 4, 5]) (iX 0 (op2E ixA (op2E ixA (varE 2) (cE (.str "lets"))) (op2E ixA (varE 1) (cE (.int 1)))))) (ifS (tstE (op2E eqD (op2E ixA (varE 1) (cE (.int 0))) (cE (.str "put_in")))) (putE 2 (pkE (pvE 2) (mE [0, 0, 2, 0, 0, 0] (cE (.str "lets")))) (mE [0, 0, 2, 0, 0, 0] (tupE (consA (op2E addD (varE 3) (tupE (consA (op2E ixA (varE 1) (cE (.int 2))) nilA))) (consA (varE 4) (consA (varE 5) nilA))))) (mE [0, 0, 2, 0, 0, 0] (op2E ixA (varE 1) (cE (.int 1))))) (ifS (tstE (op2E eqD (op2E ixA (varE 1) (cE (.int 0))) (cE (.str "change")))) (putE 2 (pkE (pvE 2) (mE [0, 0, 2, 0, 0, 0] (cE (.str "lets")))) (mE [0, 0, 2, 0, 0, 0] (tupE (consA (op2E addD (op2E addD (slE (varE 3) noO (someO (op2E ixA (varE 1) (cE (.int 2))))) (tupE (consA (op2E ixA (varE 1) (cE (.int 3))) nilA))) (slE (varE 3) (someO (op2E addD (op2E ixA (varE 1) (cE (.int 2))) (cE (.int 1)))) noO)) (consA (varE 4) (consA (varE 5) nilA))))) (mE [0, 0, 2, 0, 0, 0] (op2E ixA (varE 1) (cE (.int 1))))) (putE 2 (pkE (pvE 2) (mE [0, 0, 2, 0, 0, 0] (cE (.str "lets")))) (mE [0, 0, 2, 0, 0, 0] (tupE (consA (varE 3) (consA (varE 4) (consA (op2E ixA (varE 1) (cE (.int 2))) nilA))))) (mE [0, 0, 2, 0, 0, 0] (op2E ixA (varE 1) (cE (.int 1))))))))))))) (retS (varE 2))))
noncomputable def d__law_done : List D → Out D := fnD 2 6 b__law_done
noncomputable def b__law_same (rec0 : List D → Out D) : DEnv → SOut := (seqS (ifS (tstE (op2E isD (varE 1) (cE .non))) (retS (op2E isD (varE 0) (cE .non))) nextS) (seqS (ifS (orT (tstE (un1E (isiD .list) (varE 1))) (tstE (un1E (isiD .tuple) (varE 1)))) (seqS (ifS (orT (tstE (op2E neD (un1E (isiD .list) (varE 0)) (un1E (isiD .list) (varE 1)))) (tstE (op2E neD (un1E (isiD .tuple) (varE 0)) (un1E (isiD .tuple) (varE 1))))) (retS (cE (.bl false))) nextS) (retS (andE (op2E eqD (callE lenA (consA (varE 0) nilA)) (callE lenA (consA (varE 1) nilA))) (callE (one1 allF) (consA (lcE (itA zipF (consA (varE 0) (consA (varE 1) nilA))) [2, 3] (.tp [2, 3]) yesT (callE rec0 (consA (varE 2) (consA (varE 3) nilA)))) nilA))))) nextS) (seqS (ifS (orT (tstE (op2E neD (un1E (isiD .bool) (varE 0)) (un1E (isiD .bool) (varE 1)))) (tstE (op2E neD (un1E (isiD .int) (varE 0)) (un1E (isiD .int) (varE 1))))) (retS (cE (.bl false))) nextS) (retS (andE (op2E eqD (un1E (isiD .str) (varE 0)) (un1E (isiD .str) (varE 1))) (op2E eqD (varE 0) (varE 1)))))))
noncomputable def d__law_same : Nat → List D → Out D
  | 0 => fun _ => .bad
  | n + 1 => fnD 2 4 (b__law_same (d__law_same n))
noncomputable def b_Manor_state : DEnv → SOut := (retS (tupE (consA (callE (one1 listF) (consA (un1E (fldF 0 "folk") (varE 0)) nilA)) (consA (callE (one1 dictF) (consA (un1E (fldF 0 "lets") (varE 0)) nilA)) (consA (callE (one1 dictF) (consA (un1E (fldF 0 "stands") (varE 0)) nilA)) (consA (immE 0 (un1E (fldF 0 "fresh") (varE 0))) nilA))))))
noncomputable def d_Manor_state : List D → Out D := fnD 1 1 b_Manor_state
noncomputable def b_Manor_note : DEnv → SOut := (seqS (exprX (opL 0 (pfE 0 "behind" (pvE 0)) (consA (immE 3 (tupE (consA (immE 0 (varE 1)) (consA (methE 0 "state" (varE 0) nilA d_Manor_state) nilA)))) nilA) appendO)) (fldS 0 0 (pvE 0) "ahead" (mE [2, 0] (lstE nilA))))
noncomputable def d_Manor_note : List D → MOut := fnM [2, 0] 2 b_Manor_note
noncomputable def b_is_day : DEnv → SOut := (retS (chE leD leD (cE (.int 0)) (varE 0) (cE (.int 9999))))
noncomputable def d_is_day : List D → Out D := fnD 1 1 b_is_day
noncomputable def b_need_holding : DEnv → SOut := (seqS (ifS (tstE (op2E (inA true) (varE 1) (varE 0))) (raiseS 18) nextS) (retS (op2E ixA (varE 0) (varE 1))))
noncomputable def d_need_holding : List D → Out D := fnD 2 2 b_need_holding
noncomputable def b_need_open : DEnv → SOut := (ifS (tstE (op2E isntD (varE 0) (cE .non))) (raiseS 12) nextS)
noncomputable def d_need_open : List D → Out D := fnD 1 1 b_need_open
noncomputable def b_Manor_give_up : DEnv → SOut := (seqS (unpX (.tp [3, 4, 5]) (iX 0 (callE d_need_holding (consA (un1E (fldF 0 "lets") (varE 0)) (consA (varE 1) nilA))))) (seqS (ifS (orT (notT (tstE (callE d_is_day (consA (varE 2) nilA)))) (tstE (op2E leD (varE 2) (varE 4)))) (raiseS 3) nextS) (seqS (exprX (mX [2, 0, 0, 0, 0, 0] (callE d_need_open (consA (varE 5) nilA)))) (seqS (exprX (callS 0 (isIns 0 "note") (pvE 0) (consA (mE [2, 0, 0, 0, 0, 0] (tupE (consA (cE (.str "give_up")) (consA (varE 1) (consA (varE 2) nilA))))) nilA) d_Manor_note)) (putE 0 (pfE 0 "lets" (pvE 0)) (mE [2, 0, 0, 0, 0, 0] (tupE (consA (varE 3) (consA (varE 4) (consA (varE 2) nilA))))) (mE [2, 0, 0, 0, 0, 0] (varE 1)))))))
noncomputable def d_Manor_give_up : List D → MOut := fnM [2, 0, 0] 6 b_Manor_give_up
noncomputable def b_need_day : DEnv → SOut := (ifS (notT (tstE (callE d_is_day (consA (varE 0) nilA)))) (raiseS 3) nextS)
noncomputable def d_need_day : List D → Out D := fnD 1 1 b_need_day
noncomputable def b_need_life : DEnv → SOut := (seqS (ifS (tstE (op2E (inA true) (varE 1) (varE 0))) (raiseS 17) nextS) (retS (mthE kLst indexF (varE 0) (consA (varE 1) nilA))))
noncomputable def d_need_life : List D → Out D := fnD 2 2 b_need_life
noncomputable def b_need_lives : DEnv → SOut := (seqS (ifS (orT (notT (tstE (chE leD leD (cE (.int 1)) (callE lenA (consA (varE 1) nilA)) (cE (.int 4))))) (tstE (op2E ltD (un1E lenSetD (varE 1)) (callE lenA (consA (varE 1) nilA))))) (raiseS 7) nextS) (forS (.nm 2) (itE (varE 1)) (exprX (zX (callE d_need_life (consA (varE 0) (consA (varE 2) nilA)))))))
noncomputable def d_need_lives : List D → Out D := fnD 2 3 b_need_lives
noncomputable def b_need_name : DEnv → SOut := (seqS (ifS (orT (notT (tstE (chE leD leD (cE (.int 1)) (callE lenA (consA (varE 0) nilA)) (cE (.int 8))))) (notT (tstE (callE (one1 allF) (consA (lcE (itE (varE 0)) [2] (.nm 2) yesT (op2E (inA false) (varE 2) (cE (.str "abcdefghijklmnopqrstuvwxyz")))) nilA))))) (raiseS 8) nextS) (ifS (tstE (op2E (inA false) (varE 0) (varE 1))) (raiseS 9) nextS))
noncomputable def d_need_name : List D → Out D := fnD 2 3 b_need_name
noncomputable def b_need_room : DEnv → SOut := (ifS (tstE (op2E geD (callE lenA (consA (varE 0) nilA)) (varE 1))) (raiseS 10) nextS)
noncomputable def d_need_room : List D → Out D := fnD 2 2 b_need_room
noncomputable def b_room_for_holding : DEnv → SOut := (exprX (zX (callE d_need_room (consA (varE 0) (consA (cE (.int 8)) nilA)))))
noncomputable def d_room_for_holding : List D → Out D := fnD 1 1 b_room_for_holding
noncomputable def b_Manor_let : DEnv → SOut := (seqS (exprX (iX 0 (callE d_need_name (consA (varE 1) (consA (un1E (fldF 0 "lets") (varE 0)) nilA))))) (seqS (exprX (iX 0 (callE d_need_lives (consA (un1E (fldF 0 "folk") (varE 0)) (consA (varE 2) nilA))))) (seqS (exprX (mX [2, 0, 0, 0] (callE d_need_day (consA (varE 3) nilA)))) (seqS (exprX (iX 0 (callE d_room_for_holding (consA (un1E (fldF 0 "lets") (varE 0)) nilA)))) (seqS (exprX (callS 0 (isIns 0 "note") (pvE 0) (consA (mE [2, 0, 0, 0] (tupE (consA (cE (.str "let")) (consA (varE 1) (consA (callE (one1 tupleF) (consA (varE 2) nilA)) (consA (varE 3) nilA)))))) nilA) d_Manor_note)) (putE 0 (pfE 0 "lets" (pvE 0)) (mE [2, 0, 0, 0] (tupE (consA (callE (one1 tupleF) (consA (varE 2) nilA)) (consA (varE 3) (consA (cE .non) nilA))))) (mE [2, 0, 0, 0] (varE 1))))))))
noncomputable def d_Manor_let : List D → MOut := fnM [2, 0, 0, 0] 4 b_Manor_let
noncomputable def b_room_for_life : DEnv → SOut := (exprX (zX (callE d_need_room (consA (varE 0) (consA (cE (.int 10)) nilA)))))
noncomputable def d_room_for_life : List D → Out D := fnD 1 1 b_room_for_life
noncomputable def b_Manor_life : DEnv → SOut := (seqS (exprX (iX 0 (callE d_need_name (consA (varE 1) (consA (un1E (fldF 0 "folk") (varE 0)) nilA))))) (seqS (exprX (iX 0 (callE d_room_for_life (consA (un1E (fldF 0 "folk") (varE 0)) nilA)))) (seqS (exprX (callS 0 (isIns 0 "note") (pvE 0) (consA (mE [2, 0] (tupE (consA (cE (.str "life")) (consA (varE 1) nilA)))) nilA) d_Manor_note)) (exprX (opL 0 (pfE 0 "folk" (pvE 0)) (consA (mE [2, 0] (varE 1)) nilA) appendO)))))
noncomputable def d_Manor_life : List D → MOut := fnM [2, 0] 2 b_Manor_life
noncomputable def b_need_unlike : DEnv → SOut := (ifS (tstE (op2E (inA false) (varE 1) (varE 0))) (raiseS 11) nextS)
noncomputable def d_need_unlike : List D → Out D := fnD 2 2 b_need_unlike
noncomputable def b_room_in_row : DEnv → SOut := (exprX (zX (callE d_need_room (consA (varE 0) (consA (cE (.int 4)) nilA)))))
noncomputable def d_room_in_row : List D → Out D := fnD 1 1 b_room_in_row
noncomputable def b_Manor_put_in : DEnv → SOut := (seqS (unpX (.tp [3, 4, 5]) (iX 0 (callE d_need_holding (consA (un1E (fldF 0 "lets") (varE 0)) (consA (varE 1) nilA))))) (seqS (exprX (iX 0 (callE d_need_life (consA (un1E (fldF 0 "folk") (varE 0)) (consA (varE 2) nilA))))) (seqS (exprX (mX [2, 0, 0, 0, 0, 0] (callE d_need_open (consA (varE 5) nilA)))) (seqS (exprX (mX [2, 0, 0, 0, 0, 0] (callE d_need_unlike (consA (varE 3) (consA (varE 2) nilA))))) (seqS (exprX (mX [2, 0, 0, 0, 0, 0] (callE d_room_in_row (consA (varE 3) nilA)))) (seqS (exprX (callS 0 (isIns 0 "note") (pvE 0) (consA (mE [2, 0, 0, 0, 0, 0] (tupE (consA (cE (.str "put_in")) (consA (varE 1) (consA (varE 2) nilA))))) nilA) d_Manor_note)) (putE 0 (pfE 0 "lets" (pvE 0)) (mE [2, 0, 0, 0, 0, 0] (tupE (consA (op2E addD (varE 3) (tupE (consA (varE 2) nilA))) (consA (varE 4) (consA (varE 5) nilA))))) (mE [2, 0, 0, 0, 0, 0] (varE 1)))))))))
noncomputable def d_Manor_put_in : List D → MOut := fnM [2, 0, 0] 6 b_Manor_put_in
noncomputable def b_Manor_do : DEnv → SOut := (seqS (setS 2 (mE [2, 0, 0] (op2E ixA (varE 1) (cE (.int 0))))) (seqS (ifS (tstE (op2E eqD (varE 2) (cE (.str "life")))) (retX (callS 0 (isIns 0 "life") (pvE 0) (consA (mE [2, 0, 0] (op2E ixA (varE 1) (cE (.int 1)))) nilA) d_Manor_life)) nextS) (seqS (ifS (tstE (op2E eqD (varE 2) (cE (.str "let")))) (retX (callS 0 (isIns 0 "let") (pvE 0) (consA (mE [2, 0, 0] (op2E ixA (varE 1) (cE (.int 1)))) (consA (mE [2, 0, 0] (callE (one1 listF) (consA (op2E ixA (varE 1) (cE (.int 2))) nilA))) (consA (mE [2, 0, 0] (op2E ixA (varE 1) (cE (.int 3)))) nilA))) d_Manor_let)) nextS) (seqS (ifS (tstE (op2E eqD (varE 2) (cE (.str "put_in")))) (retX (callS 0 (isIns 0 "put_in") (pvE 0) (consA (mE [2, 0, 0] (op2E ixA (varE 1) (cE (.int 1)))) (consA (mE [2, 0, 0] (op2E ixA (varE 1) (cE (.int 2)))) nilA)) d_Manor_put_in)) nextS) (seqS (ifS (tstE (op2E eqD (varE 2) (cE (.str "change")))) badS nextS) (seqS (ifS (tstE (op2E eqD (varE 2) (cE (.str "give_up")))) (retX (callS 0 (isIns 0 "give_up") (pvE 0) (consA (mE [2, 0, 0] (op2E ixA (varE 1) (cE (.int 1)))) (consA (mE [2, 0, 0] (op2E ixA (varE 1) (cE (.int 2)))) nilA)) d_Manor_give_up)) nextS) (seqS (ifS (tstE (op2E eqD (varE 2) (cE (.str "present")))) badS nextS) (seqS (ifS (tstE (op2E eqD (varE 2) (cE (.str "right")))) badS nextS) badS))))))))
noncomputable def d_Manor_do : List D → MOut := fnM [2, 0] 3 b_Manor_do
noncomputable def b__law_by : DEnv → SOut := (seqS (setS 2 (mE [2, 0, 0] (op2E ixA (varE 1) (cE (.int 0))))) (agreeS (fun ρ => coinOk ((varE 1) ρ)) (seqS (retX (callS 0 (isIns 0 "do") (pvE 0) (consA (mE [2, 0, 0] (varE 1)) nilA) d_Manor_do)) (seqS (ifS (tstE (op2E eqD (varE 2) (cE (.str "life")))) (retX (callS 0 (isIns 0 "life") (pvE 0) (consA (mE [2, 0, 0] (op2E ixA (varE 1) (cE (.int 1)))) nilA) d_Manor_life)) nextS) (seqS (ifS (tstE (op2E eqD (varE 2) (cE (.str "let")))) (retX (callS 0 (isIns 0 "let") (pvE 0) (consA (mE [2, 0, 0] (op2E ixA (varE 1) (cE (.int 1)))) (consA (mE [2, 0, 0] (callE (one1 listF) (consA (op2E ixA (varE 1) (cE (.int 2))) nilA))) (consA (mE [2, 0, 0] (op2E ixA (varE 1) (cE (.int 3)))) nilA))) d_Manor_let)) nextS) (seqS (ifS (tstE (op2E eqD (varE 2) (cE (.str "put_in")))) (retX (callS 0 (isIns 0 "put_in") (pvE 0) (consA (mE [2, 0, 0] (op2E ixA (varE 1) (cE (.int 1)))) (consA (mE [2, 0, 0] (op2E ixA (varE 1) (cE (.int 2)))) nilA)) d_Manor_put_in)) nextS) (seqS (ifS (tstE (op2E eqD (varE 2) (cE (.str "change")))) badS nextS) (seqS (ifS (tstE (op2E eqD (varE 2) (cE (.str "give_up")))) (retX (callS 0 (isIns 0 "give_up") (pvE 0) (consA (mE [2, 0, 0] (op2E ixA (varE 1) (cE (.int 1)))) (consA (mE [2, 0, 0] (op2E ixA (varE 1) (cE (.int 2)))) nilA)) d_Manor_give_up)) nextS) (seqS (ifS (tstE (op2E eqD (varE 2) (cE (.str "present")))) badS nextS) badS))))))) (seqS (ifS (tstE (op2E eqD (varE 2) (cE (.str "life")))) (retX (callS 0 (isIns 0 "life") (pvE 0) (consA (mE [2, 0, 0] (op2E ixA (varE 1) (cE (.int 1)))) nilA) d_Manor_life)) nextS) (seqS (ifS (tstE (op2E eqD (varE 2) (cE (.str "let")))) (retX (callS 0 (isIns 0 "let") (pvE 0) (consA (mE [2, 0, 0] (op2E ixA (varE 1) (cE (.int 1)))) (consA (mE [2, 0, 0] (callE (one1 listF) (consA (op2E ixA (varE 1) (cE (.int 2))) nilA))) (consA (mE [2, 0, 0] (op2E ixA (varE 1) (cE (.int 3)))) nilA))) d_Manor_let)) nextS) (seqS (ifS (tstE (op2E eqD (varE 2) (cE (.str "put_in")))) (retX (callS 0 (isIns 0 "put_in") (pvE 0) (consA (mE [2, 0, 0] (op2E ixA (varE 1) (cE (.int 1)))) (consA (mE [2, 0, 0] (op2E ixA (varE 1) (cE (.int 2)))) nilA)) d_Manor_put_in)) nextS) (seqS (ifS (tstE (op2E eqD (varE 2) (cE (.str "change")))) badS nextS) (seqS (ifS (tstE (op2E eqD (varE 2) (cE (.str "give_up")))) (retX (callS 0 (isIns 0 "give_up") (pvE 0) (consA (mE [2, 0, 0] (op2E ixA (varE 1) (cE (.int 1)))) (consA (mE [2, 0, 0] (op2E ixA (varE 1) (cE (.int 2)))) nilA)) d_Manor_give_up)) nextS) (seqS (ifS (tstE (op2E eqD (varE 2) (cE (.str "present")))) badS nextS) badS))))))))
noncomputable def d__law_by : List D → MOut := fnM [2, 0] 3 b__law_by
noncomputable def b0_kin (c : Nat) (a : Addr) : DEnv → SOut := (seqS (setS 1 (lstE (consA (isPE 0 a (sb c 3)) (consA (isPE 0 a (sb c 4)) (consA (isPE 0 a (sb c 5)) (consA (isPE 0 a (sb c 6)) nilA)))))) (seqS (setS 1 (op2E addD (varE 1) (lstE (consA (isPE 0 a (sb c 7)) (consA (isPE 0 a (sb c 8)) (consA (isPE 0 a (sb c 9)) (consA (isPE 0 a (sb c 10)) nilA))))))) (seqS (setS 1 (op2E addD (varE 1) (lstE (consA (isPE 0 a (sb c 11)) (consA (isPE 0 a (sb c 12)) (consA (isPE 0 a (sb c 13)) (consA (isPE 0 a (sb c 14)) nilA))))))) (seqS (setS 1 (op2E addD (varE 1) (lstE (consA (isPE 0 a (sb c 15)) (consA (isPE 0 a (sb c 16)) (consA (isPE 0 a (sb c 17)) nilA)))))) (seqS (setS 1 (op2E addD (varE 1) (lstE (consA (isPE 0 a (sb c 18)) (consA (isPE 0 a (sb c 19)) (consA (isPE 0 a (sb c 20)) nilA)))))) (seqS (setS 1 (op2E addD (varE 1) (lstE (consA (isPE 0 a (sb c 21)) (consA (andE (notE (isPE 0 a (s_ValueError c))) (notE (isPE 0 a (s_LookupError c)))) nilA))))) (seqS (setS 2 (lstE (consA (cE (.str "BadDay")) (consA (cE (.str "BadCount")) (consA (cE (.str "BadTie")) (consA (cE (.str "CantBe")) (consA (cE (.str "BadRow")) (consA (cE (.str "BadName")) (consA (cE (.str "Taken")) (consA (cE (.str "Full")) (consA (cE (.str "Twice")) (consA (cE (.str "GivenUp")) nilA)))))))))))) (seqS (setS 2 (op2E addD (varE 2) (lstE (consA (cE (.str "Held")) (consA (cE (.str "Idle")) (consA (cE (.str "Against")) (consA (cE (.str "BadText")) (consA (cE (.str "NoLife")) (consA (cE (.str "NoHolding")) (consA (cE (.str "NoPresentment")) (consA (cE (.str "NoPlace")) nilA))))))))))) (seqS (setS 2 (op2E addD (varE 2) (lstE (consA (cE (.str "Nothing")) (consA (cE (.str "odd")) nilA))))) (retS (mthE kStr joinF (cE (.str "")) (consA (lcE (itA zipY (consA (varE 2) (consA (varE 1) nilA))) [3, 4] (.tp [3, 4]) (tstE (varE 4)) (varE 3)) nilA))))))))))))
noncomputable def b_kin (c : Nat) (a : Addr) : DEnv → SOut := if rsd.contains c = true then b0_kin c a else badS
noncomputable def h_kin : Nat → Addr → Out D := fnP 5 b_kin
noncomputable def b__law_tried : DEnv → SOut := (seqS (setS 2 (mE [2, 0, 0, 0, 0] (cE .non))) (seqS (setS 3 (mE [2, 0, 0, 0, 0] (cE (.str "")))) (seqS (tryS isub (setX 2 (callS 0 (fun _ => true) (pvE 0) (consA (mE [2, 0, 0, 0, 0] (varE 1)) nilA) d__law_by)) [(1, some 4, fun x => setS 3 (kinE kin x.c)), (2, some 4, fun x => setS 3 (kinE kin x.c))]) (retX (mX [2, 0, 0, 0, 0] (tupE (consA (varE 3) (consA (varE 2) nilA))))))))
noncomputable def d__law_tried : List D → MOut := fnM [2, 0] 5 b__law_tried
noncomputable def b__law_play : DEnv → SOut := (seqS (setS 3 (mE [2, 0, 0, 0, 0, 0, 0] (callE d__law_bad (consA (varE 1) (consA (varE 2) nilA))))) (seqS (unpX (.tp [5, 6]) (callS 0 (fun _ => true) (pvE 0) (consA (mE [2, 0, 0, 0, 0, 0, 0] (varE 2)) nilA) d__law_tried)) (seqS (ifS (tstE (op2E neD (varE 5) (varE 3))) (retX (mX [2, 0, 0, 0, 0, 0, 0] (cE .non))) nextS) (seqS (ifS (tstE (op2E neD (varE 3) (cE (.str "")))) (retX (mX [2, 0, 0, 0, 0, 0, 0] (varE 1))) nextS) (seqS (setS 4 (mE [2, 0, 0, 0, 0, 0, 0] (ifE (tstE (op2E eqD (op2E ixA (varE 2) (cE (.int 0))) (cE (.str "present")))) (op2E ixA (varE 1) (cE (.str "fresh"))) (cE .non)))) (retX (mX [2, 0, 0, 0, 0, 0, 0] (ifE (tstE (callE (d__law_same 6) (consA (varE 6) (consA (varE 4) nilA)))) (callE d__law_done (consA (varE 1) (consA (varE 2) nilA))) (cE .non)))))))))
noncomputable def d__law_play : List D → MOut := fnM [2, 0, 0] 7 b__law_play
noncomputable def b__law_pool : DEnv → SOut := (seqS (setS 2 (callE d__law_digits (consA (varE 0) (consA (varE 1) (consA (lstE (consA (cE (.int 26)) (consA (cE (.int 2)) (consA (cE (.int 8)) (consA (cE (.int 26)) nilA))))) nilA))))) (seqS (setS 3 (cE (.str "abcdefghijklmnopqrstuvwxyz"))) (seqS (setS 4 (lstE nilA)) (seqS (forS (.nm 5) (mE [0, 0, 0, 0, 1, 0, 0, 0, 0, 0, 0] (itA rng1 (consA (cE (.int 12)) nilA))) (seqS (unpS (.tp [6, 10]) (mE [0, 0, 0, 0, 1, 0, 0, 0, 0, 0, 0] (callE d__law_digits (consA (varE 0) (consA (op2E addD (op2E addD (varE 1) (cE (.int 1))) (op2E modD (varE 5) (cE (.int 3)))) (consA (lstE (consA (cE (.int 8)) (consA (cE (.int 26)) nilA))) nilA)))))) (seqS (setS 6 (mE [0, 0, 0, 0, 1, 0, 0, 0, 0, 0, 0] (ifE (tstE (op2E eqD (op2E ixA (varE 2) (cE (.int 1))) (cE (.int 0)))) (op2E ixA (varE 2) (cE (.int 2))) (op2E modD (op2E addD (varE 6) (varE 5)) (cE (.int 8)))))) (seqS (setS 7 (mE [0, 0, 0, 0, 1, 0, 0, 0, 0, 0, 0] (lcE (itA rng1 (consA (op2E addD (cE (.int 1)) (varE 6)) nilA)) [8] (.nm 8) yesT (op2E ixA (varE 3) (ifE (tstE (op2E eqD (op2E ixA (varE 2) (cE (.int 1))) (cE (.int 0)))) (op2E ixA (varE 2) (cE (.int 3))) (op2E modD (op2E addD (op2E addD (varE 10) (op2E mulD (cE (.int 7)) (varE 5))) (varE 8)) (cE (.int 26)))))))) (seqS (setI 0 8 (op2E modD (op2E addD (op2E ixA (varE 2) (cE (.int 0))) (op2E ixA (varE 2) (cE (.int 2)))) (callE lenA (consA (varE 7) nilA)))) (seqS (putE 7 (pvE 7) (mE [0, 0, 0, 0, 1, 0, 0, 1, 0, 0, 0] (op2E ixA (varE 3) (op2E modD (op2E addD (op2E ixA (varE 2) (cE (.int 0))) (varE 5)) (cE (.int 26))))) (mE [0, 0, 0, 0, 1, 0, 0, 1, 0, 0, 0] (varE 8))) (seqS (setI 0 9 (mthE kStr joinF (cE (.str "")) (consA (varE 7) nilA))) (ifS (tstE (op2E (inA true) (varE 9) (varE 4))) (exprX (opL 4 (pvE 4) (consA (mE [0, 0, 0, 0, 1, 0, 0, 1, 0, 0, 0] (varE 9)) nilA) appendO)) nextS)))))))) (retS (varE 4))))))
noncomputable def d__law_pool : List D → Out D := fnD 2 11 b__law_pool
noncomputable def b_Manor___len__ : DEnv → SOut := (retS (callE lenA (consA (un1E (fldF 0 "stands") (varE 0)) nilA)))
noncomputable def d_Manor___len__ : List D → Out D := fnD 1 1 b_Manor___len__
noncomputable def b_Manor_coming : DEnv → SOut := (retS (un1E (fldF 0 "fresh") (varE 0)))
noncomputable def d_Manor_coming : List D → Out D := fnD 1 1 b_Manor_coming
noncomputable def b_Manor_holdings : DEnv → SOut := (retS (callE (one1 sortF) (consA (un1E (fldF 0 "lets") (varE 0)) nilA)))
noncomputable def d_Manor_holdings : List D → Out D := fnD 1 1 b_Manor_holdings
noncomputable def b_Manor_lives : DEnv → SOut := (retS (callE (one1 listF) (consA (un1E (fldF 0 "folk") (varE 0)) nilA)))
noncomputable def d_Manor_lives : List D → Out D := fnD 1 1 b_Manor_lives
noncomputable def b_Manor_presentments : DEnv → SOut := (retS (lcE (itE (callE (one1 sortF) (consA (un1E (fldF 0 "stands") (varE 0)) nilA))) [1] (.nm 1) yesT (tupE (consA (varE 1) (consA (op2E ixA (un1E (fldF 0 "stands") (varE 0)) (varE 1)) nilA)))))
noncomputable def d_Manor_presentments : List D → Out D := fnD 1 2 b_Manor_presentments
noncomputable def b_Manor_row_of : DEnv → SOut := (retS (callE (one1 listF) (consA (op2E ixA (callE d_need_holding (consA (un1E (fldF 0 "lets") (varE 0)) (consA (varE 1) nilA))) (cE (.int 0))) nilA)))
noncomputable def d_Manor_row_of : List D → Out D := fnD 2 2 b_Manor_row_of
noncomputable def b_Manor_term : DEnv → SOut := (seqS (unpS (.tp [2, 3, 4]) (callE d_need_holding (consA (un1E (fldF 0 "lets") (varE 0)) (consA (varE 1) nilA)))) (retS (tupE (consA (varE 3) (consA (varE 4) nilA)))))
noncomputable def d_Manor_term : List D → Out D := fnD 2 5 b_Manor_term
noncomputable def b__law_stands : DEnv → SOut := (seqS (ifS (notT (tstE (callE (d__law_same 6) (consA (lstE (consA (methE 0 "lives" (varE 0) nilA d_Manor_lives) (consA (methE 0 "holdings" (varE 0) nilA d_Manor_holdings) (consA (methE 0 "coming" (varE 0) nilA d_Manor_coming) nilA)))) (consA (lstE (consA (op2E ixA (varE 1) (cE (.str "folk"))) (consA (callE (one1 sortF) (consA (op2E ixA (varE 1) (cE (.str "lets"))) nilA)) (consA (op2E ixA (varE 1) (cE (.str "fresh"))) nilA)))) nilA))))) (retS (cE (.bl false))) nextS) (seqS (forLk (.nm 2) (mE [0, 0, 0, 0, 0, 0, 0, 0] (op2E ixA (varE 1) (cE (.str "lets")))) (seqS (unpS (.tp [4, 5, 6]) (op2E ixA (op2E ixA (varE 1) (cE (.str "lets"))) (varE 2))) (ifS (notT (tstE (callE (d__law_same 6) (consA (lstE (consA (methE 0 "row_of" (varE 0) (consA (varE 2) nilA) d_Manor_row_of) (consA (methE 0 "term" (varE 0) (consA (varE 2) nilA) d_Manor_term) nilA))) (consA (lstE (consA (callE (one1 listF) (consA (varE 4) nilA)) (consA (tupE (consA (varE 5) (consA (varE 6) nilA))) nilA))) nilA))))) (retS (cE (.bl false))) nextS))) (seqS (setS 3 (lcE (itE (callE (one1 sortF) (consA (op2E ixA (varE 1) (cE (.str "stands"))) nilA))) [7] (.nm 7) yesT (tupE (consA (varE 7) (consA (op2E ixA (op2E ixA (varE 1) (cE (.str "stands"))) (varE 7)) nilA))))) (retS (andE (callE (d__law_same 6) (consA (methE 0 "presentments" (varE 0) nilA d_Manor_presentments) (consA (varE 3) nilA))) (callE (d__law_same 6) (consA (callE (lenO 0 d_Manor___len__) (consA (varE 0) nilA)) (consA (callE lenA (consA (varE 3) nilA)) nilA))))))))
noncomputable def d__law_stands : List D → Out D := fnD 2 8 b__law_stands
noncomputable def b__law_far : DEnv → SOut := (retS (op2E ixA (lstE (consA (varE 0) (consA (op2E subD (op2E subD (cE (.int 0)) (cE (.int 1))) (varE 0)) (consA (op2E subD (op2E powD (cE (.int 10)) (cE (.int 29))) (varE 0)) (consA (op2E subD (varE 0) (op2E powD (cE (.int 10)) (cE (.int 29)))) nilA))))) (op2E modD (varE 1) (cE (.int 4)))))
noncomputable def d__law_far : List D → Out D := fnD 2 2 b__law_far
noncomputable def b__law_lives_row : DEnv → SOut := (seqS (setS 3 (callE (one1 listF) (consA (varE 2) nilA))) (seqS (setS 4 (mE [0, 0, 0, 1, 0, 0, 0] (lstE nilA))) (seqS (setS 5 (mE [0, 0, 0, 1, 1, 0, 0] (callE d__law_digits (consA (varE 0) (consA (varE 1) (consA (lstE (consA (cE (.int 4)) (consA (cE (.int 10)) (consA (cE (.int 9)) (consA (cE (.int 8)) (consA (cE (.int 7)) nilA)))))) nilA)))))) (seqS (forS (.nm 6) (mE [0, 0, 0, 1, 1, 0, 0] (itE (slE (varE 5) (someO (cE (.int 1))) (someO (op2E addD (cE (.int 2)) (op2E ixA (varE 5) (cE (.int 0)))))))) (ifS (tstE (op2E gtD (callE lenA (consA (varE 3) nilA)) (cE (.int 0)))) (exprX (appX 4 (opL 3 (pvE 3) (consA (immE 0 (op2E modD (varE 6) (callE lenA (consA (varE 3) nilA)))) nilA) popAtO))) nextS)) (retS (callE (one1 tupleF) (consA (varE 4) nilA)))))))
noncomputable def d__law_lives_row : List D → Out D := fnD 3 7 b__law_lives_row
noncomputable def b__law_wild : DEnv → SOut := (seqS (unpS (.tp [10, 11, 12, 6, 13, 14, 15, 16]) (callE d__law_digits (consA (varE 0) (consA (varE 1) (consA (lstE (consA (cE (.int 6)) (consA (cE (.int 997)) (consA (cE (.int 997)) (consA (cE (.int 10000)) (consA (cE (.int 9)) (consA (op2E powD (cE (.int 10)) (cE (.int 29))) (consA (cE (.int 4)) (consA (cE (.int 8)) nilA))))))))) nilA))))) (seqS (setS 4 (op2E addD (slE (op2E ixA (varE 3) (op2E modD (varE 11) (callE lenA (consA (varE 3) nilA)))) noO (someO (un1E negD (cE (.int 1))))) (op2E ixA (cE (.str "_.-~AZ{0 /+")) (op2E modD (varE 12) (cE (.int 11)))))) (seqS (setS 5 (op2E ixA (lstE (consA (cE (.str "")) (consA (cE (.str "A")) (consA (cE (.str "ab1")) (consA (cE (.str "abcdefghi")) (consA (cE (.str "a b")) (consA (cE (.str "nobody")) (consA (varE 4) (consA (varE 4) nilA))))))))) (varE 16))) (seqS (setS 6 (op2E ixA (lstE (consA (varE 6) (consA (varE 6) (consA (varE 6) (consA (op2E modD (varE 6) (cE (.int 9))) (consA (cE (.int 0)) (consA (un1E negD (cE (.int 1))) (consA (cE (.int 10000)) (consA (callE d__law_far (consA (varE 14) (consA (varE 15) nilA))) (consA (cE (.int 9999)) nilA)))))))))) (varE 13))) (seqS (setS 7 (ifE (tstE (op2E ltD (varE 13) (cE (.int 7)))) (op2E ixA (varE 3) (op2E modD (varE 11) (callE lenA (consA (varE 3) nilA)))) (varE 5))) (seqS (setS 8 (ifE (tstE (op2E neD (varE 13) (cE (.int 6)))) (op2E ixA (varE 3) (op2E modD (varE 12) (callE lenA (consA (varE 3) nilA)))) (varE 5))) (seqS (ifS (orT (tstE (op2E eqD (varE 10) (cE (.int 0)))) (tstE (op2E (deqD false) (op2E ixA (varE 2) (cE (.str "folk"))) (lstE nilA)))) (retS (tupE (consA (cE (.str "life")) (consA (varE 7) nilA)))) nextS) (seqS (ifS (tstE (op2E ltD (varE 10) (cE (.int 3)))) (seqS (setS 17 (callE d__law_lives_row (consA (varE 0) (consA (varE 1) (consA (op2E ixA (varE 2) (cE (.str "folk"))) nilA))))) (seqS (setS 17 (op2E ixA (lstE (consA (varE 17) (consA (varE 17) (consA (varE 17) (consA (varE 17) (consA (op2E addD (varE 17) (slE (varE 17) noO (someO (cE (.int 1))))) (consA (tupE nilA) (consA (callE (one1 tupleF) (consA (slE (varE 3) noO (someO (cE (.int 5)))) nilA)) (consA (op2E addD (tupE (consA (varE 8) nilA)) (varE 17)) (consA (varE 17) nilA)))))))))) (varE 13))) (retS (tupE (consA (cE (.str "let")) (consA (varE 7) (consA (varE 17) (consA (varE 6) nilA)))))))) nextS) (seqS (setS 9 (op2E addD (callE (one1 sortF) (consA (op2E ixA (varE 2) (cE (.str "lets"))) nilA)) (lstE (consA (varE 7) nilA)))) (retS (ifE (tstE (op2E eqD (varE 10) (cE (.int 5)))) (tupE (consA (cE (.str "give_up")) (consA (op2E ixA (varE 9) (op2E modD (varE 12) (callE lenA (consA (varE 9) nilA)))) (consA (varE 6) nilA)))) (tupE (consA (cE (.str "put_in")) (consA (op2E ixA (varE 9) (op2E modD (varE 12) (callE lenA (consA (varE 9) nilA)))) (consA (varE 8) nilA)))))))))))))))
noncomputable def d__law_wild : List D → Out D := fnD 4 18 b__law_wild
noncomputable def b_law : DEnv → SOut := (seqS (setS 1 (callE d__law_pool (consA (varE 0) (consA (cE (.int 0)) nilA)))) (seqS (setS 2 (newE 0 nilA d_Manor___init__)) (seqS (setS 3 (mE [0, 0, 2, 0, 0, 0] (callE d__law_new nilA))) (seqS (setS 4 (mE [0, 0, 2, 0, 0, 0] (op2E ixA (callE d__law_digits (consA (varE 0) (consA (cE (.int 4)) (consA (lstE (consA (cE (.int 41)) nilA)) nilA)))) (cE (.int 0))))) (seqS (forS (.nm 5) (mE [0, 0, 2, 0, 0, 0] (itA rng1 (consA (varE 4) nilA))) (seqS (setX 3 (callS 2 (fun _ => true) (pvE 2) (consA (mE [0, 0, 2, 0, 0, 0] (varE 3)) (consA (mE [0, 0, 2, 0, 0, 0] (callE d__law_wild (consA (varE 0) (consA (op2E addD (cE (.int 5)) (varE 5)) (consA (varE 3) (consA (varE 1) nilA)))))) nilA)) d__law_play)) (ifS (orT (tstE (op2E isD (varE 3) (cE .non))) (notT (tstE (callE d__law_stands (consA (varE 2) (consA (varE 3) nilA)))))) (retS (cE (.bl false))) nextS))) (retS (callE d__law_stands (consA (varE 2) (consA (varE 3) nilA)))))))))
end H37

namespace H37
open PySem PySem.Spec PyProof.Rows L2 DL
/-! ### what stands -/
structure Ho where
  row : List Str
  beg : Int
  stop : Option Int
structure S7 where
  folk : List Str
  lets : List (Str × Ho)
def optD : Option Int → D
  | none => .non
  | some i => .int i
def rowD (r : List Str) : D := .tup (r.map .str)
def hoD (h : Ho) : D := .tup [rowD h.row, .int h.beg, optD h.stop]
def folkD (f : List Str) : D := .lst (f.map .str)
def letsK (l : List (Str × Ho)) : List (Key × D) := l.map fun p => (.inr p.1, hoD p.2)
def letsD (l : List (Str × Ho)) : D := .dic (letsK l)
def mS (S : S7) : D := .dic [(.inr "folk", folkD S.folk), (.inr "lets", letsD S.lets), (.inr "stands", .dic []), (.inr "fresh", .int 1)]
def mM (S : S7) (bs : List D) : D := .ins 0 [("folk", folkD S.folk), ("lets", letsD S.lets), ("stands", .dic []), ("fresh", .int 1), ("behind", .lst bs), ("ahead", .lst [])]
section
variable {S : S7} {bs : List D} {f : List Str} {l : List (Str × Ho)}
@[simp] theorem m_folk : ixA (mS S) (.str "folk") = .ok (folkD S.folk) := by rfl
@[simp] theorem m_lets : ixA (mS S) (.str "lets") = .ok (letsD S.lets) := by rfl
@[simp] theorem m_stands : ixA (mS S) (.str "stands") = .ok (.dic []) := by rfl
@[simp] theorem m_fresh : ixA (mS S) (.str "fresh") = .ok (.int 1) := by rfl
@[simp] theorem M_folk : fldF 0 "folk" (mM S bs) = .ok (folkD S.folk) := by rfl
@[simp] theorem M_lets : fldF 0 "lets" (mM S bs) = .ok (letsD S.lets) := by rfl
@[simp] theorem M_stands : fldF 0 "stands" (mM S bs) = .ok (.dic []) := by rfl
@[simp] theorem M_fresh : fldF 0 "fresh" (mM S bs) = .ok (.int 1) := by rfl
@[simp] theorem Mp_folk : pfS 0 "folk" ([], mM S bs) = .ok ([.fld "folk"], folkD S.folk) := by rfl
@[simp] theorem Mp_lets : pfS 0 "lets" ([], mM S bs) = .ok ([.fld "lets"], letsD S.lets) := by rfl
@[simp] theorem Mp_behind : pfS 0 "behind" ([], mM S bs) = .ok ([.fld "behind"], .lst bs) := by rfl
@[simp] theorem Mq_folk : putP (mM S bs) [.fld "folk"] (.lst (f.map .str)) = mM { S with folk := f } bs := by rfl
@[simp] theorem Mq_lets : putP (mM S bs) [.fld "lets"] (letsD l) = mM { S with lets := l } bs := by rfl
@[simp] theorem Mq_behind {b' : List D} : putP (mM S bs) [.fld "behind"] (.lst b') = mM S b' := by rfl
theorem M_ahead : ∃ fds, mM S bs = .ins 0 fds ∧ fds.length < 1000 ∧ D.ins 0 (putFD "ahead" (.lst []) fds) = mM S bs := ⟨_, rfl, (by show 6 < 1000; decide), by rfl⟩
@[simp] theorem mp_folk : pkS ([], mS S) (.str "folk") = .ok ([.key (.inr "folk")], folkD S.folk) := by rfl
@[simp] theorem mp_lets : pkS ([], mS S) (.str "lets") = .ok ([.key (.inr "lets")], letsD S.lets) := by rfl
@[simp] theorem mq_folk : putP (mS S) [.key (.inr "folk")] (.lst (f.map .str)) = mS { S with folk := f } := by rfl
@[simp] theorem mq_lets : putP (mS S) [.key (.inr "lets")] (letsD l) = mS { S with lets := l } := by rfl
@[simp] theorem isM {m : Str} (h : m ∈ (["life", "let", "put_in", "give_up", "note", "state", "do", "lives", "holdings", "coming", "row_of", "term", "presentments"] : List Str)) : isIns 0 m (mM S bs) = true := by
  simp only [List.mem_cons, List.not_mem_nil, or_false] at h
  rcases h with h | h | h | h | h | h | h | h | h | h | h | h | h <;> subst h <;> rfl
end
end H37

namespace H37
open PySem PySem.Spec PyProof.Rows L2 DL
abbrev abcS : Str := "abcdefghijklmnopqrstuvwxyz"
def okSign (c : Nat) : Bool := decide (c ∈ abcS.cps.toList)
def nameOk (n : Str) : Bool := decide (1 ≤ n.length ∧ n.length ≤ 8) && n.cps.toList.all okSign
theorem bls_map {α : Type} {f : α → Bool} : ∀ xs : List α, blsOf (xs.map fun x => D.bl (f x)) = some (xs.map f)
  | [] => rfl
  | x :: xs => by
    have := bls_map (f := f) xs
    unfold blsOf
    rw [List.map_cons]
    simp [this]
theorem all_map {α : Type} {f : α → Bool} (xs : List α) : allF (.lst (xs.map fun x => D.bl (f x))) = .ok (.bl (xs.all f)) := by
  unfold allF
  simp only [bls_map]
  rw [List.all_map]
  rfl
theorem signs_ok {i : Nat} {ρ : DEnv} (hi : i < ρ.length) (z : Str) : lcL (.nm i) yesT (op2E (inA false) (varE i) (cE (.str abcS))) ρ (z.cps.toList.map fun c => D.str ⟨#[c]⟩) = .ok (z.cps.toList.map fun c => D.bl (okSign c)) := by
  induction z.cps.toList with
  | nil => rfl
  | cons c cs ih =>
    rw [List.map_cons, List.map_cons]
    unfold lcL
    rw [ih]
    simp [List.getElem?_set, hi, okSign]
@[simp] theorem r_its {z} : iterD (.str z) = .ok (z.cps.toList.map fun c => .str ⟨#[c]⟩) := rfl
theorem len_cps (z : Str) : z.length = z.cps.toList.length := by
  unfold Str.length
  simp
theorem name_ok (n : Str) (h : n.length ≤ 1000) : d__law_name_ok [.str n] = .ok (.bl (nameOk n)) := by
  have hs : n.length ≤ sizeLine := sz_le h
  have hc : n.cps.size ≤ sizeLine := hs
  have sg := signs_ok (i := 1) (ρ := [some (.str n), none]) (Nat.lt_succ_self 1) n
  have i1 : ∀ k : Nat, decide ((1 : Int) ≤ (k : Int)) = decide (1 ≤ k) := fun k => by congr 1; simp; omega
  have i2 : ∀ k : Nat, decide ((k : Int) ≤ 8) = decide (k ≤ 8) := fun k => by congr 1; simp; omega
  by_cases c1 : 1 ≤ n.length
  · by_cases c2 : n.length ≤ 8
    · simp [d__law_name_ok, fnD, b__law_name_ok, hs, hc, sg, all_map, i1, i2, c1, c2, nameOk]
    · simp [d__law_name_ok, fnD, b__law_name_ok, hs, hc, sg, all_map, i1, i2, c1, c2, nameOk]
  · simp [d__law_name_ok, fnD, b__law_name_ok, hs, hc, sg, all_map, i1, i2, c1, nameOk]
end H37

namespace H37
open PySem PySem.Spec PyProof.Rows L2 DL
theorem lookup_lets (l : List (Str × Ho)) (n : Str) : (letsK l).lookup (.inr n) = (l.lookup n).map hoD := by
  induction l with
  | nil => rfl
  | cons p l ih =>
    obtain ⟨m, h⟩ := p
    unfold letsK
    rw [List.map_cons, List.lookup_cons, List.lookup_cons]
    have e : ((Sum.inr n : Key) == Sum.inr m) = (n == m) := rfl
    rw [e]
    cases n == m with
    | true => rfl
    | false => exact ih
def putL (l : List (Str × Ho)) (n : Str) (h : Ho) : List (Str × Ho) := if (l.any fun p => decide (p.1 = n)) = true then l.map (fun p => if p.1 = n then (p.1, h) else p) else l ++ [(n, h)]
theorem putK_lets (l : List (Str × Ho)) (n : Str) (h : Ho) : putKD (letsK l) (.inr n) (hoD h) = letsK (putL l n h) := by
  have ea : ((letsK l).any fun kv => decide (kv.1 = (Sum.inr n : Key))) = (l.any fun p => decide (p.1 = n)) := by
    unfold letsK
    rw [List.any_map]
    congr 1
    funext p
    simp
  unfold putKD putL
  rw [ea]
  cases l.any fun p => decide (p.1 = n) with
  | true =>
    simp only [if_true]
    unfold letsK
    rw [List.map_map, List.map_map]
    apply List.map_congr_left
    intro p _
    by_cases c : p.1 = n
    · simp [c]
    · simp [c]
  | false =>
    simp [letsK]
inductive Deed where
  | life (n : Str) | let_ (n : Str) (row : List Str) (d : Int) | putIn (h n : Str) | giveUp (h : Str) (d : Int)
def dD : Deed → D
  | .life n => .tup [.str "life", .str n]
  | .let_ n row d => .tup [.str "let", .str n, rowD row, .int d]
  | .putIn h n => .tup [.str "put_in", .str h, .str n]
  | .giveUp h d => .tup [.str "give_up", .str h, .int d]
def badC (S : S7) : Deed → Option Nat
  | .life n => if nameOk n = true then (if n ∈ S.folk then some 9 else if 9 < S.folk.length then some 10 else none) else some 8
  | .let_ n row d => if nameOk n = true then (if (S.lets.lookup n).isSome = true then some 9 else if (1 ≤ row.length ∧ row.length ≤ 4) ∧ ¬ (metD row).length < row.length then
      (if row.all (fun x => decide (x ∈ S.folk)) = true then (if 0 ≤ d ∧ d ≤ 9999 then (if 7 < S.lets.length then some 10 else none) else some 3) else some 17) else some 7) else some 8
  | .putIn h n => match S.lets.lookup h with
    | none => some 18
    | some o => if n ∈ S.folk then (if o.stop.isSome = true then some 12 else if n ∈ o.row then some 11 else if 3 < o.row.length then some 10 else none) else some 17
  | .giveUp h d => match S.lets.lookup h with
    | none => some 18
    | some o => if o.beg < d ∧ d ≤ 9999 then (if o.stop.isSome = true then some 12 else none) else some 3
def doneS (S : S7) : Deed → S7
  | .life n => { S with folk := S.folk ++ [n] }
  | .let_ n row d => { S with lets := putL S.lets n ⟨row, d, none⟩ }
  | .putIn h n => match S.lets.lookup h with
    | none => S
    | some o => { S with lets := putL S.lets h { o with row := o.row ++ [n] } }
  | .giveUp h d => match S.lets.lookup h with
    | none => S
    | some o => { S with lets := putL S.lets h { o with stop := some d } }
/-- what is held of all that stands -/
structure Good (S : S7) : Prop where
  f10 : S.folk.length ≤ 10
  fn : ∀ n ∈ S.folk, n.length ≤ 8
  l8 : S.lets.length ≤ 8
  ln : ∀ p ∈ S.lets, p.1.length ≤ 8 ∧ p.2.row.length ≤ 4 ∧ 0 ≤ p.2.beg
  nd : (S.lets.map (·.1)).Nodup
theorem folk_flat (f : List Str) : (f.map D.str).all flatD = true := flat_strs f
theorem in_folk {n : Bool} {x : Str} {f : List Str} : inA n (.str x) (folkD f) = .ok (.bl (if n then !decide (x ∈ f) else decide (x ∈ f))) := by
  unfold folkD
  rw [r_inAl, r_inl, if_pos ⟨rfl, flat_strs f⟩, inL_strs]
theorem in_row {n : Bool} {x : Str} {f : List Str} : inA n (.str x) (rowD f) = .ok (.bl (if n then !decide (x ∈ f) else decide (x ∈ f))) := by
  unfold rowD
  rw [r_inAt, r_int, if_pos ⟨rfl, flat_strs f⟩, inL_strs]
theorem in_lets {n : Bool} {x : Str} {l : List (Str × Ho)} : inA n (.str x) (letsD l) = .ok (.bl (if n then !(l.lookup x).isSome else (l.lookup x).isSome)) := by
  unfold letsD
  rw [r_inAd, lookup_lets]
  cases l.lookup x <;> rfl
theorem ix_lets {x : Str} {l : List (Str × Ho)} : ixA (letsD l) (.str x) = (match l.lookup x with | some o => .ok (hoD o) | none => .bad) := by
  unfold letsD
  rw [r_ixAd, lookup_lets]
  cases l.lookup x <;> rfl
theorem len_lets {l : List (Str × Ho)} : lenA [letsD l] = .ok (.int l.length) := by
  unfold letsD
  rw [r_lenAd]
  simp [letsK]
theorem len_folk {f : List Str} : lenA [folkD f] = .ok (.int f.length) := by
  unfold folkD
  rw [r_lenAl]
  simp
theorem len_row {f : List Str} : lenA [rowD f] = .ok (.int f.length) := by
  unfold rowD
  rw [r_lenAt]
  simp
theorem optD_is {o : Option Int} : isN (optD o) = !o.isSome := by cases o <;> rfl
theorem need_name_folk (n : Str) (f : List Str) (h : n.length ≤ 1000) : d_need_name [.str n, folkD f] = if nameOk n = true then (if n ∈ f then .ex ⟨9, none⟩ else .ok .non) else .ex ⟨8, none⟩ := by
  have hs : n.length ≤ sizeLine := sz_le h
  have hc : n.cps.size ≤ sizeLine := hs
  have sg := signs_ok (i := 2) (ρ := [some (.str n), some (folkD f), none]) (Nat.lt_succ_self 2) n
  have i1 : ∀ k : Nat, decide ((1 : Int) ≤ (k : Int)) = decide (1 ≤ k) := fun k => by congr 1; simp; omega
  have i2 : ∀ k : Nat, decide ((k : Int) ≤ 8) = decide (k ≤ 8) := fun k => by congr 1; simp; omega
  by_cases c1 : 1 ≤ n.length
  · by_cases c2 : n.length ≤ 8
    · by_cases c3 : n.cps.all okSign = true
      · by_cases c4 : n ∈ f
        · simp [d_need_name, fnD, b_need_name, hs, hc, sg, all_map, i1, i2, c1, c2, c3, c4, nameOk, in_folk]
        · simp [d_need_name, fnD, b_need_name, hs, hc, sg, all_map, i1, i2, c1, c2, c3, c4, nameOk, in_folk]
      · simp [d_need_name, fnD, b_need_name, hs, hc, sg, all_map, i1, i2, c1, c2, c3, nameOk, in_folk]
    · simp [d_need_name, fnD, b_need_name, hs, hc, sg, all_map, i1, i2, c1, c2, nameOk, in_folk]
  · simp [d_need_name, fnD, b_need_name, hs, hc, sg, all_map, i1, i2, c1, nameOk, in_folk]
theorem need_name_lets (n : Str) (l : List (Str × Ho)) (h : n.length ≤ 1000) : d_need_name [.str n, letsD l] = if nameOk n = true then (if (l.lookup n).isSome = true then .ex ⟨9, none⟩ else .ok .non) else .ex ⟨8, none⟩ := by
  have hs : n.length ≤ sizeLine := sz_le h
  have hc : n.cps.size ≤ sizeLine := hs
  have sg := signs_ok (i := 2) (ρ := [some (.str n), some (letsD l), none]) (Nat.lt_succ_self 2) n
  have i1 : ∀ k : Nat, decide ((1 : Int) ≤ (k : Int)) = decide (1 ≤ k) := fun k => by congr 1; simp; omega
  have i2 : ∀ k : Nat, decide ((k : Int) ≤ 8) = decide (k ≤ 8) := fun k => by congr 1; simp; omega
  by_cases c1 : 1 ≤ n.length
  · by_cases c2 : n.length ≤ 8
    · by_cases c3 : n.cps.all okSign = true
      · cases c4 : (l.lookup n).isSome <;> simp [d_need_name, fnD, b_need_name, hs, hc, sg, all_map, i1, i2, c1, c2, c3, c4, nameOk, in_lets]
      · simp [d_need_name, fnD, b_need_name, hs, hc, sg, all_map, i1, i2, c1, c2, c3, nameOk, in_lets]
    · simp [d_need_name, fnD, b_need_name, hs, hc, sg, all_map, i1, i2, c1, c2, nameOk, in_lets]
  · simp [d_need_name, fnD, b_need_name, hs, hc, sg, all_map, i1, i2, c1, nameOk, in_lets]
end H37

namespace H37
open PySem PySem.Spec PyProof.Rows L2 DL
theorem room_life (f : List Str) : d_room_for_life [folkD f] = if 9 < f.length then .ex ⟨10, none⟩ else .ok .non := by
  have i1 : decide ((10 : Int) ≤ (f.length : Int)) = decide (9 < f.length) := by congr 1; simp; omega
  by_cases c : 9 < f.length <;> simp [d_room_for_life, fnD, b_room_for_life, d_need_room, b_need_room, len_folk, i1, c]
theorem room_hold (l : List (Str × Ho)) : d_room_for_holding [letsD l] = if 7 < l.length then .ex ⟨10, none⟩ else .ok .non := by
  have i1 : decide ((8 : Int) ≤ (l.length : Int)) = decide (7 < l.length) := by congr 1; simp; omega
  by_cases c : 7 < l.length <;> simp [d_room_for_holding, fnD, b_room_for_holding, d_need_room, b_need_room, len_lets, i1, c]
theorem room_row (f : List Str) : d_room_in_row [rowD f] = if 3 < f.length then .ex ⟨10, none⟩ else .ok .non := by
  have i1 : decide ((4 : Int) ≤ (f.length : Int)) = decide (3 < f.length) := by congr 1; simp; omega
  by_cases c : 3 < f.length <;> simp [d_room_in_row, fnD, b_room_in_row, d_need_room, b_need_room, len_row, i1, c]
theorem is_day (d : Int) : d_is_day [.int d] = .ok (.bl (decide (0 ≤ d ∧ d ≤ 9999))) := by
  by_cases c1 : 0 ≤ d
  · by_cases c2 : d ≤ 9999 <;> simp [d_is_day, fnD, b_is_day, c1, c2]
  · simp [d_is_day, fnD, b_is_day, c1]
theorem need_day (d : Int) : d_need_day [.int d] = if 0 ≤ d ∧ d ≤ 9999 then .ok .non else .ex ⟨3, none⟩ := by
  by_cases c : 0 ≤ d ∧ d ≤ 9999
  · simp [d_need_day, fnD, b_need_day, is_day, c]
  · have c' : ¬ (0 ≤ d ∧ d ≤ 9999) := c
    simp only [d_need_day, fnD, b_need_day]
    simp [is_day, c', decide_eq_false c']
theorem need_open (o : Option Int) : d_need_open [optD o] = if o.isSome = true then .ex ⟨12, none⟩ else .ok .non := by
  cases o <;> simp [d_need_open, fnD, b_need_open, optD, isN]
theorem need_unlike (r : List Str) (n : Str) : d_need_unlike [rowD r, .str n] = if n ∈ r then .ex ⟨11, none⟩ else .ok .non := by
  by_cases c : n ∈ r <;> simp [d_need_unlike, fnD, b_need_unlike, in_row, c]
theorem find_str (f : List Str) (n : Str) (h : n ∈ f) : ∃ j, (f.map D.str).findIdx? (fun z => eqF z (.str n)) = some j := by
  cases q : (f.map D.str).findIdx? (fun z => eqF z (.str n)) with
  | some j => exact ⟨j, rfl⟩
  | none =>
    have := List.findIdx?_eq_none_iff.mp q (.str n) (List.mem_map_of_mem h)
    simp [eqF] at this
theorem need_life (f : List Str) (n : Str) : (n ∈ f → ∃ j : Nat, d_need_life [folkD f, .str n] = .ok (.int j)) ∧ (n ∉ f → d_need_life [folkD f, .str n] = .ex ⟨17, none⟩) := by
  constructor
  · intro h
    obtain ⟨j, hj⟩ := find_str f n h
    refine ⟨j, ?_⟩
    have e : indexF (folkD f) [.str n] = .ok (.int j) := by
      unfold folkD indexF
      dsimp only
      rw [if_pos ⟨rfl, flat_strs f⟩, hj]
    have k : kLst (folkD f) = true := rfl
    simp [d_need_life, fnD, b_need_life, in_folk, h, e, k]
  · intro h
    simp [d_need_life, fnD, b_need_life, in_folk, h]
theorem need_holding (l : List (Str × Ho)) (n : Str) : d_need_holding [letsD l, .str n] = (match l.lookup n with | some o => .ok (hoD o) | none => .ex ⟨18, none⟩) := by
  cases q : l.lookup n with
  | none => simp [d_need_holding, fnD, b_need_holding, in_lets, q]
  | some o => simp [d_need_holding, fnD, b_need_holding, in_lets, ix_lets, q]
theorem lenset_row (r : List Str) (h : r.length ≤ 1000) : lenSetD (rowD r) = .ok (.int (metD r).length) := by
  unfold rowD lenSetD
  simp [strsOf_map, h]
theorem lenset_lst (r : List Str) (h : r.length ≤ 1000) : lenSetD (.lst (r.map .str)) = .ok (.int (metD r).length) := by
  unfold lenSetD
  simp [strsOf_map, h]
noncomputable abbrev B_lives := (exprX (zX (callE d_need_life (consA (varE 0) (consA (varE 2) nilA)))))
theorem lives_all (f : List Str) (r0 : D) : ∀ (r : List Str) (t : Option D), r.all (fun x => decide (x ∈ f)) = true → ∃ t', forL (.nm 2) B_lives (r.map .str) [some (folkD f), some r0, t] = .next [some (folkD f), some r0, t']
  | [], t, _ => ⟨t, rfl⟩
  | x :: r, t, h => by
    rw [List.all_cons, Bool.and_eq_true] at h
    have hx : x ∈ f := of_decide_eq_true h.1
    obtain ⟨t', ih⟩ := lives_all f r0 r (some (.str x)) h.2
    obtain ⟨j, hj⟩ := (need_life f x).1 hx
    refine ⟨t', ?_⟩
    rw [List.map_cons]
    unfold forL
    simp [hj, ih]
theorem lives_not (f : List Str) (r0 : D) : ∀ (r : List Str) (t : Option D), ¬ r.all (fun x => decide (x ∈ f)) = true → ∃ ρ', forL (.nm 2) B_lives (r.map .str) [some (folkD f), some r0, t] = .ex ⟨17, none⟩ ρ'
  | [], t, h => absurd rfl h
  | x :: r, t, h => by
    rw [List.map_cons]
    unfold forL
    by_cases hx : x ∈ f
    · have h' : ¬ r.all (fun x => decide (x ∈ f)) = true := fun y => h (by rw [List.all_cons, y, decide_eq_true hx]; rfl)
      obtain ⟨ρ', ih⟩ := lives_not f r0 r (some (.str x)) h'
      obtain ⟨j, hj⟩ := (need_life f x).1 hx
      exact ⟨ρ', by simp [hj, ih]⟩
    · have hj := (need_life f x).2 hx
      exact ⟨_, by simp [hj]; rfl⟩
theorem need_lives (f r : List Str) (h : r.length ≤ 1000) : d_need_lives [folkD f, .lst (r.map .str)] = if (1 ≤ r.length ∧ r.length ≤ 4) ∧ ¬ (metD r).length < r.length then (if r.all (fun x => decide (x ∈ f)) = true then .ok .non else .ex ⟨17, none⟩) else .ex ⟨7, none⟩ := by
  have i1 : decide ((1 : Int) ≤ (r.length : Int)) = decide (1 ≤ r.length) := by congr 1; simp; omega
  have i2 : decide ((r.length : Int) ≤ 4) = decide (r.length ≤ 4) := by congr 1; simp; omega
  have i3 : decide (((metD r).length : Int) < (r.length : Int)) = decide ((metD r).length < r.length) := by congr 1; simp
  have ls := lenset_lst r h
  by_cases c1 : 1 ≤ r.length
  · by_cases c2 : r.length ≤ 4
    · by_cases c3 : (metD r).length < r.length
      · simp [d_need_lives, fnD, b_need_lives, i1, i2, i3, ls, c1, c2, c3]
      · by_cases c4 : r.all (fun x => decide (x ∈ f)) = true
        · obtain ⟨t', e⟩ := lives_all f (.lst (r.map .str)) r none c4
          simp only [d_need_lives, fnD, b_need_lives]
          rw [if_pos (show (1 ≤ r.length ∧ r.length ≤ 4) ∧ ¬ (metD r).length < r.length from ⟨⟨c1, c2⟩, c3⟩), if_pos c4]
          simp [i1, i2, i3, ls, c1, c2, c3, e]
        · obtain ⟨ρ', e⟩ := lives_not f (.lst (r.map .str)) r none c4
          simp only [d_need_lives, fnD, b_need_lives]
          rw [if_pos (show (1 ≤ r.length ∧ r.length ≤ 4) ∧ ¬ (metD r).length < r.length from ⟨⟨c1, c2⟩, c3⟩), if_neg c4]
          simp [i1, i2, i3, ls, c1, c2, c3, e]
    · simp [d_need_lives, fnD, b_need_lives, i1, i2, i3, ls, c1, c2]
  · simp [d_need_lives, fnD, b_need_lives, i1, i2, i3, ls, c1]
/-! ### the manor's deeds -/
def stD (S : S7) : D := .tup [folkD S.folk, letsD S.lets, .dic [], .int 1]
theorem Mstate (S : S7) (bs : List D) : d_Manor_state [mM S bs] = .ok (stD S) := by
  have a : one1 listF [folkD S.folk] = .ok (folkD S.folk) := rfl
  have b : one1 dictF [letsD S.lets] = .ok (letsD S.lets) := rfl
  have c : one1 dictF [D.dic []] = .ok (.dic []) := rfl
  simp [d_Manor_state, fnD, b_Manor_state, a, b, c, stD]
theorem imm_at {d : D} (h : imm d = true) (n : Nat) : immAt n d = true := by
  induction n generalizing d with
  | zero => rw [immA0]; exact h
  | succ n ih =>
    cases d with
    | tup ds =>
      rw [immA_tup]
      rw [imm_tup] at h
      induction ds with
      | nil => rfl
      | cons d ds ihd =>
        rw [immL_cons, Bool.and_eq_true] at h
        rw [List.all_cons, ih h.1, ihd h.2]
        rfl
    | lst _ => cases h
    | dic _ => cases h
    | ins _ _ => cases h
    | _ => rfl
theorem imm_row (r : List Str) : imm (rowD r) = true := by
  unfold rowD
  rw [imm_tup, immL_map]
  simp
theorem imm_opt (o : Option Int) : imm (optD o) = true := by cases o <;> rfl
theorem imm_ho (o : Ho) : imm (hoD o) = true := by
  unfold hoD
  simp [imm_row, imm_opt]
theorem imm_deed (d : Deed) : imm (dD d) = true := by
  cases d <;> simp [dD, imm_row]
theorem imm_st (S : S7) : immAt 2 (stD S) = true := by
  have a : immAt 1 (folkD S.folk) = true := by
    unfold folkD
    rw [immA_lst, List.all_map]
    simp
  have b : immAt 1 (letsD S.lets) = true := by
    unfold letsD letsK
    rw [immA_dic, List.all_map]
    simp [imm_ho]
  have c : immAt 1 (.dic []) = true := rfl
  unfold stD
  rw [immA_tup]
  simp [a, b, c]
theorem Mnote (S : S7) (bs : List D) (d : Deed) (hb : bs.length < 1000) : d_Manor_note [mM S bs, dD d] = .ok .non [mM S (bs ++ [.tup [dD d, stD S]]), dD d] := by
  have h1 : bs.length < sizeLine := sz_lt hb
  have h2 := imm_at (imm_deed d) 2
  have h3 := imm_st S
  have hi := isM (S := S) (bs := bs) (m := "state") (by decide)
  obtain ⟨fds, e1, e2, e3⟩ := M_ahead (S := S) (bs := bs ++ [.tup [dD d, stD S]])
  refine fnM_next (ρ := [some (mM S (bs ++ [.tup [dD d, stD S]])), some (dD d)]) rfl ?_ (by simp)
  unfold b_Manor_note
  refine seq_to (ρ1 := [some (mM S (bs ++ [.tup [dD d, stD S]])), some (dD d)]) ?_ ?_
  · simp [hi, Mstate, imm_deed, h1, h2, h3]
  · rw [r_fldS]
    simp
    rw [e1]
    simp [e2, e3, ← e1]
end H37

namespace H37
open PySem PySem.Spec PyProof.Rows L2 DL
/-- the manor behind a deed, and what is told -/
def outM (S : S7) (bs : List D) (d : Deed) (rest : List D) : MOut := match badC S d with
  | some c => .ex ⟨c, none⟩ (mM S bs :: rest)
  | none => .ok .non (mM (doneS S d) (bs ++ [.tup [dD d, stD S]]) :: rest)
theorem M_life (S : S7) (bs : List D) (n : Str) (hb : bs.length < 1000) (hn : n.length ≤ 1000) (hf : S.folk.length < 1000) : d_Manor_life [mM S bs, .str n] = outM S bs (.life n) [.str n] := by
  have q1 := need_name_folk n S.folk hn
  have q2 := room_life S.folk
  have q3 := Mnote S bs (.life n) hb
  have hi := isM (S := S) (bs := bs) (m := "note") (by decide)
  have hfl : S.folk.length < sizeLine := sz_lt hf
  unfold outM
  by_cases c1 : nameOk n = true
  · by_cases c2 : n ∈ S.folk
    · simp only [badC, c1, c2, if_true]
      refine fnM_ex (ρ := [some (mM S bs), some (.str n)]) rfl ?_ (by simp)
      simp [b_Manor_life, q1, c1, c2]
    · by_cases c3 : 9 < S.folk.length
      · simp only [badC, c1, c2, c3, if_true, if_false]
        refine fnM_ex (ρ := [some (mM S bs), some (.str n)]) rfl ?_ (by simp)
        simp [b_Manor_life, q1, q2, c1, c2, c3]
      · simp only [badC, c1, c2, c3, if_true, if_false]
        refine fnM_next (ρ := [some (mM (doneS S (.life n)) (bs ++ [.tup [dD (.life n), stD S]])), some (.str n)]) rfl ?_ (by simp)
        have e : ∀ b', putP (mM S b') [.fld "folk"] (.lst (S.folk.map D.str ++ [.str n])) = mM (doneS S (.life n)) b' := fun b' => by
          rw [show S.folk.map D.str ++ [D.str n] = (S.folk ++ [n]).map D.str by simp, Mq_folk]
          rfl
        simp [b_Manor_life, q1, q2, c1, c2, c3, hi]
        rw [show D.tup [D.str "life", D.str n] = dD (.life n) from rfl, q3]
        simp [folkD, hfl, e]
  · simp only [badC, c1, if_false]
    refine fnM_ex (ρ := [some (mM S bs), some (.str n)]) rfl ?_ (by simp)
    simp [b_Manor_life, q1, c1]
theorem M_let (S : S7) (bs : List D) (n : Str) (row : List Str) (d : Int) (hb : bs.length < 1000) (hn : n.length ≤ 1000) (hr : row.length ≤ 1000) (hf : S.lets.length < 1000) : d_Manor_let [mM S bs, .str n, .lst (row.map .str), .int d] = outM S bs (.let_ n row d) [.str n, .lst (row.map .str), .int d] := by
  have q1 := need_name_lets n S.lets hn
  have q2 := need_lives S.folk row hr
  have q3 := need_day d
  have q4 := room_hold S.lets
  have q5 := Mnote S bs (.let_ n row d) hb
  have hi := isM (S := S) (bs := bs) (m := "note") (by decide)
  have hfl : (letsK S.lets).length < sizeLine := by
    unfold letsK
    rw [List.length_map]
    exact sz_lt hf
  have back : backP [2, 0, 0, 0] [mM S bs, .str n, .lst (row.map .str), .int d] [some (mM S bs), some (.str n), some (.lst (row.map .str)), some (.int d)] = some [mM S bs, .str n, .lst (row.map .str), .int d] := by simp
  unfold outM
  by_cases c1 : nameOk n = true
  rotate_left
  · simp only [badC, c1, if_false]
    exact fnM_ex rfl (by simp [b_Manor_let, q1, c1]) back
  by_cases c2 : (S.lets.lookup n).isSome = true
  · simp only [badC, c1, c2, if_true]
    exact fnM_ex rfl (by simp [b_Manor_let, q1, c1, c2]) back
  by_cases c3 : (1 ≤ row.length ∧ row.length ≤ 4) ∧ ¬ (metD row).length < row.length
  rotate_left
  · rw [if_neg c3] at q2
    have e : badC S (.let_ n row d) = some 7 := by
      simp only [badC]
      rw [if_pos c1, if_neg c2, if_neg c3]
    rw [e]
    rw [if_pos c1, if_neg c2] at q1
    exact fnM_ex rfl (by simp [b_Manor_let, q1, q2]) back
  rw [if_pos c3] at q2
  by_cases c4 : row.all (fun x => decide (x ∈ S.folk)) = true
  rotate_left
  · rw [if_neg c4] at q2
    have e : badC S (.let_ n row d) = some 17 := by
      simp only [badC]
      rw [if_pos c1, if_neg c2, if_pos c3, if_neg c4]
    rw [e]
    rw [if_pos c1, if_neg c2] at q1
    exact fnM_ex rfl (by simp [b_Manor_let, q1, q2]) back
  rw [if_pos c4] at q2
  rw [if_pos c1, if_neg c2] at q1
  by_cases c5 : 0 ≤ d ∧ d ≤ 9999
  rotate_left
  · rw [if_neg c5] at q3
    have e : badC S (.let_ n row d) = some 3 := by
      simp only [badC]
      rw [if_pos c1, if_neg c2, if_pos c3, if_pos c4, if_neg c5]
    rw [e]
    exact fnM_ex rfl (by simp [b_Manor_let, q1, q2, q3]) back
  rw [if_pos c5] at q3
  by_cases c6 : 7 < S.lets.length
  · rw [if_pos c6] at q4
    have e : badC S (.let_ n row d) = some 10 := by
      simp only [badC]
      rw [if_pos c1, if_neg c2, if_pos c3, if_pos c4, if_pos c5, if_pos c6]
    rw [e]
    exact fnM_ex rfl (by simp [b_Manor_let, q1, q2, q3, q4]) back
  rw [if_neg c6] at q4
  have e : badC S (.let_ n row d) = none := by
    simp only [badC]
    rw [if_pos c1, if_neg c2, if_pos c3, if_pos c4, if_pos c5, if_neg c6]
  rw [e]
  refine fnM_next (ρ := [some (mM (doneS S (.let_ n row d)) (bs ++ [.tup [dD (.let_ n row d), stD S]])), some (.str n), some (.lst (row.map .str)), some (.int d)]) rfl ?_ (by simp)
  have e2 : ∀ b', putP (mM S b') [.fld "lets"] (.dic (putKD (letsK S.lets) (.inr n) (.tup [.tup (row.map .str), .int d, .non]))) = mM (doneS S (.let_ n row d)) b' := fun b' => by
    rw [show D.tup [.tup (row.map .str), .int d, .non] = hoD ⟨row, d, none⟩ from rfl, putK_lets]
    exact Mq_lets
  have e3 : putC (letsD S.lets) (.str n) (.tup [.tup (row.map .str), .int d, .non]) = some (.dic (putKD (letsK S.lets) (.inr n) (.tup [.tup (row.map .str), .int d, .non]))) := by
    unfold letsD
    rw [r_putCd, if_pos hfl]
  simp [b_Manor_let, q1, q2, q3, q4, hi]
  rw [show D.tup [D.str "let", D.str n, D.tup (row.map .str), .int d] = dD (.let_ n row d) from rfl, q5]
  simp [e2, e3]
end H37

namespace H37
open PySem PySem.Spec PyProof.Rows L2 DL
theorem put_ho (S : S7) (b' : List D) (h : Str) (o : Ho) : putP (mM S b') [.fld "lets"] (.dic (putKD (letsK S.lets) (.inr h) (hoD o))) = mM { S with lets := putL S.lets h o } b' := by
  rw [putK_lets]
  exact Mq_lets
theorem putC_ho (S : S7) (hf : S.lets.length < 1000) (h : Str) (d : D) : putC (letsD S.lets) (.str h) d = some (.dic (putKD (letsK S.lets) (.inr h) d)) := by
  have hfl : (letsK S.lets).length < sizeLine := by
    unfold letsK
    rw [List.length_map]
    exact sz_lt hf
  unfold letsD
  rw [r_putCd, if_pos hfl]
theorem M_put (S : S7) (bs : List D) (h n : Str) (hb : bs.length < 1000) (hf : S.lets.length < 1000) (hr : ∀ o, S.lets.lookup h = some o → o.row.length ≤ 4) : d_Manor_put_in [mM S bs, .str h, .str n] = outM S bs (.putIn h n) [.str h, .str n] := by
  have q1 := need_holding S.lets h
  have q5 := Mnote S bs (.putIn h n) hb
  have hi := isM (S := S) (bs := bs) (m := "note") (by decide)
  cases c1 : S.lets.lookup h with
  | none =>
    rw [c1] at q1
    have e : badC S (.putIn h n) = some 18 := by simp only [badC]; rw [c1]
    unfold outM
    rw [e]
    exact fnM_ex (ρ := [some (mM S bs), some (.str h), some (.str n), none, none, none]) rfl (by simp [b_Manor_put_in, q1]) (by simp)
  | some o =>
    rw [c1] at q1
    obtain ⟨row, beg, stop⟩ := o
    have hrow : row.length ≤ 4 := hr _ c1
    have im := imm_ho ⟨row, beg, stop⟩
    simp only [hoD] at q1 im
    have im2 : immL [rowD row, .int beg, optD stop] = true := im
    have q2 := need_open stop
    have q3 := need_unlike row n
    have q4 := room_row row
    have back : backP [2, 0, 0] [mM S bs, .str h, .str n] [some (mM S bs), some (.str h), some (.str n), some (rowD row), some (.int beg), some (optD stop)] = some [mM S bs, .str h, .str n] := by simp
    unfold outM
    by_cases c2 : n ∈ S.folk
    rotate_left
    · have q := (need_life S.folk n).2 c2
      have e : badC S (.putIn h n) = some 17 := by simp only [badC]; rw [c1]; simp [c2]
      rw [e]
      exact fnM_ex rfl (by simp [b_Manor_put_in, q1, im2, q]) back
    obtain ⟨j, q⟩ := (need_life S.folk n).1 c2
    by_cases c3 : stop.isSome = true
    · rw [if_pos c3] at q2
      have e : badC S (.putIn h n) = some 12 := by simp only [badC]; rw [c1]; simp [c2, c3]
      rw [e]
      exact fnM_ex rfl (by simp [b_Manor_put_in, q1, im2, q, q2]) back
    rw [if_neg c3] at q2
    by_cases c4 : n ∈ row
    · rw [if_pos c4] at q3
      have e : badC S (.putIn h n) = some 11 := by simp only [badC]; rw [c1]; simp [c2, c3, c4]
      rw [e]
      exact fnM_ex rfl (by simp [b_Manor_put_in, q1, im2, q, q2, q3]) back
    rw [if_neg c4] at q3
    by_cases c5 : 3 < row.length
    · rw [if_pos c5] at q4
      have e : badC S (.putIn h n) = some 10 := by simp only [badC]; rw [c1]; simp [c2, c3, c4, c5]
      rw [e]
      exact fnM_ex rfl (by simp [b_Manor_put_in, q1, im2, q, q2, q3, q4]) back
    rw [if_neg c5] at q4
    have e : badC S (.putIn h n) = none := by simp only [badC]; rw [c1]; simp [c2, c3, c4, c5]
    rw [e]
    refine fnM_next (ρ := [some (mM (doneS S (.putIn h n)) (bs ++ [.tup [dD (.putIn h n), stD S]])), some (.str h), some (.str n), some (rowD row), some (.int beg), some (optD stop)]) rfl ?_ (by simp)
    have e4 : addD (rowD row) (.tup [.str n]) = .ok (rowD (row ++ [n])) := by
      unfold rowD
      rw [r_addt]
      have : (row.map D.str).length + [D.str n].length ≤ sizeLine := sz_le (by simp; omega)
      rw [if_pos this]
      simp
    have e5 : doneS S (.putIn h n) = { S with lets := putL S.lets h ⟨row ++ [n], beg, stop⟩ } := by
      simp only [doneS]
      rw [c1]
    have e6 : D.tup [rowD (row ++ [n]), .int beg, optD stop] = hoD ⟨row ++ [n], beg, stop⟩ := rfl
    simp [b_Manor_put_in, q1, im2, q, q2, q3, q4, hi]
    rw [show D.tup [D.str "put_in", D.str h, D.str n] = dD (.putIn h n) from rfl, q5]
    simp [e4, putC_ho S hf]
    rw [e6, put_ho, e5]
theorem M_give (S : S7) (bs : List D) (h : Str) (d : Int) (hb : bs.length < 1000) (hf : S.lets.length < 1000) (hr : ∀ o, S.lets.lookup h = some o → 0 ≤ o.beg) : d_Manor_give_up [mM S bs, .str h, .int d] = outM S bs (.giveUp h d) [.str h, .int d] := by
  have q1 := need_holding S.lets h
  have q5 := Mnote S bs (.giveUp h d) hb
  have hi := isM (S := S) (bs := bs) (m := "note") (by decide)
  cases c1 : S.lets.lookup h with
  | none =>
    rw [c1] at q1
    have e : badC S (.giveUp h d) = some 18 := by simp only [badC]; rw [c1]
    unfold outM
    rw [e]
    exact fnM_ex (ρ := [some (mM S bs), some (.str h), some (.int d), none, none, none]) rfl (by simp [b_Manor_give_up, q1]) (by simp)
  | some o =>
    rw [c1] at q1
    obtain ⟨row, beg, stop⟩ := o
    have hbeg : 0 ≤ beg := hr _ c1
    have im := imm_ho ⟨row, beg, stop⟩
    simp only [hoD] at q1 im
    have im2 : immL [rowD row, .int beg, optD stop] = true := im
    have q2 := need_open stop
    have back : backP [2, 0, 0] [mM S bs, .str h, .int d] [some (mM S bs), some (.str h), some (.int d), some (rowD row), some (.int beg), some (optD stop)] = some [mM S bs, .str h, .int d] := by simp
    unfold outM
    by_cases c2 : beg < d ∧ d ≤ 9999
    rotate_left
    · have e : badC S (.giveUp h d) = some 3 := by simp only [badC]; rw [c1]; simp [c2]
      rw [e]
      by_cases c3 : 0 ≤ d ∧ d ≤ 9999
      · have c4 : d ≤ beg := by omega
        exact fnM_ex rfl (by simp [b_Manor_give_up, q1, im2, is_day, c3, c4]) back
      · exact fnM_ex rfl (by simp [b_Manor_give_up, q1, im2, is_day, decide_eq_false c3]) back
    have c3 : 0 ≤ d ∧ d ≤ 9999 := by omega
    have c4 : ¬ d ≤ beg := by omega
    by_cases c5 : stop.isSome = true
    · rw [if_pos c5] at q2
      have e : badC S (.giveUp h d) = some 12 := by simp only [badC]; rw [c1]; simp [c2, c5]
      rw [e]
      exact fnM_ex rfl (by simp [b_Manor_give_up, q1, im2, is_day, c3, c4, q2]) back
    rw [if_neg c5] at q2
    have e : badC S (.giveUp h d) = none := by simp only [badC]; rw [c1]; simp [c2, c5]
    rw [e]
    refine fnM_next (ρ := [some (mM (doneS S (.giveUp h d)) (bs ++ [.tup [dD (.giveUp h d), stD S]])), some (.str h), some (.int d), some (rowD row), some (.int beg), some (optD stop)]) rfl ?_ (by simp)
    have e5 : doneS S (.giveUp h d) = { S with lets := putL S.lets h ⟨row, beg, some d⟩ } := by
      simp only [doneS]
      rw [c1]
    have e6 : D.tup [rowD row, .int beg, .int d] = hoD ⟨row, beg, some d⟩ := rfl
    simp [b_Manor_give_up, q1, im2, is_day, c3, c4, q2, hi]
    rw [show D.tup [D.str "give_up", D.str h, D.int d] = dD (.giveUp h d) from rfl, q5]
    simp [putC_ho S hf]
    rw [e6, put_ho, e5]
end H37

namespace H37
open PySem PySem.Spec PyProof.Rows L2 DL
def FS (x : Str) : Prop := x.length ≤ 9 ∧ x.cps.toList.all (fun c => decide (c < 1114112)) = true
def Fine : Deed → Prop
  | .life n => FS n
  | .let_ n row d => FS n ∧ row.length ≤ 5 ∧ (∀ x ∈ row, FS x) ∧ d.natAbs.log2 < 1920
  | .putIn h n => FS h ∧ FS n
  | .giveUp h d => FS h ∧ d.natAbs.log2 < 1920
theorem pdL_strs (r : List Str) : pdL (r.map D.str) = some (r.map PyData.str) := by
  induction r with
  | nil => rfl
  | cons x r ih =>
    rw [List.map_cons]
    unfold pdL
    rw [ih]
    rfl
theorem siz_strs (r : List Str) (h : ∀ x ∈ r, FS x) : sizB.sizBs (r.map PyData.str) ≤ r.length * 102 := by
  induction r with
  | nil => exact Nat.le_refl _
  | cons x r ih =>
    rw [List.map_cons]
    unfold sizB.sizBs
    have a := ih fun y m => h y (List.mem_cons_of_mem _ m)
    have b := (h x (List.mem_cons_self ..)).1
    have c : sizB (.str x) = 10 * x.length + 10 := rfl
    rw [List.length_cons]
    omega
theorem ok_str {n : Nat} {x : Str} (h : FS x) : okB n (.str x) = true := by
  have : okB n (.str x) = x.cps.toList.all (fun c => decide (c < 16 ^ 8)) := by cases n <;> rfl
  rw [this]
  exact List.all_eq_true.mpr fun c m => decide_eq_true (Nat.lt_of_lt_of_le (of_decide_eq_true (List.all_eq_true.mp h.2 c m)) (by decide))
theorem ok_int {n : Nat} {i : Int} (h : i.natAbs.log2 < 1920) : okB n (.int i) = true := by
  have : okB n (.int i) = decide (i.natAbs.log2 < 1920) := by cases n <;> rfl
  rw [this, decide_eq_true h]
theorem lit_fs : FS "life" ∧ FS "let" ∧ FS "put_in" ∧ FS "give_up" := by
  refine ⟨⟨?_, ?_⟩, ⟨?_, ?_⟩, ⟨?_, ?_⟩, ?_, ?_⟩ <;> decide +kernel
theorem sizs {d : PyData} {ds : List PyData} : sizB.sizBs (d :: ds) = sizB d + 2 + sizB.sizBs ds := rfl
theorem sizs0 : sizB.sizBs [] = 0 := rfl
theorem sizt {ds : List PyData} : sizB (.tuple ds) = sizB.sizBs ds + 5 := rfl
theorem siz_s {x : Str} (h : FS x) : sizB (.str x) ≤ 100 := by
  have c : sizB (.str x) = 10 * x.length + 10 := rfl
  have := h.1
  omega
theorem siz_i {i : Int} : sizB (.int i) = 2000 := rfl
theorem coin_deed {d : Deed} (h : Fine d) : coinOk (.ok (dD d)) = true := by
  obtain ⟨l1, l2, l3, l4⟩ := lit_fs
  cases d with
  | life n =>
    have h : FS n := h
    have e : pdOf (dD (.life n)) = some (.tuple [.str "life", .str n]) := rfl
    unfold coinOk
    simp only [e]
    have s1 := siz_s l1
    have s2 := siz_s h
    simp only [List.all_cons, List.all_nil, ok_str l1, ok_str h, Bool.and_true, Bool.true_and, decide_eq_true_eq, sizt, sizs, sizs0]
    exact decide_eq_true (by omega)
  | let_ n row d =>
    obtain ⟨h1, h2, h3, h4⟩ := h
    have e : pdOf (dD (.let_ n row d)) = some (.tuple [.str "let", .str n, .tuple (row.map .str), .int d]) := by
      show (pdL [.str "let", .str n, .tup (row.map .str), .int d]).map PyData.tuple = _
      simp [pdL, pdOf, pdL_strs]
    unfold coinOk
    simp only [e]
    have s1 := siz_s l2
    have s2 := siz_s h1
    have s3 := siz_strs row h3
    have o : okB 3 (.tuple (row.map .str)) = true := by
      show (row.map PyData.str).all (okB 2) = true
      rw [List.all_map]
      exact List.all_eq_true.mpr fun x m => ok_str (h3 x m)
    simp only [List.all_cons, List.all_nil, ok_str l2, ok_str h1, o, ok_int h4, Bool.and_true, Bool.true_and, decide_eq_true_eq, sizt, sizs, sizs0, siz_i]
    exact decide_eq_true (by omega)
  | putIn x n =>
    obtain ⟨h1, h2⟩ := h
    have e : pdOf (dD (.putIn x n)) = some (.tuple [.str "put_in", .str x, .str n]) := rfl
    unfold coinOk
    simp only [e]
    have s1 := siz_s l3
    have s2 := siz_s h1
    have s3 := siz_s h2
    simp only [List.all_cons, List.all_nil, ok_str l3, ok_str h1, ok_str h2, Bool.and_true, Bool.true_and, decide_eq_true_eq, sizt, sizs, sizs0]
    exact decide_eq_true (by omega)
  | giveUp x d =>
    obtain ⟨h1, h2⟩ := h
    have e : pdOf (dD (.giveUp x d)) = some (.tuple [.str "give_up", .str x, .int d]) := rfl
    unfold coinOk
    simp only [e]
    have s1 := siz_s l4
    have s2 := siz_s h1
    simp only [List.all_cons, List.all_nil, ok_str l4, ok_str h1, ok_int h2, Bool.and_true, Bool.true_and, decide_eq_true_eq, sizt, sizs, sizs0, siz_i]
    exact decide_eq_true (by omega)
theorem lookup_mem {l : List (Str × Ho)} {h : Str} {o : Ho} (e : l.lookup h = some o) : (h, o) ∈ l := by
  induction l with
  | nil => cases e
  | cons p l ih =>
    obtain ⟨k, v⟩ := p
    rw [List.lookup_cons] at e
    cases q : h == k with
    | true =>
      rw [q] at e
      cases e
      have := eq_of_beq q
      subst this
      exact List.mem_cons_self ..
    | false =>
      rw [q] at e
      exact List.mem_cons_of_mem _ (ih e)
/-- what any deed does -/
def callD (S : S7) (bs : List D) (d : Deed) (ρ : DEnv) : SOut := match badC S d with
  | some c => .ex ⟨c, none⟩ (ρ.set 0 (some (mM S bs)))
  | none => .ret .non (ρ.set 0 (some (mM (doneS S d) (bs ++ [.tup [dD d, stD S]]))))
noncomputable abbrev R_chain : DEnv → SOut := (seqS (ifS (tstE (op2E eqD (varE 2) (cE (.str "life")))) (retX (callS 0 (isIns 0 "life") (pvE 0) (consA (mE [2, 0, 0] (op2E ixA (varE 1) (cE (.int 1)))) nilA) d_Manor_life)) nextS) (seqS (ifS (tstE (op2E eqD (varE 2) (cE (.str "let")))) (retX (callS 0 (isIns 0 "let") (pvE 0) (consA (mE [2, 0, 0] (op2E ixA (varE 1) (cE (.int 1)))) (consA (mE [2, 0, 0] (callE (one1 listF) (consA (op2E ixA (varE 1) (cE (.int 2))) nilA))) (consA (mE [2, 0, 0] (op2E ixA (varE 1) (cE (.int 3)))) nilA))) d_Manor_let)) nextS) (seqS (ifS (tstE (op2E eqD (varE 2) (cE (.str "put_in")))) (retX (callS 0 (isIns 0 "put_in") (pvE 0) (consA (mE [2, 0, 0] (op2E ixA (varE 1) (cE (.int 1)))) (consA (mE [2, 0, 0] (op2E ixA (varE 1) (cE (.int 2)))) nilA)) d_Manor_put_in)) nextS) (seqS (ifS (tstE (op2E eqD (varE 2) (cE (.str "change")))) badS nextS) (seqS (ifS (tstE (op2E eqD (varE 2) (cE (.str "give_up")))) (retX (callS 0 (isIns 0 "give_up") (pvE 0) (consA (mE [2, 0, 0] (op2E ixA (varE 1) (cE (.int 1)))) (consA (mE [2, 0, 0] (op2E ixA (varE 1) (cE (.int 2)))) nilA)) d_Manor_give_up)) nextS) (seqS (ifS (tstE (op2E eqD (varE 2) (cE (.str "present")))) badS nextS) badS))))))
noncomputable abbrev R_chain2 : DEnv → SOut := (seqS (ifS (tstE (op2E eqD (varE 2) (cE (.str "life")))) (retX (callS 0 (isIns 0 "life") (pvE 0) (consA (mE [2, 0, 0] (op2E ixA (varE 1) (cE (.int 1)))) nilA) d_Manor_life)) nextS) (seqS (ifS (tstE (op2E eqD (varE 2) (cE (.str "let")))) (retX (callS 0 (isIns 0 "let") (pvE 0) (consA (mE [2, 0, 0] (op2E ixA (varE 1) (cE (.int 1)))) (consA (mE [2, 0, 0] (callE (one1 listF) (consA (op2E ixA (varE 1) (cE (.int 2))) nilA))) (consA (mE [2, 0, 0] (op2E ixA (varE 1) (cE (.int 3)))) nilA))) d_Manor_let)) nextS) (seqS (ifS (tstE (op2E eqD (varE 2) (cE (.str "put_in")))) (retX (callS 0 (isIns 0 "put_in") (pvE 0) (consA (mE [2, 0, 0] (op2E ixA (varE 1) (cE (.int 1)))) (consA (mE [2, 0, 0] (op2E ixA (varE 1) (cE (.int 2)))) nilA)) d_Manor_put_in)) nextS) (seqS (ifS (tstE (op2E eqD (varE 2) (cE (.str "change")))) badS nextS) (seqS (ifS (tstE (op2E eqD (varE 2) (cE (.str "give_up")))) (retX (callS 0 (isIns 0 "give_up") (pvE 0) (consA (mE [2, 0, 0] (op2E ixA (varE 1) (cE (.int 1)))) (consA (mE [2, 0, 0] (op2E ixA (varE 1) (cE (.int 2)))) nilA)) d_Manor_give_up)) nextS) (seqS (ifS (tstE (op2E eqD (varE 2) (cE (.str "present")))) badS nextS) (seqS (ifS (tstE (op2E eqD (varE 2) (cE (.str "right")))) badS nextS) badS)))))))
def wordD : Deed → D
  | .life _ => .str "life"
  | .let_ _ _ _ => .str "let"
  | .putIn _ _ => .str "put_in"
  | .giveUp _ _ => .str "give_up"
theorem ne_words : ("let" : Str) ≠ "life" ∧ ("put_in" : Str) ≠ "life" ∧ ("put_in" : Str) ≠ "let" ∧ ("give_up" : Str) ≠ "life" ∧ ("give_up" : Str) ≠ "let" ∧ ("give_up" : Str) ≠ "put_in" ∧ ("give_up" : Str) ≠ "change" := by
  refine ⟨?_, ?_, ?_, ?_, ?_, ?_, ?_⟩ <;> decide +kernel
theorem deed_word (d : Deed) : ixA (dD d) (.int 0) = .ok (wordD d) := by cases d <;> rfl
theorem chain_ok {S : S7} {bs : List D} {d : Deed} (G : Good S) (hb : bs.length < 1000) (h : Fine d) :
    R_chain [some (mM S bs), some (dD d), some (wordD d)] = callD S bs d [some (mM S bs), some (dD d), some (wordD d)] ∧ R_chain2 [some (mM S bs), some (dD d), some (wordD d)] = callD S bs d [some (mM S bs), some (dD d), some (wordD d)] := by
  obtain ⟨w1, w2, w3, w4, w5, w6, w7⟩ := ne_words
  have fl : S.folk.length < 1000 := Nat.lt_of_le_of_lt G.f10 (by decide)
  have ll : S.lets.length < 1000 := Nat.lt_of_le_of_lt G.l8 (by decide)
  cases d with
  | life n =>
    have q := M_life S bs n hb (Nat.le_trans h.1 (by decide)) fl
    have hi := isM (S := S) (bs := bs) (m := "life") (by decide)
    unfold outM at q
    unfold callD
    cases c : badC S (.life n) with
    | some k => rw [c] at q; constructor <;> simp [wordD, dD, hi, q]
    | none => rw [c] at q; constructor <;> simp [wordD, hi] <;> simp [dD, q]
  | let_ n row k =>
    obtain ⟨h1, h2, h3, h4⟩ := h
    have q := M_let S bs n row k hb (Nat.le_trans h1.1 (by decide)) (Nat.le_trans h2 (by decide)) ll
    have hi := isM (S := S) (bs := bs) (m := "let") (by decide)
    unfold outM at q
    unfold callD
    cases c : badC S (.let_ n row k) with
    | some k => rw [c] at q; constructor <;> simp [wordD, dD, hi, q, w1, rowD]
    | none => rw [c] at q; constructor <;> simp [wordD, hi, w1] <;> simp [dD, q, rowD]
  | putIn x n =>
    have q := M_put S bs x n hb ll fun o e => (G.ln _ (lookup_mem e)).2.1
    have hi := isM (S := S) (bs := bs) (m := "put_in") (by decide)
    unfold outM at q
    unfold callD
    cases c : badC S (.putIn x n) with
    | some k => rw [c] at q; constructor <;> simp [wordD, dD, hi, q, w2, w3]
    | none => rw [c] at q; constructor <;> simp [wordD, hi, w2, w3] <;> simp [dD, q]
  | giveUp x k =>
    have q := M_give S bs x k hb ll fun o e => (G.ln _ (lookup_mem e)).2.2
    have hi := isM (S := S) (bs := bs) (m := "give_up") (by decide)
    unfold outM at q
    unfold callD
    cases c : badC S (.giveUp x k) with
    | some k => rw [c] at q; constructor <;> simp [wordD, dD, hi, q, w4, w5, w6, w7]
    | none => rw [c] at q; constructor <;> simp [wordD, hi, w4, w5, w6, w7] <;> simp [dD, q]
end H37

namespace H37
open PySem PySem.Spec PyProof.Rows L2 DL
variable {S : S7} {bs : List D} {d : Deed}
theorem M_do (G : Good S) (hb : bs.length < 1000) (h : Fine d) : d_Manor_do [mM S bs, dD d] = outM S bs d [dD d] := by
  have q := (chain_ok G hb h).2
  have q0 : b_Manor_do ([mM S bs, dD d].map some ++ List.replicate (3 - 2) none) = callD S bs d [some (mM S bs), some (dD d), some (wordD d)] := by
    rw [← q]
    refine seq_to (ρ1 := [some (mM S bs), some (dD d), some (wordD d)]) ?_ rfl
    simp [deed_word]
  unfold callD at q0
  unfold outM
  cases c : badC S d with
  | some k => rw [c] at q0; exact fnM_ex rfl q0 (by simp)
  | none => rw [c] at q0; exact fnM_ret rfl q0 (by simp)
theorem by_ok (G : Good S) (hb : bs.length < 1000) (h : Fine d) : d__law_by [mM S bs, dD d] = outM S bs d [dD d] := by
  have q := (chain_ok G hb h).1
  have qd := M_do G hb h
  have hi := isM (S := S) (bs := bs) (m := "do") (by decide)
  have hg : seqS (retX (callS 0 (isIns 0 "do") (pvE 0) (consA (mE [2, 0, 0] (varE 1)) nilA) d_Manor_do)) R_chain [some (mM S bs), some (dD d), some (wordD d)] = callD S bs d [some (mM S bs), some (dD d), some (wordD d)] := by
    unfold outM at qd
    unfold callD
    cases c : badC S d with
    | some k => rw [c] at qd; simp [hi, qd]
    | none => rw [c] at qd; simp [hi, qd]
  have q0 : b__law_by ([mM S bs, dD d].map some ++ List.replicate (3 - 2) none) = callD S bs d [some (mM S bs), some (dD d), some (wordD d)] := by
    refine seq_to (ρ1 := [some (mM S bs), some (dD d), some (wordD d)]) ?_ ?_
    · simp [deed_word]
    · unfold agreeS
      have hc : coinOk ((varE 1) [some (mM S bs), some (dD d), some (wordD d)]) = true := coin_deed h
      rw [if_pos ⟨hc, hg.trans q.symm⟩]
      exact q
  unfold callD at q0
  unfold outM
  cases c : badC S d with
  | some k => rw [c] at q0; exact fnM_ex rfl q0 (by simp)
  | none => rw [c] at q0; exact fnM_ret rfl q0 (by simp)
def wordOf (o : Option Nat) : Str := match o with
  | none => ""
  | some c => (kin c).getD ""
theorem badC_kin {c : Nat} (h : badC S d = some c) : c ∈ rsd := by
  cases d with
  | life n =>
    simp only [badC] at h
    split at h
    · split at h
      · cases h; decide
      · split at h
        · cases h; decide
        · cases h
    · cases h; decide
  | let_ n row d =>
    simp only [badC] at h
    repeat' split at h
    all_goals first | (cases h; done) | (cases h; decide)
  | putIn x n =>
    simp only [badC] at h
    repeat' split at h
    all_goals first | (cases h; done) | (cases h; decide)
  | giveUp x k =>
    simp only [badC] at h
    repeat' split at h
    all_goals first | (cases h; done) | (cases h; decide)
theorem pick_ok {c : Nat} (h : c ∈ rsd) (ρ : DEnv) (hρ : ρ[4]? = some none) (h5 : ρ.length = 5) : pickS isub [(1, some 4, fun x => setS 3 (kinE kin x.c)), (2, some 4, fun x => setS 3 (kinE kin x.c))] ⟨c, none⟩ ρ = .next (ρ.set 3 (some (.str (wordOf (some c))))) := by
  have h2 : (ρ.set 3 (some (.str (wordOf (some c)))))[4]? = some none := by
    rw [List.getElem?_set]
    simp [hρ]
  have hf : freeN (some 4) ρ = true := by simp [freeN, hρ]
  have hf2 : freeN (some 4) (ρ.set 3 (some (.str (wordOf (some c))))) = true := by simp only [freeN, h2]
  have go : ∀ (c : Nat) (s : Str), kin c = some s → ckN (some 4) (setS 3 (kinE kin c) ρ) = (if freeN (some 4) (ρ.set 3 (some (.str s))) = true then .next (ρ.set 3 (some (.str s))) else .bad) := fun c s e => by
    rw [r_set, r_kinE, e]
    rfl
  have hw : ∀ s, kin c = some s → wordOf (some c) = s := fun s e => by simp [wordOf, e]
  have fin : ∀ s, kin c = some s → ckN (some 4) (setS 3 (kinE kin c) ρ) = .next (ρ.set 3 (some (.str (wordOf (some c))))) := fun s e => by
    rw [go c s e, ← hw s e, if_pos hf2]
  simp only [rsd, List.mem_cons, List.not_mem_nil, or_false] at h
  unfold pickS
  rcases h with h | h | h | h | h | h | h | h | h <;> subst h
  · rw [show isub 3 1 = some true by decide]; simp only [hf, if_true]; exact fin _ rfl
  · rw [show isub 7 1 = some true by decide]; simp only [hf, if_true]; exact fin _ rfl
  · rw [show isub 8 1 = some true by decide]; simp only [hf, if_true]; exact fin _ rfl
  · rw [show isub 9 1 = some true by decide]; simp only [hf, if_true]; exact fin _ rfl
  · rw [show isub 10 1 = some true by decide]; simp only [hf, if_true]; exact fin _ rfl
  · rw [show isub 11 1 = some true by decide]; simp only [hf, if_true]; exact fin _ rfl
  · rw [show isub 12 1 = some true by decide]; simp only [hf, if_true]; exact fin _ rfl
  · rw [show isub 17 1 = some false by decide]; unfold pickS; rw [show isub 17 2 = some true by decide]; simp only [hf, if_true]; exact fin _ rfl
  · rw [show isub 18 1 = some false by decide]; unfold pickS; rw [show isub 18 2 = some true by decide]; simp only [hf, if_true]; exact fin _ rfl
/-- the manor behind a deed -/
def after (S : S7) (bs : List D) (d : Deed) : D := match badC S d with
  | some _ => mM S bs
  | none => mM (doneS S d) (bs ++ [.tup [dD d, stD S]])
theorem tried_ok (G : Good S) (hb : bs.length < 1000) (h : Fine d) : d__law_tried [mM S bs, dD d] = .ok (.tup [.str (wordOf (badC S d)), .non]) [after S bs d, dD d] := by
  have q := by_ok G hb h
  unfold outM at q
  unfold after
  cases c : badC S d with
  | some k =>
    rw [c] at q
    have hk := pick_ok (badC_kin c) [some (mM S bs), some (dD d), some .non, some (.str ""), none] rfl rfl
    refine fnM_ret (ρ := [some (mM S bs), some (dD d), some .non, some (.str (wordOf (some k))), none]) rfl ?_ (by simp)
    unfold b__law_tried
    refine seq_to (ρ1 := [some (mM S bs), some (dD d), some .non, none, none]) (by simp) ?_
    refine seq_to (ρ1 := [some (mM S bs), some (dD d), some .non, some (.str ""), none]) (by simp) ?_
    refine seq_to (ρ1 := [some (mM S bs), some (dD d), some .non, some (.str (wordOf (some k))), none]) ?_ (by simp)
    rw [r_tryS]
    simp [q]
    exact hk
  | none =>
    rw [c] at q
    refine fnM_ret (ρ := [some (mM (doneS S d) (bs ++ [.tup [dD d, stD S]])), some (dD d), some .non, some (.str ""), none]) rfl ?_ (by simp)
    unfold b__law_tried
    refine seq_to (ρ1 := [some (mM S bs), some (dD d), some .non, none, none]) (by simp) ?_
    refine seq_to (ρ1 := [some (mM S bs), some (dD d), some .non, some (.str ""), none]) (by simp) ?_
    refine seq_to (ρ1 := [some (mM (doneS S d) (bs ++ [.tup [dD d, stD S]])), some (dD d), some .non, some (.str ""), none]) ?_ (by simp [wordOf])
    rw [r_tryS]
    simp [q]
end H37

namespace H37
open PySem PySem.Spec PyProof.Rows L2 DL
variable {S : S7} {bs : List D} {d : Deed}
/-! ### what the law says -/
theorem all_in (f : List Str) {i : Nat} {ρ : DEnv} (hi : i < ρ.length) (h0 : 0 < i) (hS : ρ[0]? = some (some (mS S))) (r : List Str) : lcL (.nm i) yesT (op2E (inA false) (varE i) (op2E ixA (varE 0) (cE (.str "folk")))) ρ (r.map D.str) = .ok (r.map fun x => D.bl (decide (x ∈ S.folk))) := by
  induction r with
  | nil => rfl
  | cons x r ih =>
    rw [List.map_cons, List.map_cons]
    unfold lcL
    rw [ih]
    have h0' : i ≠ 0 := by omega
    have e : (ρ.set i (some (.str x)))[0]? = some (some (mS S)) := by rw [List.getElem?_set_ne h0']; exact hS
    simp [List.getElem?_set, hi, in_folk, e]
theorem bad_let (n : Str) (row : List Str) (k : Int) (hn : n.length ≤ 1000) (hr : row.length ≤ 1000) : d__law_bad_let [mS S, dD (.let_ n row k)] = .ok (.str (wordOf (badC S (.let_ n row k)))) := by
  have q1 := name_ok n hn
  have e1 : ixA (dD (.let_ n row k)) (.int 1) = .ok (.str n) := rfl
  have e2 : ixA (dD (.let_ n row k)) (.int 2) = .ok (rowD row) := rfl
  have e3 : ixA (dD (.let_ n row k)) (.int 3) = .ok (.int k) := rfl
  have i1 : decide ((1 : Int) ≤ (row.length : Int)) = decide (1 ≤ row.length) := by congr 1; simp; omega
  have i2 : decide ((row.length : Int) ≤ 4) = decide (row.length ≤ 4) := by congr 1; simp; omega
  have i3 : decide (((metD row).length : Int) < (row.length : Int)) = decide ((metD row).length < row.length) := by congr 1; simp
  have i4 : decide ((7 : Int) < (S.lets.length : Int)) = decide (7 < S.lets.length) := by congr 1; simp; omega
  have ls := lenset_row row hr
  have it : iterD (rowD row) = .ok (row.map .str) := rfl
  have hl : row.length ≤ sizeLine := sz_le hr
  have al := all_in (S := S) S.folk (i := 2) (ρ := [some (mS S), some (dD (.let_ n row k)), none]) (Nat.lt_succ_self 2) (by decide) rfl row
  have am : allF (.lst (row.map fun x => D.bl (decide (x ∈ S.folk)))) = .ok (.bl (row.all fun x => decide (x ∈ S.folk))) := all_map row
  simp only [badC]
  by_cases c1 : nameOk n = true
  rotate_left
  · rw [if_neg c1]
    simp [d__law_bad_let, fnD, b__law_bad_let, e1, q1, c1]
    rfl
  rw [if_pos c1]
  by_cases c2 : (S.lets.lookup n).isSome = true
  · rw [if_pos c2]
    simp [d__law_bad_let, fnD, b__law_bad_let, e1, q1, c1, in_lets, c2]
    rfl
  rw [if_neg c2]
  by_cases c3 : (1 ≤ row.length ∧ row.length ≤ 4) ∧ ¬ (metD row).length < row.length
  rotate_left
  · rw [if_neg c3]
    have : (decide (1 ≤ row.length) && decide (row.length ≤ 4) && !decide ((metD row).length < row.length)) = false := by
      cases q : (decide (1 ≤ row.length) && decide (row.length ≤ 4) && !decide ((metD row).length < row.length)) with
      | false => rfl
      | true =>
        simp only [Bool.and_eq_true, decide_eq_true_eq, Bool.not_eq_true', decide_eq_false_iff_not] at q
        exact absurd q c3
    by_cases a1 : 1 ≤ row.length
    · by_cases a2 : row.length ≤ 4
      · have a3 : (metD row).length < row.length := Classical.byContradiction fun z => c3 ⟨⟨a1, a2⟩, z⟩
        simp [d__law_bad_let, fnD, b__law_bad_let, e1, e2, q1, c1, in_lets, c2, len_row, ls, i1, i2, i3, a1, a2, a3]
        rfl
      · simp [d__law_bad_let, fnD, b__law_bad_let, e1, e2, q1, c1, in_lets, c2, len_row, ls, i1, i2, i3, a1, a2]
        rfl
    · simp [d__law_bad_let, fnD, b__law_bad_let, e1, e2, q1, c1, in_lets, c2, len_row, ls, i1, i2, i3, a1]
      rfl
  rw [if_pos c3]
  obtain ⟨⟨a1, a2⟩, a3⟩ := c3
  by_cases c4 : row.all (fun x => decide (x ∈ S.folk)) = true
  rotate_left
  · rw [if_neg c4]
    have c4' : (row.all fun x => decide (x ∈ S.folk)) = false := Bool.eq_false_iff.mpr c4
    rw [c4'] at am
    simp only [d__law_bad_let, fnD, b__law_bad_let]
    simp [e1, e2, q1, c1, in_lets, c2, len_row, ls, i1, i2, i3, a1, a2, a3, it, hl, al, am]
    rfl
  rw [if_pos c4]
  rw [c4] at am
  by_cases c5 : 0 ≤ k ∧ k ≤ 9999
  rotate_left
  · rw [if_neg c5]
    by_cases b1 : 0 ≤ k
    · have b2 : ¬ k ≤ 9999 := fun z => c5 ⟨b1, z⟩
      simp [d__law_bad_let, fnD, b__law_bad_let, e1, e2, e3, q1, c1, in_lets, c2, len_row, ls, i1, i2, i3, a1, a2, a3, it, hl, al, am, b1, b2]
      rfl
    · simp [d__law_bad_let, fnD, b__law_bad_let, e1, e2, e3, q1, c1, in_lets, c2, len_row, ls, i1, i2, i3, a1, a2, a3, it, hl, al, am, b1]
      rfl
  rw [if_pos c5]
  obtain ⟨b1, b2⟩ := c5
  by_cases c6 : 7 < S.lets.length
  · rw [if_pos c6]
    simp [d__law_bad_let, fnD, b__law_bad_let, e1, e2, e3, q1, c1, in_lets, c2, len_row, len_lets, ls, i1, i2, i3, i4, a1, a2, a3, it, hl, al, am, b1, b2, c6]
    rfl
  · rw [if_neg c6]
    simp [d__law_bad_let, fnD, b__law_bad_let, e1, e2, e3, q1, c1, in_lets, c2, len_row, len_lets, ls, i1, i2, i3, i4, a1, a2, a3, it, hl, al, am, b1, b2, c6]
    rfl
theorem bad_put (x n : Str) : d__law_bad_holding [mS S, dD (.putIn x n)] = .ok (.str (wordOf (badC S (.putIn x n)))) := by
  obtain ⟨w1, w2, w3, w4, w5, w6, w7⟩ := ne_words
  have w8 : ("put_in" : Str) ≠ "give_up" := fun e => w6 e.symm
  have w9 : ("put_in" : Str) ≠ "change" := by decide +kernel
  have e0 : ixA (dD (.putIn x n)) (.int 0) = .ok (.str "put_in") := rfl
  have e1 : ixA (dD (.putIn x n)) (.int 1) = .ok (.str x) := rfl
  have e2 : ixA (dD (.putIn x n)) (.int (-1)) = .ok (.str n) := rfl
  simp only [badC]
  cases c1 : S.lets.lookup x with
  | none =>
    simp [d__law_bad_holding, fnD, b__law_bad_holding, e1, in_lets, c1]
    rfl
  | some o =>
    obtain ⟨row, beg, stop⟩ := o
    dsimp only
    have i4 : decide ((3 : Int) < (row.length : Int)) = decide (3 < row.length) := by congr 1; simp; omega
    by_cases c2 : n ∈ S.folk
    · cases stop with
      | some s =>
        simp [d__law_bad_holding, fnD, b__law_bad_holding, e0, e1, e2, in_lets, ix_lets, c1, hoD, w8, w9, in_folk, c2, optD, isN]
        rfl
      | none =>
        by_cases c3 : n ∈ row
        · simp [d__law_bad_holding, fnD, b__law_bad_holding, e0, e1, e2, in_lets, ix_lets, c1, hoD, w8, w9, in_folk, c2, optD, isN, in_row, c3]
          rfl
        · by_cases c4 : 3 < row.length
          · simp [d__law_bad_holding, fnD, b__law_bad_holding, e0, e1, e2, in_lets, ix_lets, c1, hoD, w8, w9, in_folk, c2, optD, isN, in_row, c3, len_row, i4, c4]
            rfl
          · simp [d__law_bad_holding, fnD, b__law_bad_holding, e0, e1, e2, in_lets, ix_lets, c1, hoD, w8, w9, in_folk, c2, optD, isN, in_row, c3, len_row, i4, c4]
            rfl
    · simp [d__law_bad_holding, fnD, b__law_bad_holding, e0, e1, e2, in_lets, ix_lets, c1, hoD, w8, w9, in_folk, c2]
      rfl
theorem bad_give (x : Str) (k : Int) : d__law_bad_holding [mS S, dD (.giveUp x k)] = .ok (.str (wordOf (badC S (.giveUp x k)))) := by
  have e0 : ixA (dD (.giveUp x k)) (.int 0) = .ok (.str "give_up") := rfl
  have e1 : ixA (dD (.giveUp x k)) (.int 1) = .ok (.str x) := rfl
  have e2 : ixA (dD (.giveUp x k)) (.int 2) = .ok (.int k) := rfl
  simp only [badC]
  cases c1 : S.lets.lookup x with
  | none =>
    simp [d__law_bad_holding, fnD, b__law_bad_holding, e1, in_lets, c1]
    rfl
  | some o =>
    obtain ⟨row, beg, stop⟩ := o
    dsimp only
    by_cases a1 : beg < k
    · by_cases a2 : k ≤ 9999
      · cases stop with
        | some s =>
          simp [d__law_bad_holding, fnD, b__law_bad_holding, e0, e1, e2, in_lets, ix_lets, c1, hoD, a1, a2, optD, isN]
          rfl
        | none =>
          simp [d__law_bad_holding, fnD, b__law_bad_holding, e0, e1, e2, in_lets, ix_lets, c1, hoD, a1, a2, optD, isN]
          rfl
      · simp [d__law_bad_holding, fnD, b__law_bad_holding, e0, e1, e2, in_lets, ix_lets, c1, hoD, a1, a2]
        rfl
    · simp [d__law_bad_holding, fnD, b__law_bad_holding, e0, e1, e2, in_lets, ix_lets, c1, hoD, a1]
      rfl
theorem bad_ok (h : Fine d) : d__law_bad [mS S, dD d] = .ok (.str (wordOf (badC S d))) := by
  obtain ⟨w1, w2, w3, w4, w5, w6, w7⟩ := ne_words
  cases d with
  | life n =>
    have q1 := name_ok n (Nat.le_trans h.1 (by decide))
    have e0 : ixA (dD (.life n)) (.int 0) = .ok (.str "life") := rfl
    have e1 : ixA (dD (.life n)) (.int 1) = .ok (.str n) := rfl
    have i4 : decide ((9 : Int) < (S.folk.length : Int)) = decide (9 < S.folk.length) := by congr 1; simp; omega
    simp only [badC]
    by_cases c1 : nameOk n = true
    · by_cases c2 : n ∈ S.folk
      · simp [d__law_bad, fnD, b__law_bad, e0, e1, q1, c1, in_folk, c2]
        rfl
      · by_cases c3 : 9 < S.folk.length
        · simp [d__law_bad, fnD, b__law_bad, e0, e1, q1, c1, in_folk, c2, len_folk, i4, c3]
          rfl
        · simp [d__law_bad, fnD, b__law_bad, e0, e1, q1, c1, in_folk, c2, len_folk, i4, c3]
          rfl
    · simp [d__law_bad, fnD, b__law_bad, e0, e1, q1, c1]
      rfl
  | let_ n row k =>
    have q := bad_let (S := S) n row k (Nat.le_trans h.1.1 (by decide)) (Nat.le_trans h.2.1 (by decide))
    have e0 : ixA (dD (.let_ n row k)) (.int 0) = .ok (.str "let") := rfl
    simp [d__law_bad, fnD, b__law_bad, e0, w1, q]
  | putIn x n =>
    have q := bad_put (S := S) x n
    have e0 : ixA (dD (.putIn x n)) (.int 0) = .ok (.str "put_in") := rfl
    have e1 : inA false (.str "put_in") (.tup [.str "put_in", .str "change", .str "give_up"]) = .ok (.bl true) := by rfl
    simp only [d__law_bad, fnD, b__law_bad]
    simp [-r_inAt, e0, w2, w3, e1, q]
  | giveUp x k =>
    have q := bad_give (S := S) x k
    have e0 : ixA (dD (.giveUp x k)) (.int 0) = .ok (.str "give_up") := rfl
    have e1 : inA false (.str "give_up") (.tup [.str "put_in", .str "change", .str "give_up"]) = .ok (.bl true) := by rfl
    simp only [d__law_bad, fnD, b__law_bad]
    simp [-r_inAt, e0, w4, w5, e1, q]
end H37

namespace H37
open PySem PySem.Spec PyProof.Rows L2 DL
variable {S : S7} {bs : List D} {d : Deed}
theorem copy_ok : d__law_copy [mS S] = .ok (mS S) := by
  have a : one1 listF [folkD S.folk] = .ok (folkD S.folk) := rfl
  have b : one1 dictF [letsD S.lets] = .ok (letsD S.lets) := rfl
  have c : one1 dictF [D.dic []] = .ok (.dic []) := rfl
  have e : ndB [(.inr "folk" : Key), .inr "lets", .inr "stands", .inr "fresh"] = true := by decide +kernel
  simp [d__law_copy, fnD, b__law_copy, a, b, c, e]
  rfl
theorem putC_m (hf : S.lets.length < 1000) (h : Str) (d : D) : putC (letsD S.lets) (.str h) d = some (.dic (putKD (letsK S.lets) (.inr h) d)) := putC_ho S hf h d
theorem put_hoS (h : Str) (o : Ho) : putP (mS S) [.key (.inr "lets")] (.dic (putKD (letsK S.lets) (.inr h) (hoD o))) = mS { S with lets := putL S.lets h o } := by
  rw [putK_lets]
  exact mq_lets
theorem done_ok (G : Good S) (h : badC S d = none) : d__law_done [mS S, dD d] = .ok (mS (doneS S d)) := by
  obtain ⟨w1, w2, w3, w4, w5, w6, w7⟩ := ne_words
  have w8 : ("put_in" : Str) ≠ "strike" ∧ ("put_in" : Str) ≠ "right" ∧ ("put_in" : Str) ≠ "present" := by refine ⟨?_, ?_, ?_⟩ <;> decide +kernel
  have w9 : ("give_up" : Str) ≠ "strike" ∧ ("give_up" : Str) ≠ "right" ∧ ("give_up" : Str) ≠ "present" := by refine ⟨?_, ?_, ?_⟩ <;> decide +kernel
  have fl : S.folk.length < sizeLine := sz_lt (Nat.lt_of_le_of_lt G.f10 (by decide))
  have ll : S.lets.length < 1000 := Nat.lt_of_le_of_lt G.l8 (by decide)
  cases d with
  | life n =>
    have e0 : ixA (dD (.life n)) (.int 0) = .ok (.str "life") := rfl
    have e1 : ixA (dD (.life n)) (.int 1) = .ok (.str n) := rfl
    have e : putP (mS S) [.key (.inr "folk")] (.lst (S.folk.map D.str ++ [.str n])) = mS (doneS S (.life n)) := by
      rw [show S.folk.map D.str ++ [D.str n] = (S.folk ++ [n]).map D.str by simp, mq_folk]
      rfl
    refine fnD_ret (ρ := [some (mS S), some (dD (.life n)), some (mS (doneS S (.life n))), none, none, none]) rfl ?_
    simp [b__law_done, copy_ok, e0, e1]
    simp [folkD, fl, e]
  | let_ n row k =>
    have e0 : ixA (dD (.let_ n row k)) (.int 0) = .ok (.str "let") := rfl
    have e1 : ixA (dD (.let_ n row k)) (.int 1) = .ok (.str n) := rfl
    have e2 : ixA (dD (.let_ n row k)) (.int 2) = .ok (rowD row) := rfl
    have e3 : ixA (dD (.let_ n row k)) (.int 3) = .ok (.int k) := rfl
    refine fnD_ret (ρ := [some (mS S), some (dD (.let_ n row k)), some (mS (doneS S (.let_ n row k))), none, none, none]) rfl ?_
    simp [b__law_done, copy_ok, e0, e1, e2, e3, w1, putC_m ll]
    rw [show D.tup [rowD row, .int k, .non] = hoD ⟨row, k, none⟩ from rfl, put_hoS]
    rfl
  | putIn x n =>
    have e0 : ixA (dD (.putIn x n)) (.int 0) = .ok (.str "put_in") := rfl
    have e1 : ixA (dD (.putIn x n)) (.int 1) = .ok (.str x) := rfl
    have e2 : ixA (dD (.putIn x n)) (.int 2) = .ok (.str n) := rfl
    cases c1 : S.lets.lookup x with
    | none =>
      simp only [badC] at h
      rw [c1] at h
      cases h
    | some o =>
      obtain ⟨row, beg, stop⟩ := o
      have hrow : row.length ≤ 4 := (G.ln _ (lookup_mem c1)).2.1
      have im := imm_ho ⟨row, beg, stop⟩
      simp only [hoD] at im
      have im2 : immL [rowD row, .int beg, optD stop] = true := im
      have e4 : addD (rowD row) (.tup [.str n]) = .ok (rowD (row ++ [n])) := by
        unfold rowD
        rw [r_addt]
        have : (row.map D.str).length + [D.str n].length ≤ sizeLine := sz_le (by simp; omega)
        rw [if_pos this]
        simp
      have e5 : doneS S (.putIn x n) = { S with lets := putL S.lets x ⟨row ++ [n], beg, stop⟩ } := by
        simp only [doneS]
        rw [c1]
      have e6 : D.tup [rowD (row ++ [n]), .int beg, optD stop] = hoD ⟨row ++ [n], beg, stop⟩ := rfl
      refine fnD_ret (ρ := [some (mS S), some (dD (.putIn x n)), some (mS (doneS S (.putIn x n))), some (rowD row), some (.int beg), some (optD stop)]) rfl ?_
      simp [b__law_done, copy_ok, e0, e1, e2, w2, w3, w8, ix_lets, c1, hoD, im2, e4, putC_m ll]
      rw [e6, put_hoS, e5]
  | giveUp x k =>
    have e0 : ixA (dD (.giveUp x k)) (.int 0) = .ok (.str "give_up") := rfl
    have e1 : ixA (dD (.giveUp x k)) (.int 1) = .ok (.str x) := rfl
    have e2 : ixA (dD (.giveUp x k)) (.int 2) = .ok (.int k) := rfl
    cases c1 : S.lets.lookup x with
    | none =>
      simp only [badC] at h
      rw [c1] at h
      cases h
    | some o =>
      obtain ⟨row, beg, stop⟩ := o
      have im := imm_ho ⟨row, beg, stop⟩
      simp only [hoD] at im
      have im2 : immL [rowD row, .int beg, optD stop] = true := im
      have e5 : doneS S (.giveUp x k) = { S with lets := putL S.lets x ⟨row, beg, some k⟩ } := by
        simp only [doneS]
        rw [c1]
      have e6 : D.tup [rowD row, .int beg, .int k] = hoD ⟨row, beg, some k⟩ := rfl
      refine fnD_ret (ρ := [some (mS S), some (dD (.giveUp x k)), some (mS (doneS S (.giveUp x k))), some (rowD row), some (.int beg), some (optD stop)]) rfl ?_
      simp [b__law_done, copy_ok, e0, e1, e2, w4, w5, w6, w7, w9, ix_lets, c1, hoD, im2, putC_m ll]
      rw [e6, put_hoS, e5]
/-! ### same -/
def plainN : Nat → D → Bool
  | _, .non => true
  | _, .int _ => true
  | _, .str _ => true
  | n + 1, .lst ds => ds.all (plainN n) && decide (ds.length ≤ 1000)
  | n + 1, .tup ds => ds.all (plainN n) && decide (ds.length ≤ 1000)
  | _, _ => false
theorem same_all (n : Nat) (rec0 : List D → Out D) (ds : List D) (h : ∀ x ∈ ds, rec0 [x, x] = .ok (.bl true)) (a b : D) : lcL (.tp [2, 3]) yesT (callE rec0 (consA (varE 2) (consA (varE 3) nilA))) [some a, some b, none, none] (zipD ds ds) = .ok (ds.map fun _ => D.bl true) := by
  induction ds with
  | nil => rfl
  | cons x ds ih =>
    have ih := ih fun y m => h y (List.mem_cons_of_mem _ m)
    have hx := h x (List.mem_cons_self ..)
    show lcL _ _ _ _ (.tup [x, x] :: zipD ds ds) = _
    unfold lcL
    rw [ih]
    simp [hx]
theorem same_ok : ∀ (n : Nat) (d : D), plainN n d = true → d__law_same (n + 1) [d, d] = .ok (.bl true)
  | n, .non, _ => by simp [d__law_same, fnD, b__law_same, isN]
  | n, .int i, _ => by simp [d__law_same, fnD, b__law_same, isN, isiD]
  | n, .str i, _ => by simp [d__law_same, fnD, b__law_same, isN, isiD]
  | n + 1, .lst ds, h => by
    have h' : (ds.all (plainN n) && decide (ds.length ≤ 1000)) = true := h
    rw [Bool.and_eq_true] at h'
    have hl : ds.length ≤ sizeLine := sz_le (of_decide_eq_true h'.2)
    have q := same_all n (d__law_same (n + 1)) ds (fun x m => same_ok n x (List.all_eq_true.mp h'.1 x m)) (.lst ds) (.lst ds)
    have z : zipF [.lst ds, .lst ds] = .ok (zipD ds ds) := rfl
    have zl : (zipD ds ds).length ≤ sizeLine := by simpa [zipD] using hl
    have al : allF (.lst (ds.map fun _ => D.bl true)) = .ok (.bl true) := by rw [all_map (f := fun _ => true)]; simp
    show fnD 2 4 (b__law_same (d__law_same (n + 1))) [.lst ds, .lst ds] = _
    simp [fnD, b__law_same, isN, isiD, z, zl, q, al]
  | n + 1, .tup ds, h => by
    have h' : (ds.all (plainN n) && decide (ds.length ≤ 1000)) = true := h
    rw [Bool.and_eq_true] at h'
    have hl : ds.length ≤ sizeLine := sz_le (of_decide_eq_true h'.2)
    have q := same_all n (d__law_same (n + 1)) ds (fun x m => same_ok n x (List.all_eq_true.mp h'.1 x m)) (.tup ds) (.tup ds)
    have z : zipF [.tup ds, .tup ds] = .ok (zipD ds ds) := rfl
    have zl : (zipD ds ds).length ≤ sizeLine := by simpa [zipD] using hl
    have al : allF (.lst (ds.map fun _ => D.bl true)) = .ok (.bl true) := by rw [all_map (f := fun _ => true)]; simp
    show fnD 2 4 (b__law_same (d__law_same (n + 1))) [.tup ds, .tup ds] = _
    simp [fnD, b__law_same, isN, isiD, z, zl, q, al]
  | 0, .lst _, h => by cases h
  | 0, .tup _, h => by cases h
  | 0, .bl _, h => by cases h
  | 0, .dic _, h => by cases h
  | 0, .ins _ _, h => by cases h
  | 0, .opq _, h => by cases h
  | n + 1, .bl _, h => by cases h
  | n + 1, .dic _, h => by cases h
  | n + 1, .ins _ _, h => by cases h
  | n + 1, .opq _, h => by cases h
end H37

namespace H37
open PySem PySem.Spec PyProof.Rows L2 DL
variable {S : S7} {bs : List D} {d : Deed}
theorem name_len {n : Str} (h : nameOk n = true) : n.length ≤ 8 := by
  unfold nameOk at h
  rw [Bool.and_eq_true] at h
  exact (of_decide_eq_true h.1).2
theorem look_none : ∀ {l : List (Str × Ho)} {n : Str}, l.lookup n = none → (l.any fun p => decide (p.1 = n)) = false ∧ n ∉ l.map (·.1)
  | [], n, _ => ⟨rfl, fun m => by cases m⟩
  | (k, v) :: l, n, h => by
    rw [List.lookup_cons] at h
    cases q : n == k with
    | true => rw [q] at h; cases h
    | false =>
      rw [q] at h
      obtain ⟨a, b⟩ := look_none (l := l) h
      have ne : ¬ k = n := fun e => by subst e; simp at q
      refine ⟨by rw [List.any_cons, a, decide_eq_false ne]; rfl, fun m => ?_⟩
      rw [List.map_cons] at m
      rcases List.mem_cons.mp m with e | m
      · exact ne e.symm
      · exact b m
theorem look_some {l : List (Str × Ho)} {n : Str} {o : Ho} (h : l.lookup n = some o) : (l.any fun p => decide (p.1 = n)) = true :=
  List.any_eq_true.mpr ⟨_, lookup_mem h, decide_eq_true rfl⟩
theorem put_old {l : List (Str × Ho)} {n : Str} {o h : Ho} (e : l.lookup n = some o) : putL l n h = l.map (fun p => if p.1 = n then (p.1, h) else p) := by
  unfold putL
  rw [look_some e]
  rfl
theorem put_new {l : List (Str × Ho)} {n : Str} {h : Ho} (e : l.lookup n = none) : putL l n h = l ++ [(n, h)] := by
  unfold putL
  rw [(look_none e).1]
  rfl
theorem good_old (G : Good S) {n : Str} {o h : Ho} (e : S.lets.lookup n = some o) (h4 : h.row.length ≤ 4) (h0 : 0 ≤ h.beg) : Good { S with lets := putL S.lets n h } := by
  refine ⟨G.f10, G.fn, ?_, fun p m => ?_, ?_⟩
  · show (putL S.lets n h).length ≤ 8
    rw [put_old e, List.length_map]
    exact G.l8
  · have m : p ∈ putL S.lets n h := m
    rw [put_old e] at m
    obtain ⟨q, mq, rfl⟩ := List.mem_map.mp m
    have g := G.ln q mq
    by_cases c : q.1 = n
    · rw [if_pos c]
      exact ⟨g.1, h4, h0⟩
    · rw [if_neg c]
      exact g
  · show ((putL S.lets n h).map (·.1)).Nodup
    rw [put_old e, List.map_map]
    have : S.lets.map ((fun p : Str × Ho => p.1) ∘ fun p => if p.1 = n then (p.1, h) else p) = S.lets.map (·.1) := List.map_congr_left fun p _ => by
      by_cases c : p.1 = n <;> simp [c]
    rw [this]
    exact G.nd
theorem good_done (G : Good S) (hd : badC S d = none) : Good (doneS S d) := by
  cases d with
  | life n =>
    simp only [badC] at hd
    split at hd
    · rename_i c1
      split at hd
      · cases hd
      · split at hd
        · cases hd
        · rename_i c3
          refine ⟨?_, fun x m => ?_, G.l8, G.ln, G.nd⟩
          · show (S.folk ++ [n]).length ≤ 10
            rw [List.length_append, List.length_singleton]
            omega
          · have m : x ∈ S.folk ++ [n] := m
            rcases List.mem_append.mp m with m | m
            · exact G.fn x m
            · rw [List.mem_singleton.mp m]
              exact name_len c1
    · cases hd
  | let_ n row k =>
    simp only [badC] at hd
    split at hd
    · rename_i c1
      split at hd
      · cases hd
      · rename_i c2
        split at hd
        · rename_i c3
          split at hd
          · split at hd
            · rename_i c5
              split at hd
              · cases hd
              · rename_i c6
                have e : S.lets.lookup n = none := by
                  cases q : S.lets.lookup n with
                  | none => rfl
                  | some o => rw [q] at c2; exact absurd rfl c2
                refine ⟨G.f10, G.fn, ?_, fun p m => ?_, ?_⟩
                · show (putL S.lets n _).length ≤ 8
                  rw [put_new e, List.length_append, List.length_singleton]
                  omega
                · have m : p ∈ putL S.lets n ⟨row, k, none⟩ := m
                  rw [put_new e] at m
                  rcases List.mem_append.mp m with m | m
                  · exact G.ln p m
                  · rw [List.mem_singleton.mp m]
                    exact ⟨name_len c1, c3.1.2, c5.1⟩
                · show ((putL S.lets n _).map (·.1)).Nodup
                  rw [put_new e, List.map_append]
                  refine List.nodup_append.mpr ⟨G.nd, by simp, fun a m b m2 => ?_⟩
                  have : b = n := by simpa using m2
                  subst this
                  exact fun q => (look_none e).2 (q ▸ m)
            · cases hd
          · cases hd
        · cases hd
    · cases hd
  | putIn x n =>
    simp only [badC] at hd
    simp only [doneS]
    cases e : S.lets.lookup x with
    | none => rw [e] at hd; cases hd
    | some o =>
      rw [e] at hd
      dsimp only at hd ⊢
      have g := G.ln _ (lookup_mem e)
      split at hd
      · split at hd
        · cases hd
        · split at hd
          · cases hd
          · split at hd
            · cases hd
            · rename_i c
              refine good_old G e ?_ g.2.2
              show (o.row ++ [n]).length ≤ 4
              rw [List.length_append, List.length_singleton]
              omega
      · cases hd
  | giveUp x k =>
    simp only [doneS]
    cases e : S.lets.lookup x with
    | none => exact G
    | some o =>
      have g := G.ln _ (lookup_mem e)
      exact good_old G e g.2.1 g.2.2
def nextS7 (S : S7) (d : Deed) : S7 := match badC S d with
  | some _ => S
  | none => doneS S d
def nextB (S : S7) (bs : List D) (d : Deed) : List D := match badC S d with
  | some _ => bs
  | none => bs ++ [.tup [dD d, stD S]]
theorem after_is : after S bs d = mM (nextS7 S d) (nextB S bs d) := by
  unfold after nextS7 nextB
  cases badC S d <;> rfl
theorem good_next (G : Good S) : Good (nextS7 S d) := by
  unfold nextS7
  cases e : badC S d with
  | some _ => exact G
  | none => exact good_done G e
theorem word_ne {c : Nat} (h : c ∈ rsd) : wordOf (some c) ≠ "" := by
  simp only [rsd, List.mem_cons, List.not_mem_nil, or_false] at h
  rcases h with h | h | h | h | h | h | h | h | h <;> subst h <;> decide +kernel
theorem not_present : ∃ b : Str, wordD d = .str b ∧ b ≠ "present" := by
  cases d
  · exact ⟨_, rfl, by decide +kernel⟩
  · exact ⟨_, rfl, by decide +kernel⟩
  · exact ⟨_, rfl, by decide +kernel⟩
  · exact ⟨_, rfl, by decide +kernel⟩
theorem play_ok (G : Good S) (hb : bs.length < 1000) (h : Fine d) : d__law_play [mM S bs, mS S, dD d] = .ok (mS (nextS7 S d)) [mM (nextS7 S d) (nextB S bs d), mS S, dD d] := by
  have q1 := bad_ok (S := S) h
  have q2 := tried_ok G hb h
  rw [after_is] at q2
  obtain ⟨w, hw, nw⟩ := not_present (d := d)
  have hw0 := deed_word d
  rw [hw] at hw0
  have s := same_ok 5 .non rfl
  cases c : badC S d with
  | some k =>
    rw [c] at q1 q2
    have ne := word_ne (badC_kin c)
    have e1 : nextS7 S d = S := by unfold nextS7; rw [c]
    rw [e1] at q2 ⊢
    refine fnM_ret (ρ := [some (mM S (nextB S bs d)), some (mS S), some (dD d), some (.str (wordOf (some k))), none, some (.str (wordOf (some k))), some .non]) rfl ?_ (by simp)
    simp [b__law_play, q1, q2, ne]
  | none =>
    rw [c] at q1 q2
    have q3 := done_ok G c
    have e1 : nextS7 S d = doneS S d := by unfold nextS7; rw [c]
    rw [e1] at q2 ⊢
    have e2 : wordOf none = "" := rfl
    rw [e2] at q1 q2
    refine fnM_ret (ρ := [some (mM (doneS S d) (nextB S bs d)), some (mS S), some (dD d), some (.str ""), some .non, some (.str ""), some .non]) rfl ?_ (by simp)
    simp [b__law_play, q1, q2, hw0, nw, s, q3]
end H37

namespace H37
open PySem PySem.Spec PyProof.Rows L2 DL
variable {S : S7} {bs : List D} {d : Deed}
/-! ### what stands, told -/
def sortedD (l : List (Str × Ho)) : D := .lst ((sortS (l.map (·.1))).map .str)
theorem keyS_lets (l : List (Str × Ho)) : keyS ((letsK l).map (·.1)) = some (l.map (·.1)) := by
  induction l with
  | nil => rfl
  | cons p l ih =>
    unfold letsK at ih ⊢
    rw [List.map_cons, List.map_cons, List.map_cons]
    unfold keyS
    rw [ih]
    rfl
theorem sort_lets (l : List (Str × Ho)) (h : l.length ≤ 8) : sortF (letsD l) = .ok (sortedD l) := by
  have hl : (letsK l).length < 64 := by
    unfold letsK
    rw [List.length_map]
    omega
  have e := keyS_lets l
  unfold letsD sortF
  dsimp only
  rw [if_pos hl, e]
  cases l with
  | nil => rfl
  | cons p l => rfl
theorem sorted_len (l : List (Str × Ho)) : (sortS (l.map (·.1))).length = l.length := by
  rw [(sortB_perm (le := leS) (l.map (·.1))).length_eq, List.length_map]
theorem plain_strs (n : Nat) (r : List Str) (h : r.length ≤ 1000) : plainN (n + 1) (.lst (r.map .str)) = true := by
  show ((r.map D.str).all (plainN n) && decide ((r.map D.str).length ≤ 1000)) = true
  rw [List.length_map, decide_eq_true h, Bool.and_true, List.all_map]
  exact List.all_eq_true.mpr fun x _ => by cases n <;> rfl
theorem plain_opt (n : Nat) (o : Option Int) : plainN n (optD o) = true := by cases o <;> cases n <;> rfl
theorem M_lives : d_Manor_lives [mM S bs] = .ok (folkD S.folk) := by
  have a : one1 listF [folkD S.folk] = .ok (folkD S.folk) := rfl
  simp [d_Manor_lives, fnD, b_Manor_lives, a]
theorem M_holdings (h : S.lets.length ≤ 8) : d_Manor_holdings [mM S bs] = .ok (sortedD S.lets) := by
  have a : one1 sortF [letsD S.lets] = .ok (sortedD S.lets) := sort_lets S.lets h
  simp [d_Manor_holdings, fnD, b_Manor_holdings, a]
theorem M_coming : d_Manor_coming [mM S bs] = .ok (.int 1) := by
  simp [d_Manor_coming, fnD, b_Manor_coming]
theorem M_row {n : Str} {o : Ho} (h : S.lets.lookup n = some o) : d_Manor_row_of [mM S bs, .str n] = .ok (.lst (o.row.map .str)) := by
  have q := need_holding S.lets n
  rw [h] at q
  have a : one1 listF [rowD o.row] = .ok (.lst (o.row.map .str)) := rfl
  simp [d_Manor_row_of, fnD, b_Manor_row_of, q, hoD, a]
theorem M_term {n : Str} {o : Ho} (h : S.lets.lookup n = some o) : d_Manor_term [mM S bs, .str n] = .ok (.tup [.int o.beg, optD o.stop]) := by
  have q := need_holding S.lets n
  rw [h] at q
  simp [d_Manor_term, fnD, b_Manor_term, q, hoD]
theorem sort_nil : sortF (.dic []) = .ok (.lst []) := rfl
theorem M_pres : d_Manor_presentments [mM S bs] = .ok (.lst []) := by
  have a : one1 sortF [D.dic []] = .ok (.lst []) := rfl
  have l : ∀ h ρ, lcL (.nm 1) yesT h ρ [] = .ok [] := fun _ _ => rfl
  simp [d_Manor_presentments, fnD, b_Manor_presentments, a, l]
theorem M_len : d_Manor___len__ [mM S bs] = .ok (.int 0) := by
  simp [d_Manor___len__, fnD, b_Manor___len__]
theorem M_lenO : lenO 0 d_Manor___len__ [mM S bs] = .ok (.int 0) := by
  have q := M_len (S := S) (bs := bs)
  unfold mM at q ⊢
  unfold lenO
  dsimp only
  rw [if_pos rfl, q]
  rfl
noncomputable abbrev B_st : DEnv → SOut := (seqS (unpS (.tp [4, 5, 6]) (op2E ixA (op2E ixA (varE 1) (cE (.str "lets"))) (varE 2))) (ifS (notT (tstE (callE (d__law_same 6) (consA (lstE (consA (methE 0 "row_of" (varE 0) (consA (varE 2) nilA) d_Manor_row_of) (consA (methE 0 "term" (varE 0) (consA (varE 2) nilA) d_Manor_term) nilA))) (consA (lstE (consA (callE (one1 listF) (consA (varE 4) nilA)) (consA (tupE (consA (varE 5) (consA (varE 6) nilA))) nilA))) nilA))))) (retS (cE (.bl false))) nextS))
theorem st_turn (G : Good S) {n : Str} {o : Ho} (h : S.lets.lookup n = some o) (t3 t4 t5 t6 t7 : Option D) :
    B_st [some (mM S bs), some (mS S), some (.str n), t3, t4, t5, t6, t7] = .next [some (mM S bs), some (mS S), some (.str n), t3, some (rowD o.row), some (.int o.beg), some (optD o.stop), t7] := by
  have g := G.ln _ (lookup_mem h)
  have q1 := M_row (bs := bs) h
  have q2 := M_term (bs := bs) h
  have i1 := isM (S := S) (bs := bs) (m := "row_of") (by decide)
  have i2 := isM (S := S) (bs := bs) (m := "term") (by decide)
  have a : one1 listF [rowD o.row] = .ok (.lst (o.row.map .str)) := rfl
  have p : plainN 5 (.lst [.lst (o.row.map .str), .tup [.int o.beg, optD o.stop]]) = true := by
    show ([D.lst (o.row.map .str), .tup [.int o.beg, optD o.stop]].all (plainN 4) && decide (2 ≤ 1000)) = true
    have p1 := plain_strs 3 o.row (Nat.le_trans g.2.1 (by decide))
    have p2 : plainN 4 (.tup [.int o.beg, optD o.stop]) = true := by
      show ([D.int o.beg, optD o.stop].all (plainN 3) && decide (2 ≤ 1000)) = true
      simp [plain_opt]
      rfl
    simp [p1, p2]
  have s := same_ok 5 _ p
  simp [ix_lets, h, hoD, q1, q2, i1, i2, a, s]
theorem mem_look {l : List (Str × Ho)} {n : Str} (h : n ∈ l.map (·.1)) : ∃ o, l.lookup n = some o := by
  cases q : l.lookup n with
  | some o => exact ⟨o, rfl⟩
  | none => exact absurd h (look_none q).2
theorem stands_ok (G : Good S) : d__law_stands [mM S bs, mS S] = .ok (.bl true) := by
  have q1 := M_lives (S := S) (bs := bs)
  have q2 := M_holdings (bs := bs) G.l8
  have q3 := M_coming (S := S) (bs := bs)
  have q4 := M_pres (S := S) (bs := bs)
  have q5 := M_lenO (S := S) (bs := bs)
  have i1 := isM (S := S) (bs := bs) (m := "lives") (by decide)
  have i2 := isM (S := S) (bs := bs) (m := "holdings") (by decide)
  have i3 := isM (S := S) (bs := bs) (m := "coming") (by decide)
  have i4 := isM (S := S) (bs := bs) (m := "presentments") (by decide)
  have a : one1 sortF [letsD S.lets] = .ok (sortedD S.lets) := sort_lets S.lets G.l8
  have b : one1 sortF [D.dic []] = .ok (.lst []) := rfl
  have l0 : ∀ h ρ, lcL (.nm 7) yesT h ρ [] = .ok [] := fun _ _ => rfl
  have p : plainN 5 (.lst [folkD S.folk, sortedD S.lets, .int 1]) = true := by
    show ([folkD S.folk, sortedD S.lets, .int 1].all (plainN 4) && decide (3 ≤ 1000)) = true
    have p1 : plainN 4 (folkD S.folk) = true := plain_strs 3 S.folk (Nat.le_trans G.f10 (by decide))
    have p2 : plainN 4 (sortedD S.lets) = true := plain_strs 3 _ (by rw [sorted_len]; exact Nat.le_trans G.l8 (by decide))
    simp [p1, p2]
    rfl
  have s1 := same_ok 5 _ p
  have s2 := same_ok 5 (.lst []) rfl
  have s3 := same_ok 5 (.int 0) rfl
  have hk : (letsK S.lets).map (fun kd => keyD kd.1) = (S.lets.map (·.1)).map D.str := by
    unfold letsK
    rw [List.map_map, List.map_map]
    rfl
  obtain ⟨ρ', e, t2, t4, t5, t6, rfl⟩ := forL_all (tg := .nm 2) (b := B_st) (ds := (S.lets.map (·.1)).map D.str) (P := fun ρ => ∃ t2 t4 t5 t6 : Option D, ρ = [some (mM S bs), some (mS S), t2, none, t4, t5, t6, none]) (fun x hx ρ => by
    rintro ⟨t2, t4, t5, t6, rfl⟩
    obtain ⟨n, hn, rfl⟩ := List.mem_map.mp hx
    obtain ⟨o, ho⟩ := mem_look hn
    exact ⟨_, _, rfl, .inl (st_turn G ho none t4 t5 t6 none), some (.str n), some (rowD o.row), some (.int o.beg), some (optD o.stop), rfl⟩) (ρ := [some (mM S bs), some (mS S), none, none, none, none, none, none]) ⟨none, none, none, none, rfl⟩
  have fl : forLk (.nm 2) (mE [0, 0, 0, 0, 0, 0, 0, 0] (op2E ixA (varE 1) (cE (.str "lets")))) B_st [some (mM S bs), some (mS S), none, none, none, none, none, none] = .next [some (mM S bs), some (mS S), t2, none, t4, t5, t6, none] := by
    unfold forLk
    simp
    unfold letsD
    dsimp only
    rw [hk, e]
  simp only [d__law_stands, fnD, b__law_stands]
  simp [q1, q2, q3, i1, i2, i3, a, s1]
  rw [fl]
  simp [b, l0, q4, i4, s2, q5, s3]
end H37

namespace H37
open PySem PySem.Spec PyProof.Rows L2 DL
theorem mix_ok (n : Int) : ∃ r : Int, d__law_mix [.int n] = .ok (.int r) := by
  have b1 : 0 ≤ (n * 48271 + 11) % 2147483647 ∧ (n * 48271 + 11) % 2147483647 < 2147483647 := ⟨Int.emod_nonneg _ (by decide), Int.emod_lt_of_pos _ (by decide)⟩
  generalize e1 : (n * 48271 + 11) % 2147483647 = x at b1
  have b2 : 0 ≤ (x * x + 40692 * x + n) % 2147483399 ∧ (x * x + 40692 * x + n) % 2147483399 < 2147483399 := ⟨Int.emod_nonneg _ (by decide), Int.emod_lt_of_pos _ (by decide)⟩
  generalize e2 : (x * x + 40692 * x + n) % 2147483399 = y at b2
  have c1 : CMul n 48271 := CMul_r (by decide)
  have c2 : CMul x x := CMul_r (by omega)
  have c3 : CMul 40692 x := CMul_r (by omega)
  have c4 : CMul y y := CMul_r (by omega)
  have c5 : CMul 69621 y := CMul_r (by omega)
  exact ⟨_, by simp [d__law_mix, fnD, b__law_mix, c1, e1, c2, c3, e2, c4, c5]; rfl⟩
theorem raw_ok (ns : List Int) (k : Int) (hn : ns.length ≤ 63) : ∃ r : Int, d__law_raw [.lst (ns.map .int), .int k] = .ok (.int r) := by
  have p : CPow 10 18 := by decide
  have c : CMul 7 k := CMul_l (by decide)
  have key : ∀ cell : Int, ∃ ρ' : DEnv, ∃ r : Int, forL (.nm 4) (setS 3 (op2E addD (op2E mulD (varE 3) (cE (.int 2147483563))) (callE d__law_mix (consA (op2E addD (op2E addD (varE 2) (op2E mulD (cE (.int 1009)) (varE 1))) (op2E mulD (cE (.int 7919)) (varE 4))) nilA)))) (rngL 0 40) [some (.lst (ns.map .int)), some (.int k), some (.int cell), some (.int 0), none] = .next ρ' ∧ ρ'[3]? = some (some (.int r)) := by
    intro cell
    obtain ⟨ρ', e, f, t, rfl⟩ := forL_all (tg := .nm 4) (b := (setS 3 (op2E addD (op2E mulD (varE 3) (cE (.int 2147483563))) (callE d__law_mix (consA (op2E addD (op2E addD (varE 2) (op2E mulD (cE (.int 1009)) (varE 1))) (op2E mulD (cE (.int 7919)) (varE 4))) nilA))))) (ds := rngL 0 40) (P := fun ρ => ∃ (f : Int) (t : Option D), ρ = [some (.lst (ns.map .int)), some (.int k), some (.int cell), some (.int f), t]) (ρ := [some (.lst (ns.map .int)), some (.int k), some (.int cell), some (.int 0), none]) (fun d hd ρ => by
      rintro ⟨f, t, rfl⟩
      obtain ⟨i, hi, rfl⟩ := mem_rngL hd
      have c1 : CMul f 2147483563 := CMul_r (by decide)
      have c2 : CMul 1009 k := CMul_l (by decide)
      have c3 : ∀ x, CMul 7919 x := fun x => CMul_l (by decide)
      obtain ⟨r, hr⟩ := mix_ok (cell + 1009 * k + 7919 * (i : Int))
      exact ⟨_, _, rfl, .inl (by simp [c1, c2, c3, hr]; exact ⟨rfl, rfl⟩), _, _, rfl⟩) ⟨0, none, rfl⟩
    exact ⟨_, f, e, rfl⟩
  by_cases h : 0 < ns.length
  · have g1 : (0 : Int) < (ns.length : Int) := by omega
    have g2 : CDivW k (ns.length : Int) := ⟨g1, by
      have : Nat.log2 (ns.length) ≤ ns.length := Nat.log2_le_self _
      show Nat.log2 (ns.length : Int).natAbs < 9000
      rw [Int.natAbs_natCast]
      omega⟩
    have g3 : ∀ x, CMul 9973 x := fun x => CMul_l (by decide)
    have g4 : 0 ≤ k % (ns.length : Int) := Int.emod_nonneg _ (by omega)
    have g5 : k % (ns.length : Int) < ns.length := Int.emod_lt_of_pos _ g1
    have g6 : atI (ns.map D.int) (k % (ns.length : Int)) = some (.int (ns[(k % (ns.length : Int)).toNat]'(by omega))) := by
      rw [atI_nn g4, List.getElem?_map, List.getElem?_eq_getElem (by omega)]
      rfl
    generalize ns[(k % (ns.length : Int)).toNat]'(by omega) = z at g6
    obtain ⟨ρ', r, e1, e2⟩ := key (z + 9973 * (k / (ns.length : Int)))
    by_cases q : k < (ns.length : Int) ∧ 1000000000000000000 ≤ z + 9973 * (k / (ns.length : Int))
    · exact ⟨_, by simp [d__law_raw, fnD, b__law_raw, p, c, h, g1, g2, g3, g6, q.1, q.2]; rfl⟩
    · refine ⟨r, ?_⟩
      by_cases q1 : k < (ns.length : Int)
      · have q2 : ¬ (1000000000000000000 ≤ z + 9973 * (k / (ns.length : Int))) := fun y => q ⟨q1, y⟩
        simp [d__law_raw, fnD, b__law_raw, p, c, h, g1, g2, g3, g6, q1, q2, e1, e2]
      · simp [d__law_raw, fnD, b__law_raw, p, c, h, g1, g2, g3, g6, q1, e1, e2]
  · have e0 : ns = [] := List.eq_nil_of_length_eq_zero (by omega)
    subst e0
    obtain ⟨ρ', r, e1, e2⟩ := key (7 * k + 3)
    refine ⟨r, ?_⟩
    simp at e1
    by_cases q1 : k < 0
    · by_cases q2 : 1000000000000000000 ≤ 7 * k + 3
      · omega
      · simp [d__law_raw, fnD, b__law_raw, p, c, q1, q2, e1, e2]
    · simp [d__law_raw, fnD, b__law_raw, p, c, q1, e1, e2]
/-- the digits lie below their sizes -/
def Fits : List Int → List Int → Prop
  | [], [] => True
  | s :: ss, d :: ds => 0 ≤ d ∧ d < s ∧ Fits ss ds
  | _, _ => False
theorem Fits.snoc {s d : Int} (h : 0 ≤ d ∧ d < s) : ∀ {ss ds : List Int}, Fits ss ds → Fits (ss ++ [s]) (ds ++ [d])
  | [], [], _ => ⟨h.1, h.2, trivial⟩
  | [], _ :: _, f => f.elim
  | _ :: _, [], f => f.elim
  | _ :: _, _ :: _, ⟨a, b, c⟩ => ⟨a, b, Fits.snoc h c⟩
theorem Fits.len : ∀ {ss ds : List Int}, Fits ss ds → ds.length = ss.length
  | [], [], _ => rfl
  | [], _ :: _, f => f.elim
  | _ :: _, [], f => f.elim
  | _ :: _, _ :: _, ⟨a, b, c⟩ => by rw [List.length_cons, List.length_cons, Fits.len c]
theorem map_int_inj : ∀ {a b : List Int}, a.map D.int = b.map D.int → a = b
  | [], [], _ => rfl
  | [], _ :: _, h => by simp at h
  | _ :: _, [], h => by simp at h
  | x :: xs, y :: ys, h => by
    rw [List.map_cons, List.map_cons] at h
    injection h with h1 h2
    injection h1 with h3
    rw [h3, map_int_inj h2]
theorem digits_ok (ns : List Int) (k : Int) (sizes : List Int) (hn : ns.length ≤ 63) (hs : ∀ s ∈ sizes, 0 < s ∧ s.natAbs.log2 < 9000) (hl : sizes.length ≤ 1000) : ∃ ds : List Int, d__law_digits [.lst (ns.map .int), .int k, .lst (sizes.map .int)] = .ok (.lst (ds.map .int)) ∧ Fits sizes ds := by
  obtain ⟨r, hr⟩ := raw_ok ns k hn
  obtain ⟨ρ', e, done, found, rr, t, rfl, hf, hd⟩ := forL_ind (tg := .nm 5) (b := (seqS (exprX (opL 4 (pvE 4) (consA (mE [0, 0, 0, 0, 1, 0] (op2E modD (varE 3) (varE 5))) nilA) appendO)) (setS 3 (mE [0, 0, 0, 0, 1, 0] (op2E divD (varE 3) (varE 5))))))
    (P := fun rest ρ => ∃ (done found : List Int) (rr : Int) (t : Option D), ρ = [some (.lst (ns.map .int)), some (.int k), some (.lst (sizes.map .int)), some (.int rr), some (.lst (found.map .int)), t] ∧ Fits done found ∧ done.map D.int ++ rest = sizes.map D.int)
    (ds := sizes.map .int) (ρ := [some (.lst (ns.map .int)), some (.int k), some (.lst (sizes.map .int)), some (.int r), some (.lst []), none]) (fun d rest ρ => by
      rintro ⟨done, found, rr, t, rfl, hf, hd⟩
      have hm : d ∈ sizes.map D.int := by rw [← hd]; simp
      obtain ⟨s, ms, rfl⟩ := List.mem_map.mp hm
      obtain ⟨p1, p2⟩ := hs s ms
      have c2 : CDivW rr s := ⟨p1, p2⟩
      have hlen : found.length < sizeLine := by
        have q := congrArg List.length hd
        simp at q
        have := hf.len
        have : (1000 : Nat) < sizeLine := by decide
        omega
      have hf2 := Fits.snoc (s := s) (d := rr % s) ⟨Int.emod_nonneg _ (by omega), Int.emod_lt_of_pos _ p1⟩ hf
      exact ⟨_, [some (.lst (ns.map .int)), some (.int k), some (.lst (sizes.map .int)), some (.int (rr / s)), some (.lst ((found ++ [rr % s]).map .int)), some (.int s)], rfl, .inl (by simp [p1, c2, hlen]), done ++ [s], found ++ [rr % s], rr / s, some (.int s), rfl, hf2, by rw [← hd]; simp⟩) ⟨[], [], r, none, rfl, trivial, rfl⟩
  have hd' : done = sizes := by
    have : done.map D.int = sizes.map D.int := by rw [← hd]; simp
    exact map_int_inj this
  subst hd'
  refine ⟨found, ?_, hf⟩
  simp [d__law_digits, fnD, b__law_digits, hr, e]
noncomputable abbrev B_pool := (seqS (unpS (.tp [6, 10]) (mE [0, 0, 0, 0, 1, 0, 0, 0, 0, 0, 0] (callE d__law_digits (consA (varE 0) (consA (op2E addD (op2E addD (varE 1) (cE (.int 1))) (op2E modD (varE 5) (cE (.int 3)))) (consA (lstE (consA (cE (.int 8)) (consA (cE (.int 26)) nilA))) nilA)))))) (seqS (setS 6 (mE [0, 0, 0, 0, 1, 0, 0, 0, 0, 0, 0] (ifE (tstE (op2E eqD (op2E ixA (varE 2) (cE (.int 1))) (cE (.int 0)))) (op2E ixA (varE 2) (cE (.int 2))) (op2E modD (op2E addD (varE 6) (varE 5)) (cE (.int 8)))))) (seqS (setS 7 (mE [0, 0, 0, 0, 1, 0, 0, 0, 0, 0, 0] (lcE (itA rng1 (consA (op2E addD (cE (.int 1)) (varE 6)) nilA)) [8] (.nm 8) yesT (op2E ixA (varE 3) (ifE (tstE (op2E eqD (op2E ixA (varE 2) (cE (.int 1))) (cE (.int 0)))) (op2E ixA (varE 2) (cE (.int 3))) (op2E modD (op2E addD (op2E addD (varE 10) (op2E mulD (cE (.int 7)) (varE 5))) (varE 8)) (cE (.int 26)))))))) (seqS (setI 0 8 (op2E modD (op2E addD (op2E ixA (varE 2) (cE (.int 0))) (op2E ixA (varE 2) (cE (.int 2)))) (callE lenA (consA (varE 7) nilA)))) (seqS (putE 7 (pvE 7) (mE [0, 0, 0, 0, 1, 0, 0, 1, 0, 0, 0] (op2E ixA (varE 3) (op2E modD (op2E addD (op2E ixA (varE 2) (cE (.int 0))) (varE 5)) (cE (.int 26))))) (mE [0, 0, 0, 0, 1, 0, 0, 1, 0, 0, 0] (varE 8))) (seqS (setI 0 9 (mthE kStr joinF (cE (.str "")) (consA (varE 7) nilA))) (ifS (tstE (op2E (inA true) (varE 9) (varE 4))) (exprX (opL 4 (pvE 4) (consA (mE [0, 0, 0, 0, 1, 0, 0, 1, 0, 0, 0] (varE 9)) nilA) appendO)) nextS)))))))
theorem pool_turn (ns : List Int) (k : Int) (hn : ns.length ≤ 63) (s0 s1 s2 s3 : Int) (a0 : 0 ≤ s0) (a2 : 0 ≤ s2) (a2' : s2 < 8) (a3 : 0 ≤ s3) (a3' : s3 < 26) (names : List Str) (i : Nat) (hi : i < 12) (hlen : names.length < 12) (hnd : names.Nodup) (hok : ∀ n ∈ names, NameOk n) (sz sig pl nm mk : Option D) :
    ∃ (names' : List Str) (sz' sig' pl' nm' mk' : Option D), B_pool [some (.lst (ns.map .int)), some (.int k), some (.lst [.int s0, .int s1, .int s2, .int s3]), some (.str abc), some (.lst (names.map .str)), some (.int i), sz, sig, pl, nm, mk] = .next [some (.lst (ns.map .int)), some (.int k), some (.lst [.int s0, .int s1, .int s2, .int s3]), some (.str abc), some (.lst (names'.map .str)), some (.int i), sz', sig', pl', nm', mk'] ∧ names'.length ≤ names.length + 1 ∧ names'.Nodup ∧ (∀ n ∈ names', NameOk n) ∧ names' ≠ [] := by
  obtain ⟨ds, hds, fd⟩ := digits_ok ns (k + 1 + (i : Int) % 3) [8, 26] hn (by decide) (by decide)
  obtain ⟨t0, t1, rfl⟩ : ∃ t0 t1, ds = [t0, t1] := by
    match ds, fd with
    | [a, b], _ => exact ⟨a, b, rfl⟩
  obtain ⟨b0, b0', b1, b1', _⟩ := fd
  simp only [List.map_cons, List.map_nil] at hds
  -- the size
  obtain ⟨z, hz, hz0, hz8⟩ : ∃ z : Int, (if s1 = 0 then s2 else (t0 + i) % 8) = z ∧ 0 ≤ z ∧ z < 8 := by
    refine ⟨_, rfl, ?_⟩
    by_cases q : s1 = 0
    · rw [if_pos q]; exact ⟨a2, a2'⟩
    · rw [if_neg q]; exact ⟨Int.emod_nonneg _ (by decide), Int.emod_lt_of_pos _ (by decide)⟩
  -- the signs
  obtain ⟨ys, hys, hyl, hyq⟩ := lcL_ex (tg := .nm 8) (h := (op2E ixA (varE 3) (ifE (tstE (op2E eqD (op2E ixA (varE 2) (cE (.int 1))) (cE (.int 0)))) (op2E ixA (varE 2) (cE (.int 3))) (op2E modD (op2E addD (op2E addD (varE 10) (op2E mulD (cE (.int 7)) (varE 5))) (varE 8)) (cE (.int 26))))))
    (ρ := [some (.lst (ns.map .int)), some (.int k), some (.lst [.int s0, .int s1, .int s2, .int s3]), some (.str abc), none, some (.int i), some (.int z), sig, none, nm, some (.int t1)]) (Q := fun y => ∃ c : Nat, (97 ≤ c ∧ c ≤ 122) ∧ y = D.str (sg c)) (ds := rngL 0 (1 + z).toNat) (fun d hd => by
      obtain ⟨j, hj, rfl⟩ := mem_rngL hd
      have c7 : CMul 7 (i : Int) := CMul_l (by decide)
      by_cases q : s1 = 0
      · exact ⟨_, .str (sg (97 + s3.toNat)), rfl, by simp [q, abc_at a3 a3', abc_len], _, ⟨by omega, by omega⟩, rfl⟩
      · have g0 : 0 ≤ (t1 + 7 * (i : Int) + (0 + (j : Int))) % 26 := Int.emod_nonneg _ (by decide)
        have g1 : (t1 + 7 * (i : Int) + (0 + (j : Int))) % 26 < 26 := Int.emod_lt_of_pos _ (by decide)
        have g2 := abc_at g0 g1
        simp only [Int.zero_add] at g2 g0 g1
        exact ⟨_, .str (sg (97 + ((t1 + 7 * (i : Int) + (j : Int)) % 26).toNat)), rfl, by simp [q, c7, g2, abc_len], _, ⟨by omega, by omega⟩, rfl⟩)
  obtain ⟨cs, rfl, hcs⟩ := map_of (f := fun c => D.str (sg c)) hyq
  rw [List.length_map, len_rngL] at hyl
  have hcl : (cs.length : Int) = 1 + z := by omega
  have hp0 : 0 ≤ (s0 + s2) % (cs.length : Int) := Int.emod_nonneg _ (by omega)
  have hp1 : (s0 + s2) % (cs.length : Int) < cs.length := Int.emod_lt_of_pos _ (by omega)
  have g0 : 0 ≤ (s0 + (i : Int)) % 26 := Int.emod_nonneg _ (by decide)
  have g1 : (s0 + (i : Int)) % 26 < 26 := Int.emod_lt_of_pos _ (by decide)
  have g2 := abc_at g0 g1
  generalize hpp : (s0 + s2) % (cs.length : Int) = p at hp0 hp1
  generalize hcc : 97 + ((s0 + (i : Int)) % 26).toNat = cc at g2
  have hcs2 : ∀ c ∈ cs.set p.toNat cc, 97 ≤ c ∧ c ≤ 122 := fun c m => by
    rcases List.mem_or_eq_of_mem_set m with m | m
    · exact hcs c m
    · omega
  have hsum : ∀ l : List Nat, (l.map fun c => (sg c).length).sum = l.length := fun l => by
    induction l with
    | nil => rfl
    | cons c l ih =>
      rw [List.map_cons, List.sum_cons, ih, List.length_cons]
      show 1 + _ = _
      omega
  have hjoin : strsOf ((cs.set p.toNat cc).map fun c => D.str (sg c)) = some ((cs.set p.toNat cc).map sg) := by
    have := strsOf_map ((cs.set p.toNat cc).map sg)
    rw [List.map_map] at this
    exact this
  have hok2 : NameOk ⟨(cs.set p.toNat cc).toArray⟩ := ⟨by
      show 1 ≤ (cs.set p.toNat cc).toArray.size
      rw [List.size_toArray, List.length_set]; omega, by
      show (cs.set p.toNat cc).toArray.size ≤ 8
      rw [List.size_toArray, List.length_set]; omega, hcs2⟩
  have steps : ∀ (o : SOut), (ifS (tstE (op2E (inA true) (varE 9) (varE 4))) (exprX (opL 4 (pvE 4) (consA (mE [0, 0, 0, 0, 1, 0, 0, 1, 0, 0, 0] (varE 9)) nilA) appendO)) nextS) [some (.lst (ns.map .int)), some (.int k), some (.lst [.int s0, .int s1, .int s2, .int s3]), some (.str abc), some (.lst (names.map .str)), some (.int i), some (.int z), some (.lst ((cs.set p.toNat cc).map fun c => D.str (sg c))), some (.int p), some (.str ⟨(cs.set p.toNat cc).toArray⟩), some (.int t1)] = o →
      B_pool [some (.lst (ns.map .int)), some (.int k), some (.lst [.int s0, .int s1, .int s2, .int s3]), some (.str abc), some (.lst (names.map .str)), some (.int i), sz, sig, pl, nm, mk] = o := fun o h => by
    refine seq_to (ρ1 := [some (.lst (ns.map .int)), some (.int k), some (.lst [.int s0, .int s1, .int s2, .int s3]), some (.str abc), some (.lst (names.map .str)), some (.int i), some (.int t0), sig, pl, nm, some (.int t1)]) (by simp [hds]) ?_
    refine seq_to (ρ1 := [some (.lst (ns.map .int)), some (.int k), some (.lst [.int s0, .int s1, .int s2, .int s3]), some (.str abc), some (.lst (names.map .str)), some (.int i), some (.int z), sig, pl, nm, some (.int t1)]) (by
      by_cases q : s1 = 0
      · rw [if_pos q] at hz
        simp [q, hz]
      · rw [if_neg q] at hz
        simp [q, hz]) ?_
    refine seq_to (ρ1 := [some (.lst (ns.map .int)), some (.int k), some (.lst [.int s0, .int s1, .int s2, .int s3]), some (.str abc), some (.lst (names.map .str)), some (.int i), some (.int z), some (.lst (cs.map fun c => D.str (sg c))), pl, nm, some (.int t1)]) (by
      have e1 : 1 + z < 4611686018427387904 ∧ -4611686018427387904 ≤ 1 + z := by omega
      have e2 : (1 + z).toNat ≤ sizeLine := Nat.le_trans (show _ ≤ 100 by omega) (by decide)
      simp [e1, e2, len_rngL, hys]) ?_
    refine seq_to (ρ1 := [some (.lst (ns.map .int)), some (.int k), some (.lst [.int s0, .int s1, .int s2, .int s3]), some (.str abc), some (.lst (names.map .str)), some (.int i), some (.int z), some (.lst (cs.map fun c => D.str (sg c))), some (.int p), nm, some (.int t1)]) (by
      have e1 : 0 < cs.length := by omega
      simp [e1, hpp]) ?_
    refine seq_to (ρ1 := [some (.lst (ns.map .int)), some (.int k), some (.lst [.int s0, .int s1, .int s2, .int s3]), some (.str abc), some (.lst (names.map .str)), some (.int i), some (.int z), some (.lst ((cs.set p.toNat cc).map fun c => D.str (sg c))), some (.int p), nm, some (.int t1)]) (by
      simp [g2, abc_len, ixN_nn hp0 hp1, List.map_set]) ?_
    refine seq_to (ρ1 := [some (.lst (ns.map .int)), some (.int k), some (.lst [.int s0, .int s1, .int s2, .int s3]), some (.str abc), some (.lst (names.map .str)), some (.int i), some (.int z), some (.lst ((cs.set p.toNat cc).map fun c => D.str (sg c))), some (.int p), some (.str ⟨(cs.set p.toNat cc).toArray⟩), some (.int t1)]) (by
      have e0 : (Str.ofString "").length = 0 := by decide +kernel
      have e1 : (((cs.set p.toNat cc).map sg).map (·.length)).sum + ((cs.set p.toNat cc).map sg).length * (Str.ofString "").length ≤ 16777216 := by
        rw [List.map_map, e0, Nat.mul_zero, Nat.add_zero]
        have := hsum (cs.set p.toNat cc)
        rw [List.length_set] at this
        have q : ((cs.set p.toNat cc).map ((fun x : Str => x.length) ∘ sg)).sum = cs.length := this
        rw [q]
        omega
      simp only [r_setI, r_mth, r_c, bind_ok, r_kStr, if_true, r_cons, r_nil, r_var, r_join, List.getElem?_cons_succ, List.getElem?_cons_zero, hjoin, e1, join_sg, r_im0, r_ims, List.set_cons_succ, List.set_cons_zero]) ?_
    exact h
  by_cases hin : (⟨(cs.set p.toNat cc).toArray⟩ : Str) ∈ names
  · refine ⟨names, some (.int z), some (.lst ((cs.set p.toNat cc).map fun c => D.str (sg c))), some (.int p), some (.str ⟨(cs.set p.toNat cc).toArray⟩), some (.int t1), steps _ ?_, by omega, hnd, hok, fun e => by rw [e] at hin; cases hin⟩
    have := DL.flat_strs names
    simp only [r_if, r_tst, r_op2, r_var, List.getElem?_cons_succ, List.getElem?_cons_zero, bind_ok, r_inAl, r_inl, r_fs, this, and_self, if_true, inL_strs, hin, decide_true, Bool.not_true, Bool.false_eq_true, if_false, r_next]
  · refine ⟨names ++ [⟨(cs.set p.toNat cc).toArray⟩], some (.int z), some (.lst ((cs.set p.toNat cc).map fun c => D.str (sg c))), some (.int p), some (.str ⟨(cs.set p.toNat cc).toArray⟩), some (.int t1), steps _ ?_, by simp, ?_, fun n m => ?_, by simp⟩
    · have h1 := DL.flat_strs names
      have h2 : names.length < sizeLine := Nat.lt_trans hlen (by decide)
      simp [h1, inL_strs, hin, h2]
    · rw [List.nodup_append]
      exact ⟨hnd, by simp, fun a ma b mb e => by
        have : b = _ := List.mem_singleton.mp mb
        rw [e, this] at ma
        exact hin ma⟩
    · rcases List.mem_append.mp m with m | m
      · exact hok n m
      · rw [List.mem_singleton.mp m]; exact hok2
theorem pool_ok (ns : List Int) (k : Int) (hn : ns.length ≤ 63) : ∃ names : List Str, d__law_pool [.lst (ns.map .int), .int k] = .ok (.lst (names.map .str)) ∧ names ≠ [] ∧ names.length ≤ 12 ∧ names.Nodup ∧ ∀ n ∈ names, NameOk n := by
  obtain ⟨ds, hds, fd⟩ := digits_ok ns k [26, 2, 8, 26] hn (by decide) (by decide)
  obtain ⟨s0, s1, s2, s3, rfl⟩ : ∃ s0 s1 s2 s3, ds = [s0, s1, s2, s3] := by
    match ds, fd with
    | [a, b, c, d], _ => exact ⟨a, b, c, d, rfl⟩
  obtain ⟨a0, a0', a1, a1', a2, a2', a3, a3', _⟩ := fd
  simp only [List.map_cons, List.map_nil] at hds
  obtain ⟨ρ', e, names, at_, sz, sig, pl, nm, mk, rfl, hle, hnd, hok, hm, hne⟩ := forL_ind (tg := .nm 5) (b := B_pool)
    (P := fun rest ρ => ∃ (names : List Str) (at_ sz sig pl nm mk : Option D), ρ = [some (.lst (ns.map .int)), some (.int k), some (.lst [.int s0, .int s1, .int s2, .int s3]), some (.str abc), some (.lst (names.map .str)), at_, sz, sig, pl, nm, mk] ∧ names.length + rest.length ≤ 12 ∧ names.Nodup ∧ (∀ n ∈ names, NameOk n) ∧ (∀ d ∈ rest, d ∈ rngL 0 12) ∧ (names ≠ [] ∨ rest = rngL 0 12))
    (ds := rngL 0 12) (ρ := [some (.lst (ns.map .int)), some (.int k), some (.lst [.int s0, .int s1, .int s2, .int s3]), some (.str abc), some (.lst []), none, none, none, none, none, none]) (fun d rest ρ => by
      rintro ⟨names, at_, sz, sig, pl, nm, mk, rfl, hle, hnd, hok, hm, hne⟩
      obtain ⟨i, hi, rfl⟩ := mem_rngL (hm d (List.mem_cons_self ..))
      rw [List.length_cons] at hle
      obtain ⟨names', sz', sig', pl', nm', mk', e, h1, h2, h3, h4⟩ := pool_turn ns k hn s0 s1 s2 s3 a0 a2 a2' a3 a3' names i hi (by omega) hnd hok sz sig pl nm mk
      refine ⟨_, _, rfl, .inl ?_, names', some (.int i), sz', sig', pl', nm', mk', rfl, by omega, h2, h3, fun d m => hm d (List.mem_cons_of_mem _ m), .inl h4⟩
      have e0 : (0 : Int) + (i : Int) = i := by omega
      rw [e0]
      exact e)
    ⟨[], none, none, none, none, none, none, rfl, by rw [len_rngL]; decide, List.nodup_nil, (fun n m => by cases m), fun d m => m, .inr rfl⟩
  refine ⟨names, ?_, ?_, by simpa using hle, hnd, hok⟩
  · simp [d__law_pool, fnD, b__law_pool, hds, e]
  · rcases hne with h | h
    · exact h
    · have := congrArg List.length h
      rw [len_rngL] at this
      simp at this
end H37

namespace H37
open PySem PySem.Spec PyProof.Rows L2 DL
variable {S : S7} {bs : List D} {d : Deed}
/-! ### the drawn deeds -/
theorem pick {α : Type} {xs : List α} {f : α → D} {P : α → Prop} (hP : ∀ x ∈ xs, P x) {i : Int} (h0 : 0 ≤ i) (h1 : i < xs.length) : ∃ x, P x ∧ atI (xs.map f) i = some (f x) := by
  have hl : i.toNat < xs.length := by omega
  refine ⟨xs[i.toNat], hP _ (List.getElem_mem hl), ?_⟩
  rw [atI_nn h0, List.getElem?_map, List.getElem?_eq_getElem hl]
  rfl
theorem fs_name {n : Str} (h : NameOk n) : FS n := ⟨Nat.le_trans h.few (by decide), List.all_eq_true.mpr fun c m => decide_eq_true (Nat.lt_of_le_of_lt (h.low c m).2 (by decide))⟩
theorem cut_mem {α : Type} {xs : List α} {lo hi : Option Int} {x : α} (h : x ∈ cut xs lo hi) : x ∈ xs := by
  unfold cut at h
  exact List.mem_of_mem_drop (List.mem_of_mem_take h)
theorem cut_le {α : Type} (xs : List α) (lo hi : Option Int) : (cut xs lo hi).length ≤ xs.length := by
  unfold cut
  rw [List.length_take, List.length_drop]
  omega
theorem cut_map {α : Type} {f : α → D} (xs : List α) (lo hi : Option Int) : cut (xs.map f) lo hi = (cut xs lo hi).map f := by
  unfold cut
  rw [List.map_take, List.map_drop, List.length_map]
theorem cut_first {α : Type} (xs : List α) (lo : Nat) (hi : Option Int) : (cut xs (some (lo : Int)) hi).length ≤ xs.length - lo := by
  unfold cut
  rw [List.length_take, List.length_drop, HT.sIx_nat]
  omega
theorem cut_upto {α : Type} (xs : List α) (hi : Nat) : (cut xs none (some (hi : Int))).length ≤ hi := by
  unfold cut
  rw [List.length_take, List.length_drop, HT.sIx_nat]
  omega
theorem cutS_fs {z : Str} (h : NameOk z) (lo hi : Option Int) : (cutS z lo hi).length ≤ 8 ∧ (cutS z lo hi).cps.toList.all (fun c => decide (c < 1114112)) = true := by
  have e : (cutS z lo hi).cps.toList = (z.cps.toList.drop (HT.sIx z.length 0 lo)).take (HT.sIx z.length z.length hi - HT.sIx z.length 0 lo) := by unfold cutS; simp
  refine ⟨?_, ?_⟩
  · have : (cutS z lo hi).length = (cutS z lo hi).cps.toList.length := len_cps _
    rw [this, e, List.length_take, List.length_drop]
    have := len_cps z
    have := h.few
    omega
  · rw [e]
    refine List.all_eq_true.mpr fun c m => ?_
    have := h.low c (List.mem_of_mem_drop (List.mem_of_mem_take m))
    exact decide_eq_true (Nat.lt_of_le_of_lt this.2 (by decide))
theorem fs_app {x y : Str} (hx : x.length ≤ 8 ∧ x.cps.toList.all (fun c => decide (c < 1114112)) = true) (hy : y.length ≤ 1 ∧ y.cps.toList.all (fun c => decide (c < 1114112)) = true) : FS (x ++ y) := by
  have e : (x ++ y).cps.toList = x.cps.toList ++ y.cps.toList := by
    show (x.cps ++ y.cps).toList = _
    simp
  refine ⟨?_, ?_⟩
  · rw [len_cps, e, List.length_append, ← len_cps, ← len_cps]
    omega
  · rw [e, List.all_append, hx.2, hy.2]
    rfl
theorem erase_map (xs : List Str) : ∀ i : Nat, (xs.map D.str).eraseIdx i = (xs.eraseIdx i).map D.str := by
  induction xs with
  | nil => exact fun i => rfl
  | cons x xs ih =>
    intro i
    cases i with
    | zero => rfl
    | succ i =>
      show D.str x :: (xs.map D.str).eraseIdx i = _
      rw [ih]
      rfl
abbrev B_lr : DEnv → SOut := (ifS (tstE (op2E gtD (callE lenA (consA (varE 3) nilA)) (cE (.int 0)))) (exprX (appX 4 (opL 3 (pvE 3) (consA (immE 0 (op2E modD (varE 6) (callE lenA (consA (varE 3) nilA)))) nilA) popAtO))) nextS)
theorem pop_at (left : List Str) {j : Int} (h0 : 0 ≤ j) (h1 : j < left.length) (hl : left.length ≤ 1000) : ∃ (x : Str) (l2 : List Str), popAtO (left.map D.str) [.int j] = some (.str x, l2.map D.str) ∧ x ∈ left ∧ (∀ y ∈ l2, y ∈ left) ∧ l2.length ≤ left.length := by
  have hj : j.toNat < left.length := by omega
  refine ⟨left[j.toNat], left.eraseIdx j.toNat, ?_, List.getElem_mem hj, fun y m => List.mem_of_mem_eraseIdx m, List.length_eraseIdx_le ..⟩
  have e1 : ixN (left.map D.str).length j = some j.toNat := by rw [List.length_map]; exact ixN_nn h0 h1
  have e2 : (left.map D.str).length < 2 ^ 62 := by rw [List.length_map]; omega
  unfold popAtO
  dsimp only
  rw [e1]
  dsimp only
  rw [if_pos e2, List.getElem?_map, List.getElem?_eq_getElem hj]
  show some (D.str left[j.toNat], (left.map D.str).eraseIdx j.toNat) = _
  rw [erase_map]
theorem lr_turn (a b c e : Option D) (left found : List Str) (p : Int) (hl : left.length ≤ 1000) (hf : found.length < 1000) :
    ∃ left2 found2 : List Str, B_lr [a, b, c, some (.lst (left.map .str)), some (.lst (found.map .str)), e, some (.int p)] = .next [a, b, c, some (.lst (left2.map .str)), some (.lst (found2.map .str)), e, some (.int p)] ∧ (∀ x ∈ left2, x ∈ left) ∧ left2.length ≤ left.length ∧ (∀ x ∈ found2, x ∈ found ∨ x ∈ left) ∧ found2.length ≤ found.length + 1 := by
  by_cases h : 0 < left.length
  · have g : (0 : Int) < (left.length : Int) := by omega
    obtain ⟨x, l2, q, m1, m2, m3⟩ := pop_at left (j := p % (left.length : Int)) (Int.emod_nonneg _ (by omega)) (Int.emod_lt_of_pos _ g) hl
    refine ⟨l2, found ++ [x], ?_, m2, m3, fun y m => ?_, by simp⟩
    · have hs : found.length < sizeLine := sz_lt hf
      simp [g, h, q, hs]
    · rcases List.mem_append.mp m with m | m
      · exact .inl m
      · rw [List.mem_singleton.mp m]
        exact .inr m1
  · have e0 : left = [] := List.eq_nil_of_length_eq_zero (by omega)
    subst e0
    exact ⟨[], found, by simp, fun x m => m, Nat.le_refl _, fun x m => .inl m, by omega⟩
theorem lives_row_ok (ns : List Int) (k : Int) (f : List Str) (hn : ns.length ≤ 63) (hf : f.length ≤ 1000) : ∃ r : List Str, d__law_lives_row [.lst (ns.map .int), .int k, folkD f] = .ok (rowD r) ∧ r.length ≤ 4 ∧ ∀ x ∈ r, x ∈ f := by
  obtain ⟨ds, hds, fd⟩ := digits_ok ns k [4, 10, 9, 8, 7] hn (by decide) (by decide)
  obtain ⟨s0, s1, s2, s3, s4, rfl⟩ : ∃ s0 s1 s2 s3 s4, ds = [s0, s1, s2, s3, s4] := by
    match ds, fd with
    | [a, b, c, d, e], _ => exact ⟨a, b, c, d, e, rfl⟩
  have hl4 := cut_first ([s0, s1, s2, s3, s4].map D.int) 1 (some (2 + s0))
  have hci : ∀ x ∈ cut ([s0, s1, s2, s3, s4].map D.int) (some ((1 : Nat) : Int)) (some (2 + s0)), ∃ p : Int, x = .int p := fun x m => by
    obtain ⟨p, _, rfl⟩ := List.mem_map.mp (cut_mem m)
    exact ⟨p, rfl⟩
  generalize hcut : cut ([s0, s1, s2, s3, s4].map D.int) (some ((1 : Nat) : Int)) (some (2 + s0)) = rest0 at hl4 hci
  obtain ⟨ρ', e, left, found, t6, rfl, h1, h2, h3, h4⟩ := forL_ind (tg := .nm 6) (b := B_lr) (P := fun rest ρ => ∃ (left found : List Str) (t6 : Option D), ρ = [some (.lst (ns.map .int)), some (.int k), some (folkD f), some (.lst (left.map .str)), some (.lst (found.map .str)), some (.lst ([s0, s1, s2, s3, s4].map .int)), t6] ∧ (∀ x ∈ left, x ∈ f) ∧ left.length ≤ 1000 ∧ (∀ x ∈ found, x ∈ f) ∧ (found.length + rest.length ≤ 4 ∧ ∀ x ∈ rest, ∃ p : Int, x = D.int p))
    (fun x rest ρ => by
      rintro ⟨left, found, t6, rfl, h1, h2, h3, h4, h5⟩
      obtain ⟨p, rfl⟩ := h5 x (List.mem_cons_self ..)
      rw [List.length_cons] at h4
      obtain ⟨left2, found2, q, a1, a2, a3, a4⟩ := lr_turn (some (.lst (ns.map .int))) (some (.int k)) (some (folkD f)) (some (.lst ([s0, s1, s2, s3, s4].map .int))) left found p h2 (by omega)
      exact ⟨_, _, rfl, .inl q, left2, found2, some (.int p), rfl, fun y m => h1 y (a1 y m), by omega, fun y m => (a3 y m).elim (h3 y) (h1 y), by omega, fun y m => h5 y (List.mem_cons_of_mem _ m)⟩)
    (ds := rest0) (ρ := [some (.lst (ns.map .int)), some (.int k), some (folkD f), some (.lst (f.map .str)), some (.lst ([].map .str)), some (.lst ([s0, s1, s2, s3, s4].map .int)), none]) ⟨f, [], none, rfl, fun x m => m, hf, (fun x m => by cases m), by simpa using hl4, hci⟩
  refine ⟨found, ?_, by simpa using h4.1, h3⟩
  have a : one1 listF [folkD f] = .ok (.lst (f.map .str)) := rfl
  simp only [List.map_cons, List.map_nil] at hds hcut e
  have hcut' : cut [D.int s0, .int s1, .int s2, .int s3, .int s4] (some 1) (some (2 + s0)) = rest0 := hcut
  refine fnD_ret (ρ := [some (.lst (ns.map .int)), some (.int k), some (folkD f), some (.lst (left.map .str)), some (.lst (found.map .str)), some (.lst [.int s0, .int s1, .int s2, .int s3, .int s4]), t6]) rfl ?_
  simp [b__law_lives_row, a, hds, hcut', e]
  rfl
end H37

namespace H37
open PySem PySem.Spec PyProof.Rows L2 DL
variable {S : S7} {bs : List D} {d : Deed}
structure FSall (S : S7) : Prop where
  f : ∀ n ∈ S.folk, FS n
  l : ∀ p ∈ S.lets, FS p.1
theorem log_small {x : Int} (h0 : -1000000000000000000000000000000 ≤ x) (h1 : x ≤ 1000000000000000000000000000000) : x.natAbs.log2 < 1920 := by
  by_cases z : x.natAbs = 0
  · rw [z]; decide
  · refine (Nat.log2_lt z).mpr ?_
    have : x.natAbs ≤ 1000000000000000000000000000000 := by omega
    exact Nat.lt_of_le_of_lt this (by decide +kernel)
theorem pickN {α : Type} {xs : List α} {P : α → Prop} (hP : ∀ x ∈ xs, P x) {i : Int} (h0 : 0 ≤ i) (h1 : i < xs.length) : ∃ x, P x ∧ atI xs i = some x := by
  have hl : i.toNat < xs.length := by omega
  refine ⟨xs[i.toNat], hP _ (List.getElem_mem hl), ?_⟩
  rw [atI_nn h0, List.getElem?_eq_getElem hl]
@[simp] theorem r_sls {z lo hi} : slD (.str z) lo hi = if z.length ≤ sizeLine then .ok (.str (cutS z lo hi)) else .bad := rfl
def Sm (x : Int) : Prop := -1000000000000000000000000000000 ≤ x ∧ x ≤ 1000000000000000000000000000000
theorem far_ok {f s : Int} (h0 : 0 ≤ f) (h1 : f < 100000000000000000000000000000) : ∃ x : Int, d__law_far [.int f, .int s] = .ok (.int x) ∧ Sm x := by
  obtain ⟨x, hx, e⟩ := pick (xs := [f, 0 - 1 - f, 100000000000000000000000000000 - f, f - 100000000000000000000000000000]) (f := D.int) (P := Sm) (fun x m => by
    simp only [List.mem_cons, List.not_mem_nil, or_false] at m
    unfold Sm
    rcases m with rfl | rfl | rfl | rfl <;> omega) (i := s % 4) (Int.emod_nonneg _ (by decide)) (Int.emod_lt_of_pos _ (by decide))
  have p : CPow 10 29 := by decide
  refine ⟨x, ?_, hx⟩
  simp only [List.map_cons, List.map_nil] at e
  refine fnD_ret (ρ := [some (.int f), some (.int s)]) rfl ?_
  simp [b__law_far, p]
  simp at e
  rw [e]
theorem depth_strs (f : List Str) : PyData.depthAll (f.map PyData.str) = 0 := by
  induction f with
  | nil => rfl
  | cons x f ih =>
    rw [List.map_cons]
    show max 0 (PyData.depthAll (f.map PyData.str)) = 0
    rw [ih]
    rfl
theorem lay_strs (f : List Str) (h : ∀ n ∈ f, FS n) : PyData.canLayAll0 (f.map PyData.str) = true := by
  induction f with
  | nil => rfl
  | cons x f ih =>
    rw [List.map_cons]
    have a : PyData.canLay0 (.str x) = true := by
      show x.cps.all (fun c => decide (c < 0x110000)) = true
      have := (h x (List.mem_cons_self ..)).2
      simpa using this
    show (PyData.canLay0 (.str x) && PyData.canLayAll0 (f.map PyData.str)) = true
    rw [a, ih fun n m => h n (List.mem_cons_of_mem _ m)]
    rfl
theorem deq_folk (f : List Str) (h : ∀ n ∈ f, FS n) : ∃ b, deqD false (folkD f) (.lst []) = .ok (.bl b) := by
  have e1 : pdOf (folkD f) = some (.list (f.map .str)) := by
    show (pdL (f.map D.str)).map PyData.list = _
    rw [pdL_strs]
    rfl
  have e2 : pdOf (.lst []) = some (.list []) := rfl
  have s1 : SeqAt.shaped (.list (f.map PyData.str)) = true := by
    unfold SeqAt.shaped
    have a : PyData.canLay0 (.list (f.map PyData.str)) = true := lay_strs f h
    have b : PyData.depth (.list (f.map PyData.str)) = 1 := by
      show PyData.depthAll (f.map PyData.str) + 1 = 1
      rw [depth_strs]
    rw [a, b]
    rfl
  have s2 : SeqAt.shaped (.list []) = true := by decide
  unfold deqD
  rw [e1, e2]
  dsimp only
  rw [if_pos ⟨s1, s2⟩]
  exact ⟨_, rfl⟩
abbrev oddS : Str := "_.-~AZ{0 /+"
theorem odd_cps : oddS.cps.toList.length = 11 ∧ oddS.length ≤ sizeLine ∧ ∀ c ∈ oddS.cps.toList, c < 1114112 := by
  refine ⟨by decide +kernel, sz_le (by decide +kernel), ?_⟩
  have : oddS.cps.toList.all (fun c => decide (c < 1114112)) = true := by decide +kernel
  exact fun c m => of_decide_eq_true (List.all_eq_true.mp this c m)
theorem lits_fs : FS "" ∧ FS "A" ∧ FS "ab1" ∧ FS "abcdefghi" ∧ FS "a b" ∧ FS "nobody" := by
  refine ⟨⟨?_, ?_⟩, ⟨?_, ?_⟩, ⟨?_, ?_⟩, ⟨?_, ?_⟩, ⟨?_, ?_⟩, ?_, ?_⟩ <;> decide +kernel
end H37

namespace H37
open PySem PySem.Spec PyProof.Rows L2 DL
variable {S : S7} {bs : List D} {d : Deed}
theorem mem9 {α : Type} {x a b c d e f g h i : α} (m : x ∈ [a, b, c, d, e, f, g, h, i]) : x = a ∨ x = b ∨ x = c ∨ x = d ∨ x = e ∨ x = f ∨ x = g ∨ x = h ∨ x = i := by
  simpa using m
/-- a drawn row -/
def RowF (r : List Str) : Prop := r.length ≤ 5 ∧ ∀ x ∈ r, FS x
theorem wild_ok (ns : List Int) (k : Int) (names : List Str) (hn : ns.length ≤ 63) (G : Good S) (FA : FSall S) (n0 : names ≠ []) (n12 : names.length ≤ 12) (hok : ∀ n ∈ names, NameOk n) :
    ∃ d : Deed, d__law_wild [.lst (ns.map .int), .int k, mS S, .lst (names.map .str)] = .ok (dD d) ∧ Fine d := by
  obtain ⟨ds, hds, fd⟩ := digits_ok ns k [6, 997, 997, 10000, 9, 100000000000000000000000000000, 4, 8] hn (by decide +kernel) (by decide)
  obtain ⟨kind, one, two, day, way, far, side, at_, rfl⟩ : ∃ a b c d e f g h, ds = [a, b, c, d, e, f, g, h] := by
    match ds, fd with
    | [a, b, c, d, e, f, g, h], _ => exact ⟨a, b, c, d, e, f, g, h, rfl⟩
  obtain ⟨a0, a0', a1, a1', a2, a2', a3, a3', a4, a4', a5, a5', a6, a6', a7, a7', _⟩ := fd
  simp only [List.map_cons, List.map_nil] at hds
  have L0 : 0 < names.length := List.length_pos_iff.mpr n0
  have L1 : (0 : Int) < (names.length : Int) := by omega
  have p29 : CPow 10 29 := by decide
  obtain ⟨n1, on1, en1⟩ := pick (f := D.str) hok (i := one % (names.length : Int)) (Int.emod_nonneg _ (by omega)) (Int.emod_lt_of_pos _ L1)
  obtain ⟨n2, on2, en2⟩ := pick (f := D.str) hok (i := two % (names.length : Int)) (Int.emod_nonneg _ (by omega)) (Int.emod_lt_of_pos _ L1)
  obtain ⟨o1, o2, o3⟩ := odd_cps
  obtain ⟨c, hc, ec⟩ := pickN o3 (i := two % 11) (Int.emod_nonneg _ (by decide)) (by rw [o1]; exact Int.emod_lt_of_pos _ (by decide))
  have hcut := cutS_fs on1 none (some (-1))
  have hc1 : (⟨#[c]⟩ : Str).length ≤ 1 ∧ (⟨#[c]⟩ : Str).cps.toList.all (fun c => decide (c < 1114112)) = true := ⟨Nat.le_refl _, by simpa using hc⟩
  have hsp := fs_app hcut hc1
  have hadd : (cutS n1 none (some (-1))).length + (⟨#[c]⟩ : Str).length ≤ sizeLine := sz_le (by have := hcut.1; have := hc1.1; omega)
  have hn1 : n1.length ≤ sizeLine := sz_le (by have := on1.few; omega)
  generalize esp : cutS n1 none (some (-1)) ++ (⟨#[c]⟩ : Str) = sp at hsp
  obtain ⟨l1, l2, l3, l4, l5, l6⟩ := lits_fs
  obtain ⟨odd, hodd, eodd⟩ := pick (xs := ([Str.ofString "", Str.ofString "A", Str.ofString "ab1", Str.ofString "abcdefghi", Str.ofString "a b", Str.ofString "nobody", sp, sp] : List Str)) (f := D.str) (P := FS) (fun x m => by
    simp only [List.mem_cons, List.not_mem_nil, or_false] at m
    rcases m with rfl | rfl | rfl | rfl | rfl | rfl | rfl | rfl <;> assumption) (i := at_) a7 a7'
  simp only [List.map_cons, List.map_nil] at eodd
  obtain ⟨fv, efv, hfv⟩ := far_ok (f := far) (s := side) a5 a5'
  obtain ⟨dy, hdy, edy⟩ := pick (xs := [day, day, day, day % 9, 0, -1, 10000, fv, 9999]) (f := D.int) (P := Sm) (fun x m => by
    have q1 : 0 ≤ day % 9 := Int.emod_nonneg _ (by decide)
    have q2 : day % 9 < 9 := Int.emod_lt_of_pos _ (by decide)
    rcases mem9 m with rfl | rfl | rfl | rfl | rfl | rfl | rfl | rfl | rfl <;> first | exact hfv | (unfold Sm; omega)) (i := way) a4 a4'
  simp only [List.map_cons, List.map_nil] at edy
  have hdl := log_small hdy.1 hdy.2
  have fs1 := fs_name on1
  have fs2 := fs_name on2
  -- the name, the other
  obtain ⟨nm, hnm, enm⟩ : ∃ nm : Str, FS nm ∧ (if way < 7 then n1 else odd) = nm := by
    by_cases q : way < 7
    · exact ⟨n1, fs1, if_pos q⟩
    · exact ⟨odd, hodd, if_neg q⟩
  obtain ⟨ot, hot, eot⟩ : ∃ ot : Str, FS ot ∧ (if way = 6 then odd else n2) = ot := by
    by_cases q : way = 6
    · exact ⟨odd, hodd, if_pos q⟩
    · exact ⟨n2, fs2, if_neg q⟩
  obtain ⟨bq, ebq⟩ := deq_folk S.folk FA.f
  have main : ∃ d : Deed, (∃ ρ', b__law_wild ([.lst (ns.map .int), .int k, mS S, .lst (names.map .str)].map some ++ List.replicate (18 - 4) none) = .ret (dD d) ρ') ∧ Fine d := by
    unfold b__law_wild
    suffices h : ∀ o : SOut, o = _ → ∃ d : Deed, (∃ ρ', o = .ret (dD d) ρ') ∧ Fine d from h _ rfl
    intro o ho
    rw [seq_to (ρ1 := [some (.lst (ns.map .int)), some (.int k), some (mS S), some (.lst (names.map .str)), none, none, some (.int day), none, none, none, some (.int kind), some (.int one), some (.int two), some (.int way), some (.int far), some (.int side), some (.int at_), none]) (by simp [p29, hds]) rfl] at ho
    rw [seq_to (ρ1 := [some (.lst (ns.map .int)), some (.int k), some (mS S), some (.lst (names.map .str)), some (.str sp), none, some (.int day), none, none, none, some (.int kind), some (.int one), some (.int two), some (.int way), some (.int far), some (.int side), some (.int at_), none]) (by simp [L0, en1, hn1, o2, ec, hadd, esp]) rfl] at ho
    rw [seq_to (ρ1 := [some (.lst (ns.map .int)), some (.int k), some (mS S), some (.lst (names.map .str)), some (.str sp), some (.str odd), some (.int day), none, none, none, some (.int kind), some (.int one), some (.int two), some (.int way), some (.int far), some (.int side), some (.int at_), none]) (by simp [eodd]) rfl] at ho
    rw [seq_to (ρ1 := [some (.lst (ns.map .int)), some (.int k), some (mS S), some (.lst (names.map .str)), some (.str sp), some (.str odd), some (.int dy), none, none, none, some (.int kind), some (.int one), some (.int two), some (.int way), some (.int far), some (.int side), some (.int at_), none]) (by simp [efv, edy]) rfl] at ho
    rw [seq_to (ρ1 := [some (.lst (ns.map .int)), some (.int k), some (mS S), some (.lst (names.map .str)), some (.str sp), some (.str odd), some (.int dy), some (.str nm), none, none, some (.int kind), some (.int one), some (.int two), some (.int way), some (.int far), some (.int side), some (.int at_), none]) (by
      by_cases q : way < 7
      · rw [if_pos q] at enm; simp [q, L0, en1, enm]
      · rw [if_neg q] at enm; simp [q, enm]) rfl] at ho
    rw [seq_to (ρ1 := [some (.lst (ns.map .int)), some (.int k), some (mS S), some (.lst (names.map .str)), some (.str sp), some (.str odd), some (.int dy), some (.str nm), some (.str ot), none, some (.int kind), some (.int one), some (.int two), some (.int way), some (.int far), some (.int side), some (.int at_), none]) (by
      by_cases q : way = 6
      · rw [if_pos q] at eot; simp [q, eot]
      · rw [if_neg q] at eot; simp [q, L0, en2, eot]) rfl] at ho
    by_cases z : kind = 0 ∨ bq = true
    · refine ⟨.life nm, ⟨[some (.lst (ns.map .int)), some (.int k), some (mS S), some (.lst (names.map .str)), some (.str sp), some (.str odd), some (.int dy), some (.str nm), some (.str ot), none, some (.int kind), some (.int one), some (.int two), some (.int way), some (.int far), some (.int side), some (.int at_), none], ?_⟩, hnm⟩
      rw [ho]
      by_cases z0 : kind = 0
      · simp [z0, dD]
      · have zb : bq = true := z.resolve_left z0
        simp [z0, ebq, zb, dD]
    · have z0 : ¬ kind = 0 := fun e => z (.inl e)
      have zb : bq = false := by
        cases bq with
        | false => rfl
        | true => exact absurd (.inr rfl) z
      subst zb
      rw [seq_to (ρ1 := [some (.lst (ns.map .int)), some (.int k), some (mS S), some (.lst (names.map .str)), some (.str sp), some (.str odd), some (.int dy), some (.str nm), some (.str ot), none, some (.int kind), some (.int one), some (.int two), some (.int way), some (.int far), some (.int side), some (.int at_), none]) (by simp [z0, ebq]) rfl] at ho
      by_cases z3 : kind < 3
      · -- a holding let
        obtain ⟨r0, er0, hr4, hrm⟩ := lives_row_ok ns k S.folk hn (Nat.le_trans G.f10 (by decide))
        have r0F : RowF r0 := ⟨by omega, fun x m => FA.f x (hrm x m)⟩
        have e1 : cut (r0.map D.str) none (some 1) = (cut r0 none (some 1)).map D.str := cut_map r0 none (some 1)
        have e2 : cut (names.map D.str) none (some 5) = (cut names none (some 5)).map D.str := cut_map names none (some 5)
        have c1 : (cut r0 none (some 1)).length ≤ 1 := cut_upto r0 1
        have c5 : (cut names none (some 5)).length ≤ 5 := cut_upto names 5
        obtain ⟨row, hrow, erow⟩ := pick (xs := [r0, r0, r0, r0, r0 ++ cut r0 none (some 1), [], cut names none (some 5), ot :: r0, r0]) (f := rowD) (P := RowF) (fun x m => by
          rcases mem9 m with rfl | rfl | rfl | rfl | rfl | rfl | rfl | rfl | rfl
          · exact r0F
          · exact r0F
          · exact r0F
          · exact r0F
          · refine ⟨by rw [List.length_append]; omega, fun y my => ?_⟩
            rcases List.mem_append.mp my with my | my
            · exact r0F.2 y my
            · exact r0F.2 y (cut_mem my)
          · exact ⟨Nat.zero_le _, fun y my => by cases my⟩
          · exact ⟨c5, fun y my => fs_name (hok y (cut_mem my))⟩
          · refine ⟨by rw [List.length_cons]; omega, fun y my => ?_⟩
            rcases List.mem_cons.mp my with rfl | my
            · exact hot
            · exact r0F.2 y my
          · exact r0F) (i := way) a4 a4'
        simp only [List.map_cons, List.map_nil] at erow
        refine ⟨.let_ nm row dy, ⟨[some (.lst (ns.map .int)), some (.int k), some (mS S), some (.lst (names.map .str)), some (.str sp), some (.str odd), some (.int dy), some (.str nm), some (.str ot), none, some (.int kind), some (.int one), some (.int two), some (.int way), some (.int far), some (.int side), some (.int at_), some (rowD row)], ?_⟩, hnm, hrow.1, hrow.2, hdl⟩
        rw [ho]
        have s1 : (r0.map D.str).length + ((cut r0 none (some 1)).map D.str).length ≤ sizeLine := sz_le (by rw [List.length_map, List.length_map]; omega)
        have s2 : [D.str ot].length + (r0.map D.str).length ≤ sizeLine := sz_le (by rw [List.length_map]; simp; omega)
        have g1 : slD (rowD r0) none (some 1) = .ok (rowD (cut r0 none (some 1))) := by
          unfold rowD
          rw [r_slt, e1]
        have g2 : addD (rowD r0) (rowD (cut r0 none (some 1))) = .ok (rowD (r0 ++ cut r0 none (some 1))) := by
          unfold rowD
          rw [r_addt, if_pos s1, List.map_append]
        have g3 : one1 tupleF [.lst (cut (names.map D.str) none (some 5))] = .ok (rowD (cut names none (some 5))) := by
          rw [e2]
          rfl
        have g4 : addD (.tup [.str ot]) (rowD r0) = .ok (rowD (ot :: r0)) := by
          unfold rowD
          rw [r_addt, if_pos s2]
          rfl
        have g5 : D.tup [] = rowD [] := rfl
        simp [z3, er0, g1, g2, -r_one, g3, g4, g5, erow]
        rfl
      · -- of a holding
        rw [seq_to (ρ1 := [some (.lst (ns.map .int)), some (.int k), some (mS S), some (.lst (names.map .str)), some (.str sp), some (.str odd), some (.int dy), some (.str nm), some (.str ot), none, some (.int kind), some (.int one), some (.int two), some (.int way), some (.int far), some (.int side), some (.int at_), none]) (by simp [z3]) rfl] at ho
        have q1 : one1 sortF [letsD S.lets] = .ok (sortedD S.lets) := sort_lets S.lets G.l8
        have ln := sorted_len S.lets
        have hfs : ∀ x ∈ sortS (S.lets.map (·.1)) ++ [nm], FS x := fun x m => by
          rcases List.mem_append.mp m with m | m
          · have := (sortB_perm (le := leS) (S.lets.map (·.1))).mem_iff.mp m
            obtain ⟨p, mp, rfl⟩ := List.mem_map.mp this
            exact FA.l p mp
          · rw [List.mem_singleton.mp m]
            exact hnm
        have g1 : addD (sortedD S.lets) (.lst [.str nm]) = .ok (.lst ((sortS (S.lets.map (·.1)) ++ [nm]).map .str)) := by
          have s1 : ((sortS (S.lets.map (·.1))).map D.str).length + [D.str nm].length ≤ sizeLine := sz_le (by rw [List.length_map, ln]; have := G.l8; simp; omega)
          unfold sortedD
          rw [r_addl, if_pos s1]
          simp
        generalize hl : sortS (S.lets.map (·.1)) ++ [nm] = ls at hfs g1
        have ll : 0 < ls.length := by rw [← hl, List.length_append]; simp
        obtain ⟨h, hh, eh⟩ := pick (f := D.str) hfs (i := two % (ls.length : Int)) (Int.emod_nonneg _ (by omega)) (Int.emod_lt_of_pos _ (by omega))
        by_cases z5 : kind = 5
        · refine ⟨.giveUp h dy, ⟨[some (.lst (ns.map .int)), some (.int k), some (mS S), some (.lst (names.map .str)), some (.str sp), some (.str odd), some (.int dy), some (.str nm), some (.str ot), some (.lst (ls.map .str)), some (.int kind), some (.int one), some (.int two), some (.int way), some (.int far), some (.int side), some (.int at_), none], ?_⟩, hh, hdl⟩
          rw [ho]
          simp [-r_one, q1, g1, z5, ll, eh, dD]
        · refine ⟨.putIn h ot, ⟨[some (.lst (ns.map .int)), some (.int k), some (mS S), some (.lst (names.map .str)), some (.str sp), some (.str odd), some (.int dy), some (.str nm), some (.str ot), some (.lst (ls.map .str)), some (.int kind), some (.int one), some (.int two), some (.int way), some (.int far), some (.int side), some (.int at_), none], ?_⟩, hh, hot⟩
          rw [ho]
          simp [-r_one, q1, g1, z5, ll, eh, dD]
  obtain ⟨d, ⟨ρ', e⟩, hF⟩ := main
  exact ⟨d, fnD_ret rfl e, hF⟩
end H37

namespace H37
open PySem PySem.Spec PyProof.Rows L2 DL
variable {S : S7} {bs : List D} {d : Deed}
theorem fs_next (FA : FSall S) (h : Fine d) : FSall (nextS7 S d) := by
  unfold nextS7
  have put : ∀ (n : Str) (o : Ho), FS n → FSall { S with lets := putL S.lets n o } := fun n o hn => by
    refine ⟨FA.f, fun p m => ?_⟩
    have m : p ∈ putL S.lets n o := m
    unfold putL at m
    split at m
    · obtain ⟨q, mq, rfl⟩ := List.mem_map.mp m
      by_cases c : q.1 = n
      · rw [if_pos c]; exact FA.l q mq
      · rw [if_neg c]; exact FA.l q mq
    · rcases List.mem_append.mp m with m | m
      · exact FA.l p m
      · rw [List.mem_singleton.mp m]; exact hn
  cases badC S d with
  | some _ => exact FA
  | none =>
    cases d with
    | life n =>
      refine ⟨fun x m => ?_, FA.l⟩
      have m : x ∈ S.folk ++ [n] := m
      rcases List.mem_append.mp m with m | m
      · exact FA.f x m
      · rw [List.mem_singleton.mp m]; exact h
    | let_ n row k => exact put n _ h.1
    | putIn x n =>
      show FSall (doneS S (.putIn x n))
      simp only [doneS]
      cases S.lets.lookup x with
      | none => exact FA
      | some o => exact put x _ h.1
    | giveUp x k =>
      show FSall (doneS S (.giveUp x k))
      simp only [doneS]
      cases S.lets.lookup x with
      | none => exact FA
      | some o => exact put x _ h.1
def S0 : S7 := ⟨[], []⟩
theorem made : newE 0 nilA d_Manor___init__ = fun ρ => .ok (mM S0 []) := by
  have e : d_Manor___init__ [.ins 0 []] = .ok .non [mM S0 []] := by
    refine fnM_next (ρ := [some (mM S0 [])]) rfl ?_ (by simp)
    rfl
  funext ρ
  simp [e]
theorem new_ok : d__law_new [] = .ok (mS S0) := by
  have e : ndB [(.inr "folk" : Key), .inr "lets", .inr "stands", .inr "fresh"] = true := by decide +kernel
  simp [d__law_new, fnD, b__law_new, e]
  rfl
theorem law_ok37 (ns : List Int) (hn : ns.length ≤ 63) : ∃ ρ', b_law (scr ns 5) = .ret (.bl true) ρ' := by
  obtain ⟨names, hnames, n0, n12, nnd, nok⟩ := pool_ok ns 0 hn
  obtain ⟨ds, hds, fd⟩ := digits_ok ns 4 [41] hn (by decide) (by decide)
  obtain ⟨sz, rfl⟩ : ∃ a, ds = [a] := by
    match ds, fd with
    | [a], _ => exact ⟨a, rfl⟩
  obtain ⟨z0, z1, _⟩ := fd
  simp only [List.map_cons, List.map_nil] at hds
  have g0 : Good S0 := ⟨Nat.zero_le _, (fun n m => by cases m), Nat.zero_le _, (fun p m => by cases m), List.nodup_nil⟩
  have f0 : FSall S0 := ⟨(fun n m => by cases m), (fun p m => by cases m)⟩
  obtain ⟨ρ', e, S, bs, t5, rfl, G, FA, hb, _⟩ := forL_ind (tg := .nm 5)
    (b := (seqS (setX 3 (callS 2 (fun _ => true) (pvE 2) (consA (mE [0, 0, 2, 0, 0, 0] (varE 3)) (consA (mE [0, 0, 2, 0, 0, 0] (callE d__law_wild (consA (varE 0) (consA (op2E addD (cE (.int 5)) (varE 5)) (consA (varE 3) (consA (varE 1) nilA)))))) nilA)) d__law_play)) (ifS (orT (tstE (op2E isD (varE 3) (cE .non))) (notT (tstE (callE d__law_stands (consA (varE 2) (consA (varE 3) nilA)))))) (retS (cE (.bl false))) nextS)))
    (P := fun rest ρ => ∃ (S : S7) (bs : List D) (t5 : Option D), ρ = [some (.lst (ns.map .int)), some (.lst (names.map .str)), some (mM S bs), some (mS S), some (.int sz), t5] ∧ Good S ∧ FSall S ∧ bs.length + rest.length ≤ 41 ∧ ∀ x ∈ rest, ∃ i : Int, x = .int i)
    (fun x rest ρ => by
      rintro ⟨S, bs, t5, rfl, G, FA, hb, hi⟩
      obtain ⟨i, rfl⟩ := hi x (List.mem_cons_self ..)
      rw [List.length_cons] at hb
      obtain ⟨d, hd, hF⟩ := wild_ok ns (5 + i) names hn G FA n0 n12 nok
      have q := play_ok (bs := bs) G (by omega) hF
      have st := stands_ok (bs := nextB S bs d) (good_next (d := d) G)
      have nn : isN (mS (nextS7 S d)) = false := rfl
      refine ⟨_, [some (.lst (ns.map .int)), some (.lst (names.map .str)), some (mM (nextS7 S d) (nextB S bs d)), some (mS (nextS7 S d)), some (.int sz), some (.int i)], rfl, .inl ?_, nextS7 S d, nextB S bs d, some (.int i), rfl, good_next G, fs_next FA hF, ?_, fun y m => hi y (List.mem_cons_of_mem _ m)⟩
      · simp [hd, q, st, nn]
      · have : (nextB S bs d).length ≤ bs.length + 1 := by
          unfold nextB
          cases badC S d with
          | some _ => exact Nat.le_succ _
          | none => simp
        omega)
    (ds := rngL 0 sz.toNat) (ρ := [some (.lst (ns.map .int)), some (.lst (names.map .str)), some (mM S0 []), some (mS S0), some (.int sz), none]) ⟨S0, [], none, rfl, g0, f0, by rw [len_rngL]; simp; omega, fun x m => by
      obtain ⟨i, _, rfl⟩ := mem_rngL m
      exact ⟨_, rfl⟩⟩
  have st := stands_ok (bs := bs) G
  have e1 : sz < 4611686018427387904 ∧ -4611686018427387904 ≤ sz := by omega
  refine ⟨[some (.lst (ns.map .int)), some (.lst (names.map .str)), some (mM S bs), some (mS S), some (.int sz), t5], ?_⟩
  unfold b_law
  refine seq_to (ρ1 := [some (.lst (ns.map .int)), some (.lst (names.map .str)), none, none, none, none]) (by simp [scr, hnames]) ?_
  refine seq_to (ρ1 := [some (.lst (ns.map .int)), some (.lst (names.map .str)), some (mM S0 []), none, none, none]) (by rw [made]; simp) ?_
  refine seq_to (ρ1 := [some (.lst (ns.map .int)), some (.lst (names.map .str)), some (mM S0 []), some (mS S0), none, none]) (by simp [new_ok]) ?_
  refine seq_to (ρ1 := [some (.lst (ns.map .int)), some (.lst (names.map .str)), some (mM S0 []), some (mS S0), some (.int sz), none]) (by simp [hds]) ?_
  refine seq_to (ρ1 := [some (.lst (ns.map .int)), some (.lst (names.map .str)), some (mM S bs), some (mS S), some (.int sz), t5]) ?_ (by simp [st])
  simp [e1]
  exact e
end H37

namespace H37
open PySem PySem.Spec PyProof.Rows L2 DL
theorem isPE_at {a : Addr} {b : Bool} {ρ : DEnv} : isPE 0 a b (some (.opq (.ref a)) :: ρ) = .ok (.bl b) := by
  unfold isPE
  simp
@[simp] theorem r_zipY {xs ys} : zipY [.lst xs, .lst ys] = if xs.length ≤ ys.length then .ok (zipD xs ys) else .bad := rfl
theorem kin_step (c : Nat) (a : Addr) : b0_kin c a (some (.opq (.ref a)) :: [none, none, none, none]) = (retS (mthE kStr joinF (cE (.str "")) (consA (lcE (itA zipY (consA (varE 2) (consA (varE 1) nilA))) [3, 4] (.tp [3, 4]) (tstE (varE 4)) (varE 3)) nilA)))
    [some (.opq (.ref a)), some (.lst ([sb c 3, sb c 4, sb c 5, sb c 6, sb c 7, sb c 8, sb c 9, sb c 10, sb c 11, sb c 12, sb c 13, sb c 14, sb c 15, sb c 16, sb c 17, sb c 18, sb c 19, sb c 20, sb c 21, !s_ValueError c && !s_LookupError c].map D.bl)),
     some (.lst (([Str.ofString "BadDay", Str.ofString "BadCount", Str.ofString "BadTie", Str.ofString "CantBe", Str.ofString "BadRow", Str.ofString "BadName", Str.ofString "Taken", Str.ofString "Full", Str.ofString "Twice", Str.ofString "GivenUp", Str.ofString "Held", Str.ofString "Idle", Str.ofString "Against", Str.ofString "BadText", Str.ofString "NoLife", Str.ofString "NoHolding", Str.ofString "NoPresentment", Str.ofString "NoPlace", Str.ofString "Nothing", Str.ofString "odd"] : List Str).map D.str)), none, none] := by
  unfold b0_kin
  cases h1 : s_ValueError c <;> cases h2 : s_LookupError c <;> simp [isPE_at, h1, h2]
theorem kin_ok {c : Nat} {s : Str} {a : Addr} (h : kin c = some s) : h_kin c a = .ok (.str s) := by
  have hc : c ∈ rsd := by
    unfold kin at h
    split at h <;> first | (cases h; done) | decide
  have hr : rsd.contains c = true := List.contains_iff_mem.mpr hc
  have go : ∀ c, c ∈ rsd → kin c = some s → (retS (mthE kStr joinF (cE (.str "")) (consA (lcE (itA zipY (consA (varE 2) (consA (varE 1) nilA))) [3, 4] (.tp [3, 4]) (tstE (varE 4)) (varE 3)) nilA)))
    [some (.opq (.ref a)), some (.lst ([sb c 3, sb c 4, sb c 5, sb c 6, sb c 7, sb c 8, sb c 9, sb c 10, sb c 11, sb c 12, sb c 13, sb c 14, sb c 15, sb c 16, sb c 17, sb c 18, sb c 19, sb c 20, sb c 21, !s_ValueError c && !s_LookupError c].map D.bl)),
     some (.lst (([Str.ofString "BadDay", Str.ofString "BadCount", Str.ofString "BadTie", Str.ofString "CantBe", Str.ofString "BadRow", Str.ofString "BadName", Str.ofString "Taken", Str.ofString "Full", Str.ofString "Twice", Str.ofString "GivenUp", Str.ofString "Held", Str.ofString "Idle", Str.ofString "Against", Str.ofString "BadText", Str.ofString "NoLife", Str.ofString "NoHolding", Str.ofString "NoPresentment", Str.ofString "NoPlace", Str.ofString "Nothing", Str.ofString "odd"] : List Str).map D.str)), none, none] =
     .ret (.str s) [some (.opq (.ref a)), some (.lst ([sb c 3, sb c 4, sb c 5, sb c 6, sb c 7, sb c 8, sb c 9, sb c 10, sb c 11, sb c 12, sb c 13, sb c 14, sb c 15, sb c 16, sb c 17, sb c 18, sb c 19, sb c 20, sb c 21, !s_ValueError c && !s_LookupError c].map D.bl)),
     some (.lst (([Str.ofString "BadDay", Str.ofString "BadCount", Str.ofString "BadTie", Str.ofString "CantBe", Str.ofString "BadRow", Str.ofString "BadName", Str.ofString "Taken", Str.ofString "Full", Str.ofString "Twice", Str.ofString "GivenUp", Str.ofString "Held", Str.ofString "Idle", Str.ofString "Against", Str.ofString "BadText", Str.ofString "NoLife", Str.ofString "NoHolding", Str.ofString "NoPresentment", Str.ofString "NoPlace", Str.ofString "Nothing", Str.ofString "odd"] : List Str).map D.str)), none, none] := by
    intro c hc hk
    simp only [rsd, List.mem_cons, List.not_mem_nil, or_false] at hc
    rcases hc with h | h | h | h | h | h | h | h | h <;> subst h <;> (cases hk; rfl)
  have e : b_kin c a = b0_kin c a := if_pos hr
  unfold h_kin fnP
  rw [e]
  show (match b0_kin c a (some (.opq (.ref a)) :: [none, none, none, none]) with
    | .ret d _ => Out.ok d
    | .next _ => .ok .non
    | .ex x _ => .ex x
    | _ => .bad) = _
  rw [kin_step, go c hc h]
end H37


namespace H37
open PySem PySem.Spec PyProof.Rows L2 DL
def top (i : Nat) : Stmt := PySem.Challenge.pw_lifehold_k37_lives_and_holdings.main.body.getD i (.Pass ⟨0, 0, 0, 0⟩)
structure Top (K : PySem.W.Frag) (mg : Str → Option Value) (cl : Nat → Addr) : Prop where
  d_Manor___init__ : DefI K mg "Manor" (cl 0) "Manor.__init__" (defArgs (inC (top 92) 0)) (defBody (inC (top 92) 0)) (defScope (inC (top 92) 0)) []
  d__law_mix : Def0 K mg "_law_mix" (defArgs (top 94)) (defBody (top 94)) (defScope (top 94)) []
  d__law_raw : Def0 K mg "_law_raw" (defArgs (top 95)) (defBody (top 95)) (defScope (top 95)) []
  d__law_digits : Def0 K mg "_law_digits" (defArgs (top 96)) (defBody (top 96)) (defScope (top 96)) []
  d__law_new : Def0 K mg "_law_new" (defArgs (top 100)) (defBody (top 100)) (defScope (top 100)) []
  d__law_bad_holding : Def0 K mg "_law_bad_holding" (defArgs (top 109)) (defBody (top 109)) (defScope (top 109)) []
  d__law_name_ok : Def0 K mg "_law_name_ok" (defArgs (top 101)) (defBody (top 101)) (defScope (top 101)) []
  d__law_bad_let : Def0 K mg "_law_bad_let" (defArgs (top 102)) (defBody (top 102)) (defScope (top 102)) []
  d__law_bad : Def0 K mg "_law_bad" (defArgs (top 112)) (defBody (top 112)) (defScope (top 112)) []
  d__law_copy : Def0 K mg "_law_copy" (defArgs (top 116)) (defBody (top 116)) (defScope (top 116)) []
  d__law_done : Def0 K mg "_law_done" (defArgs (top 117)) (defBody (top 117)) (defScope (top 117)) []
  d__law_same : Def0 K mg "_law_same" (defArgs (top 118)) (defBody (top 118)) (defScope (top 118)) []
  d_Manor_state : DefM K (cl 0) "state" "Manor.state" (defArgs (inC (top 92) 4)) (defBody (inC (top 92) 4)) (defScope (inC (top 92) 4)) []
  d_Manor_note : DefM K (cl 0) "note" "Manor.note" (defArgs (inC (top 92) 6)) (defBody (inC (top 92) 6)) (defScope (inC (top 92) 6)) []
  d_is_day : Def0 K mg "is_day" (defArgs (top 26)) (defBody (top 26)) (defScope (top 26)) []
  d_need_holding : Def0 K mg "need_holding" (defArgs (top 68)) (defBody (top 68)) (defScope (top 68)) []
  d_need_open : Def0 K mg "need_open" (defArgs (top 69)) (defBody (top 69)) (defScope (top 69)) []
  d_Manor_give_up : DefM K (cl 0) "give_up" "Manor.give_up" (defArgs (inC (top 92) 11)) (defBody (inC (top 92) 11)) (defScope (inC (top 92) 11)) []
  d_need_day : Def0 K mg "need_day" (defArgs (top 27)) (defBody (top 27)) (defScope (top 27)) []
  d_need_life : Def0 K mg "need_life" (defArgs (top 66)) (defBody (top 66)) (defScope (top 66)) []
  d_need_lives : Def0 K mg "need_lives" (defArgs (top 67)) (defBody (top 67)) (defScope (top 67)) []
  d_need_name : Def0 K mg "need_name" (defArgs (top 64)) (defBody (top 64)) (defScope (top 64)) []
  d_need_room : Def0 K mg "need_room" (defArgs (top 65)) (defBody (top 65)) (defScope (top 65)) []
  d_room_for_holding : Def0 K mg "room_for_holding" (defArgs (top 73)) (defBody (top 73)) (defScope (top 73)) []
  d_Manor_let : DefM K (cl 0) "let" "Manor.let" (defArgs (inC (top 92) 8)) (defBody (inC (top 92) 8)) (defScope (inC (top 92) 8)) []
  d_room_for_life : Def0 K mg "room_for_life" (defArgs (top 72)) (defBody (top 72)) (defScope (top 72)) []
  d_Manor_life : DefM K (cl 0) "life" "Manor.life" (defArgs (inC (top 92) 7)) (defBody (inC (top 92) 7)) (defScope (inC (top 92) 7)) []
  d_need_unlike : Def0 K mg "need_unlike" (defArgs (top 70)) (defBody (top 70)) (defScope (top 70)) []
  d_room_in_row : Def0 K mg "room_in_row" (defArgs (top 75)) (defBody (top 75)) (defScope (top 75)) []
  d_Manor_put_in : DefM K (cl 0) "put_in" "Manor.put_in" (defArgs (inC (top 92) 9)) (defBody (inC (top 92) 9)) (defScope (inC (top 92) 9)) []
  d_Manor_do : DefM K (cl 0) "do" "Manor.do" (defArgs (inC (top 92) 18)) (defBody (inC (top 92) 18)) (defScope (inC (top 92) 18)) []
  d__law_by : Def0 K mg "_law_by" (defArgs (top 113)) (defBody (top 113)) (defScope (top 113)) []
  d__law_kin : Def0 K mg "_law_kin" (defArgs (top 114)) (defBody (top 114)) (defScope (top 114)) []
  d__law_tried : Def0 K mg "_law_tried" (defArgs (top 115)) (defBody (top 115)) (defScope (top 115)) []
  d__law_play : Def0 K mg "_law_play" (defArgs (top 119)) (defBody (top 119)) (defScope (top 119)) []
  d__law_pool : Def0 K mg "_law_pool" (defArgs (top 99)) (defBody (top 99)) (defScope (top 99)) []
  d_Manor___len__ : DefM K (cl 0) "__len__" "Manor.__len__" (defArgs (inC (top 92) 2)) (defBody (inC (top 92) 2)) (defScope (inC (top 92) 2)) []
  d_Manor_coming : DefM K (cl 0) "coming" "Manor.coming" (defArgs (inC (top 92) 28)) (defBody (inC (top 92) 28)) (defScope (inC (top 92) 28)) []
  d_Manor_holdings : DefM K (cl 0) "holdings" "Manor.holdings" (defArgs (inC (top 92) 24)) (defBody (inC (top 92) 24)) (defScope (inC (top 92) 24)) []
  d_Manor_lives : DefM K (cl 0) "lives" "Manor.lives" (defArgs (inC (top 92) 23)) (defBody (inC (top 92) 23)) (defScope (inC (top 92) 23)) []
  d_Manor_presentments : DefM K (cl 0) "presentments" "Manor.presentments" (defArgs (inC (top 92) 27)) (defBody (inC (top 92) 27)) (defScope (inC (top 92) 27)) []
  d_Manor_row_of : DefM K (cl 0) "row_of" "Manor.row_of" (defArgs (inC (top 92) 25)) (defBody (inC (top 92) 25)) (defScope (inC (top 92) 25)) []
  d_Manor_term : DefM K (cl 0) "term" "Manor.term" (defArgs (inC (top 92) 26)) (defBody (inC (top 92) 26)) (defScope (inC (top 92) 26)) []
  d__law_stands : Def0 K mg "_law_stands" (defArgs (top 120)) (defBody (top 120)) (defScope (top 120)) []
  d__law_far : Def0 K mg "_law_far" (defArgs (top 97)) (defBody (top 97)) (defScope (top 97)) []
  d__law_lives_row : Def0 K mg "_law_lives_row" (defArgs (top 98)) (defBody (top 98)) (defScope (top 98)) []
  d__law_wild : Def0 K mg "_law_wild" (defArgs (top 121)) (defBody (top 121)) (defScope (top 121)) []
  cls : Cls K (cl 0)
  na_ahead : NoAttr K (cl 0) "ahead"
  na_behind : NoAttr K (cl 0) "behind"
  na_folk : NoAttr K (cl 0) "folk"
  na_fresh : NoAttr K (cl 0) "fresh"
  na_lets : NoAttr K (cl 0) "lets"
  na_stands : NoAttr K (cl 0) "stands"
  f_LookupError : mg "LookupError" = none
  f_ValueError : mg "ValueError" = none
  f_all : mg "all" = none
  f_bool : mg "bool" = none
  f_dict : mg "dict" = none
  f_int : mg "int" = none
  f_isinstance : mg "isinstance" = none
  f_len : mg "len" = none
  f_list : mg "list" = none
  f_range : mg "range" = none
  f_set : mg "set" = none
  f_sorted : mg "sorted" = none
  f_str : mg "str" = none
  f_tuple : mg "tuple" = none
  f_zip : mg "zip" = none
  x_LAST_DAY : ∃ t, mg "LAST_DAY" = some (.int 9999 t)
  x_LETTERS : ∃ t, mg "LETTERS" = some (.str "abcdefghijklmnopqrstuvwxyz" t)
  x_LONGEST : ∃ t, mg "LONGEST" = some (.int 8 t)
  x_MOST_HOLDINGS : ∃ t, mg "MOST_HOLDINGS" = some (.int 8 t)
  x_MOST_IN_ROW : ∃ t, mg "MOST_IN_ROW" = some (.int 4 t)
  x_MOST_LIVES : ∃ t, mg "MOST_LIVES" = some (.int 10 t)
  e_BadDay : ExF K mg (cl 3) "BadDay" veB "ValueError.__new__"
  e_BadName : ExF K mg (cl 8) "BadName" veB "ValueError.__new__"
  e_BadRow : ExF K mg (cl 7) "BadRow" veB "ValueError.__new__"
  e_Full : ExF K mg (cl 10) "Full" veB "ValueError.__new__"
  e_GivenUp : ExF K mg (cl 12) "GivenUp" veB "ValueError.__new__"
  e_NoHolding : ExF K mg (cl 18) "NoHolding" leB "LookupError.__new__"
  e_NoLife : ExF K mg (cl 17) "NoLife" leB "LookupError.__new__"
  e_Taken : ExF K mg (cl 9) "Taken" veB "ValueError.__new__"
  e_Twice : ExF K mg (cl 11) "Twice" veB "ValueError.__new__"
  g_HoldError : mg "HoldError" = some (.ref (cl 1))
  g_Missing : mg "Missing" = some (.ref (cl 2))
  g_BadDay : mg "BadDay" = some (.ref (cl 3))
  g_BadCount : mg "BadCount" = some (.ref (cl 4))
  g_BadTie : mg "BadTie" = some (.ref (cl 5))
  g_CantBe : mg "CantBe" = some (.ref (cl 6))
  g_BadRow : mg "BadRow" = some (.ref (cl 7))
  g_BadName : mg "BadName" = some (.ref (cl 8))
  g_Taken : mg "Taken" = some (.ref (cl 9))
  g_Full : mg "Full" = some (.ref (cl 10))
  g_Twice : mg "Twice" = some (.ref (cl 11))
  g_GivenUp : mg "GivenUp" = some (.ref (cl 12))
  g_Held : mg "Held" = some (.ref (cl 13))
  g_Idle : mg "Idle" = some (.ref (cl 14))
  g_Against : mg "Against" = some (.ref (cl 15))
  g_BadText : mg "BadText" = some (.ref (cl 16))
  g_NoLife : mg "NoLife" = some (.ref (cl 17))
  g_NoHolding : mg "NoHolding" = some (.ref (cl 18))
  g_NoPresentment : mg "NoPresentment" = some (.ref (cl 19))
  g_NoPlace : mg "NoPlace" = some (.ref (cl 20))
  g_Nothing : mg "Nothing" = some (.ref (cl 21))
  exc : ∀ c, rsd.contains c = true → L2.ExcC K (cl c)
  kit : ∀ c, rsd.contains c = true → ∀ d, decide (d ∈ List.range 22 ∧ d ≠ 0) = true → PySem.W.kitOne K (.ref (cl c)) (.ref (cl d)) = some (sb c d)
  kit_ValueError : ∀ c, rsd.contains c = true → PySem.W.kitOne K (.ref (cl c)) (.type "ValueError") = some (s_ValueError c)
  kit_LookupError : ∀ c, rsd.contains c = true → PySem.W.kitOne K (.ref (cl c)) (.type "LookupError") = some (s_LookupError c)
  sub : ∀ a b v, isub a b = some v → PySem.W.exmOne K (.ref (cl a)) (.ref (cl b)) = some v
section
variable {P : Program} {w : World} {K : PySem.W.Frag} {mg : Str → Option Value} {base : Heap} {cl : Nat → Addr}
def N_Manor___init__ : List Str := ["self"]
theorem sc_Manor___init__ : FnScope N_Manor___init__ ["self"] (defScope (inC (top 92) 0)) := ⟨rfl, rfl, rfl, by decide +kernel, rfl, by decide +kernel, by decide +kernel⟩
theorem c_Manor_init (T : Top K mg cl) : CalI P w K mg base "Manor" (cl 0) 1 (spM K cl 0 [2] d_Manor___init__) :=
  cali_of (ms := [2]) (Δ' := [2]) T.d_Manor___init__ sc_Manor___init__ rfl rfl (fun _ _ _ _ _ _ us hl => match us, hl with | [_], _ => rfl) (fun f cdv A outer s H E hr =>
    (ds_cons (Δ1 := [2])
    (ds_fld (dp_var 0) (dg_m (de_lst da_nil)) T.cls T.na_folk)
    (ds_cons (Δ1 := [2])
    (ds_fld (dp_var 0) (dg_m de_dic0) T.cls T.na_lets)
    (ds_cons (Δ1 := [2])
    (ds_fld (dp_var 0) (dg_m de_dic0) T.cls T.na_stands)
    (ds_cons (Δ1 := [2])
    (ds_fld (dp_var 0) (dg_m de_int) T.cls T.na_fresh)
    (ds_cons (Δ1 := [2])
    (ds_fld (dp_var 0) (dg_m (de_lst da_nil)) T.cls T.na_behind)
    (ds_one (ds_fld (dp_var 0) (dg_m (de_lst da_nil)) T.cls T.na_ahead))))))))
def N__law_mix : List Str := ["_law_seed", "_law_one", "_law_two"]
theorem sc__law_mix : FnScope N__law_mix ["_law_seed"] (defScope (top 94)) := ⟨rfl, rfl, rfl, by decide +kernel, rfl, by decide +kernel, by decide +kernel⟩
theorem c__law_mix (T : Top K mg cl) : Cal P w K mg base "_law_mix" 1 (spD K cl 0 d__law_mix) :=
  cal_of (Δ' := [0, 0, 0]) T.d__law_mix sc__law_mix (fun _ _ _ _ _ _ us hl => match us, hl with | [_], _ => rfl) (fun f cdv A outer s H E hr =>
    (ds_cons (Δ1 := [0, 0, 0])
    (dz (sa (i := 1) sc__law_mix.nd (de_op op_mod sp_intC (DE.zero (r := 1) (de_op op_addAll sp_add (DE.zero (r := 1) (de_op op_mulAll sp_mul (de_var 0) de_int)) de_int)) de_int)))
    (ds_cons (Δ1 := [0, 0, 0])
    (dz (sa (i := 2) sc__law_mix.nd (de_op op_mod sp_intC (DE.zero (r := 1) (de_op op_addAll sp_add (DE.zero (r := 1) (de_op op_addAll sp_add (DE.zero (r := 1) (de_op op_mulAll sp_mul (de_var 1) (de_var 1))) (DE.zero (r := 1) (de_op op_mulAll sp_mul de_int (de_var 1))))) (de_var 0))) de_int)))
    (ds_one (ds_ret (de_op op_mod sp_intC (DE.zero (r := 1) (de_op op_addAll sp_add (DE.zero (r := 1) (de_op op_addAll sp_add (DE.zero (r := 1) (de_op op_mulAll sp_mul (de_var 2) (de_var 2))) (DE.zero (r := 1) (de_op op_mulAll sp_mul de_int (de_var 2))))) (de_var 1))) de_int) rfl rfl)))))
def N__law_raw : List Str := ["_law_script", "_law_k", "_law_cell", "_law_found", "_law_turn"]
theorem sc__law_raw : FnScope N__law_raw ["_law_script", "_law_k"] (defScope (top 95)) := ⟨rfl, rfl, rfl, by decide +kernel, rfl, by decide +kernel, by decide +kernel⟩
theorem c__law_raw (T : Top K mg cl) : Cal P w K mg base "_law_raw" 2 (spD K cl 0 d__law_raw) :=
  cal_of (Δ' := [0, 0, 0, 0, 0]) T.d__law_raw sc__law_raw (fun _ _ _ _ _ _ us hl => match us, hl with | [_, _], _ => rfl) (fun f cdv A outer s H E hr =>
    (ds_cons (Δ1 := [0, 0, 0, 0, 0])
    (dz (sa (i := 2) sc__law_raw.nd (DE.zero (r := 1) (de_op op_addAll sp_add (DE.zero (r := 1) (de_op op_mulAll sp_mul de_int (de_var 1))) de_int))))
    (ds_cons (Δ1 := [0, 0, 0, 0, 0])
    (ds_if (dt_cmp op_gt sp_cmp (dcb sp_lenA (pe_callB call_lenA (by rfl) T.f_len boot_len (da_cons (de_var 0) da_nil))) de_int rfl)
    (ds_one (dz (sa (i := 2) sc__law_raw.nd (DE.zero (r := 1) (de_op op_addAll sp_add (de_ix (ix_all (hu1 hr)) sp_ixA (de_var 0) (de_op op_mod sp_intC (de_var 1) (dcb sp_lenA (pe_callB call_lenA (by rfl) T.f_len boot_len (da_cons (de_var 0) da_nil))))) (DE.zero (r := 1) (de_op op_mulAll sp_mul de_int (de_op op_fdivW sp_intC (de_var 1) (dcb sp_lenA (pe_callB call_lenA (by rfl) T.f_len boot_len (da_cons (de_var 0) da_nil)))))))))))
    ds_nil rfl)
    (ds_cons (Δ1 := [0, 0, 0, 0, 0])
    (ds_if (dt_w (dw_and (dt_cmp op_lt sp_cmp (de_var 1) (dcb sp_lenA (pe_callB call_lenA (by rfl) T.f_len boot_len (da_cons (de_var 0) da_nil))) rfl) (dw_and1 (dt_cmp op_ge sp_cmp (de_var 2) (de_op op_pow sp_intC de_int de_int) rfl))))
    (ds_one (ds_ret (de_op op_sub sp_int (de_var 2) (de_op op_pow sp_intC de_int de_int)) rfl rfl))
    ds_nil rfl)
    (ds_cons (Δ1 := [0, 0, 0, 0, 0])
    (dz (sa (i := 3) sc__law_raw.nd de_int))
    (ds_cons (Δ1 := [0, 0, 0, 0, 0])
    (fz [0, 0, 0, 0, 0] (sfor psD (di_rng1 (pi_range1 (by rfl) T.f_range (da_cons de_int da_nil))) (dg_nm 4 sc__law_raw.nd) (ds_one (dz (sa (i := 3) sc__law_raw.nd (DE.zero (r := 1) (de_op op_addAll sp_add (DE.zero (r := 1) (de_op op_mulAll sp_mul (de_var 3) de_int)) (de_call (c__law_mix T) (hr.mono (by decide)) (by rfl) tkD (da_cons (DE.zero (r := 1) (de_op op_addAll sp_add (DE.zero (r := 1) (de_op op_addAll sp_add (de_var 2) (DE.zero (r := 1) (de_op op_mulAll sp_mul de_int (de_var 1))))) (DE.zero (r := 1) (de_op op_mulAll sp_mul de_int (de_var 4))))) da_nil)))))))))
    (ds_one (ds_ret (de_var 3) rfl rfl))))))))
def N__law_digits : List Str := ["_law_script", "_law_k", "_law_sizes", "_law_rest", "_law_found", "_law_size"]
theorem sc__law_digits : FnScope N__law_digits ["_law_script", "_law_k", "_law_sizes"] (defScope (top 96)) := ⟨rfl, rfl, rfl, by decide +kernel, rfl, by decide +kernel, by decide +kernel⟩
theorem c__law_digits (T : Top K mg cl) : Cal P w K mg base "_law_digits" 3 (spD K cl 0 d__law_digits) :=
  cal_of (Δ' := [0, 0, 0, 0, 0, 0]) T.d__law_digits sc__law_digits (fun _ _ _ _ _ _ us hl => match us, hl with | [_, _, _], _ => rfl) (fun f cdv A outer s H E hr =>
    (ds_cons (Δ1 := [0, 0, 0, 0, 0, 0])
    (dz (sa (i := 3) sc__law_digits.nd (de_call (c__law_raw T) (hr.mono (by decide)) (by rfl) tkD (da_cons (de_var 0) (da_cons (de_var 1) da_nil)))))
    (ds_cons (Δ1 := [0, 0, 0, 0, 1, 0])
    (dz (sa (i := 4) sc__law_digits.nd (de_lst da_nil)))
    (ds_cons (Δ1 := [0, 0, 0, 0, 1, 0])
    (fm [0, 0, 0, 0, 1, 0] (sfor psD (di_any (de_var 2)) (dg_nm 5 sc__law_digits.nd) (ds_cons (Δ1 := [0, 0, 0, 0, 1, 0])
    (ds_exprX (dx_append (dp_var 4) (dg_m (de_op op_mod sp_intC (de_var 3) (de_var 5)))))
    (ds_one (dm (sa (i := 3) sc__law_digits.nd (de_op op_fdivW sp_intC (de_var 3) (de_var 5))))))))
    (ds_one (ds_ret (de_var 4) rfl rfl))))))
def N__law_new : List Str := []
theorem sc__law_new : FnScope N__law_new [] (defScope (top 100)) := ⟨rfl, rfl, rfl, by decide +kernel, rfl, by decide +kernel, by decide +kernel⟩
theorem c__law_new (T : Top K mg cl) : Cal P w K mg base "_law_new" 1 (spD K cl 0 d__law_new) :=
  cal_of (Δ' := []) T.d__law_new sc__law_new (fun _ _ _ _ _ _ us hl => match us, hl with | [], _ => rfl) (fun f cdv A outer s H E hr =>
    (ds_one (ds_ret (DE.zero (r := 1) (de_disp (dps_cons (DE.zero (r := 1) (de_lst da_nil)) (dps_cons (DE.zero (r := 1) de_dic0) (dps_cons (DE.zero (r := 1) de_dic0) (dps_cons de_int dps_nil)))))) rfl rfl)))
def N__law_bad_holding : List Str := ["_law_m", "_law_deed", "_law_row", "_law_begin", "_law_stop"]
theorem sc__law_bad_holding : FnScope N__law_bad_holding ["_law_m", "_law_deed"] (defScope (top 109)) := ⟨rfl, rfl, rfl, by decide +kernel, rfl, by decide +kernel, by decide +kernel⟩
theorem c__law_bad_holding (T : Top K mg cl) : Cal P w K mg base "_law_bad_holding" 1 (spD K cl 0 d__law_bad_holding) :=
  cal_of (Δ' := [0, 0, 0, 0, 0]) T.d__law_bad_holding sc__law_bad_holding (fun _ _ _ _ _ _ us hl => match us, hl with | [_, _], _ => rfl) (fun f cdv A outer s H E hr =>
    (ds_cons (Δ1 := [0, 0, 0, 0, 0])
    (ds_if (dt_cmp (op_notInA (hu1 hr)) sp_inA (de_ix (ix_all (hu1 hr)) sp_ixA (de_var 1) de_int) (de_ix (ix_all (hu1 hr)) sp_ixA (de_var 0) de_str) rfl)
    (ds_one (ds_ret de_str rfl rfl))
    ds_nil rfl)
    (ds_cons (Δ1 := [0, 0, 0, 0, 0])
    (uz (su (de_ix (ix_all (hu1 hr)) sp_ixA (de_ix (ix_all (hu1 hr)) sp_ixA (de_var 0) de_str) (de_ix (ix_all (hu1 hr)) sp_ixA (de_var 1) de_int)) (pg_tp rfl (dgs_nm 2 sc__law_bad_holding.nd (dgs_nm 3 sc__law_bad_holding.nd (dgs_nm 4 sc__law_bad_holding.nd dgs_nil))))))
    (ds_cons (Δ1 := [0, 0, 0, 0, 0])
    (ds_if (dt_cmp op_eq sp_eq (de_ix (ix_all (hu1 hr)) sp_ixA (de_var 1) de_int) de_str rfl)
    (ds_cons (Δ1 := [0, 0, 0, 0, 0])
    (ds_if (dt_not (dt_chain op_lt sp_cmp op_le sp_cmp (de_var 3) (de_ix (ix_all (hu1 hr)) sp_ixA (de_var 1) de_int) de_int))
    (ds_one (ds_ret de_str rfl rfl))
    ds_nil rfl)
    (ds_one (ds_ret (de_if (dt_cmp op_isnt' sp_isnt (de_var 4) de_non rfl) de_str de_str) rfl rfl)))
    ds_nil rfl)
    (ds_cons (Δ1 := [0, 0, 0, 0, 0])
    (ds_if (dt_w (dw_and (dt_cmp op_eq sp_eq (de_ix (ix_all (hu1 hr)) sp_ixA (de_var 1) de_int) de_str rfl) (dw_and1 (dt_not (dt_chain op_le sp_cmp op_lt sp_cmp de_int (de_ix (ix_all (hu1 hr)) sp_ixA (de_var 1) de_int) (dcb sp_lenA (pe_callB call_lenA (by rfl) T.f_len boot_len (da_cons (de_var 2) da_nil))))))))
    (ds_one (ds_ret de_str rfl rfl))
    ds_nil rfl)
    (ds_cons (Δ1 := [0, 0, 0, 0, 0])
    (ds_if (dt_cmp (op_notInA (hu1 hr)) sp_inA (de_ix (ix_all (hu1 hr)) sp_ixA (de_var 1) (de_un un_neg sp_neg de_int)) (de_ix (ix_all (hu1 hr)) sp_ixA (de_var 0) de_str) rfl)
    (ds_one (ds_ret de_str rfl rfl))
    ds_nil rfl)
    (ds_cons (Δ1 := [0, 0, 0, 0, 0])
    (ds_if (dt_cmp op_isnt' sp_isnt (de_var 4) de_non rfl)
    (ds_one (ds_ret de_str rfl rfl))
    ds_nil rfl)
    (ds_cons (Δ1 := [0, 0, 0, 0, 0])
    (ds_if (dt_cmp (op_inA (hu1 hr)) sp_inA (de_ix (ix_all (hu1 hr)) sp_ixA (de_var 1) (de_un un_neg sp_neg de_int)) (de_var 2) rfl)
    (ds_one (ds_ret de_str rfl rfl))
    ds_nil rfl)
    (ds_cons (Δ1 := [0, 0, 0, 0, 0])
    (ds_if (dt_cmp op_eq sp_eq (de_ix (ix_all (hu1 hr)) sp_ixA (de_var 1) de_int) de_str rfl)
    (ds_one (ds_ret (de_if (dt_cmp op_gt sp_cmp (dcb sp_lenA (pe_callB call_lenA (by rfl) T.f_len boot_len (da_cons (de_var 2) da_nil))) de_int rfl) de_str de_str) rfl rfl))
    ds_nil rfl)
    (ds_one (ds_ret (de_if dt_bad de_str de_str) rfl rfl)))))))))))
def N__law_name_ok : List Str := ["_law_name", "_law_sign"]
theorem sc__law_name_ok : FnScope N__law_name_ok ["_law_name"] (defScope (top 101)) := ⟨rfl, rfl, rfl, by decide +kernel, rfl, by decide +kernel, by decide +kernel⟩
theorem c__law_name_ok (T : Top K mg cl) : Cal P w K mg base "_law_name_ok" 1 (spD K cl 0 d__law_name_ok) :=
  cal_of (Δ' := [0, 0]) T.d__law_name_ok sc__law_name_ok (fun _ _ _ _ _ _ us hl => match us, hl with | [_], _ => rfl) (fun f cdv A outer s H E hr =>
    (ds_one (ds_ret (de_and (de_chain op_le sp_cmp op_le sp_cmp de_int (dcb sp_lenA (pe_callB call_lenA (by rfl) T.f_len boot_len (da_cons (de_var 0) da_nil))) de_int) (de_one (dcb sp_all (pe_callB (cr_all rfl) (by rfl) T.f_all boot_all (da_cons (DE.zero (r := 1) (de_lc (own := [("_law_sign", 1)]) rfl sc__law_name_ok.nd (di_any (de_var 0)) (blkOk_by (N := N__law_name_ok) (sc := (defScope (top 101))) (by decide +kernel)) (fun _ _ _ _ _ => (dg_nm 1 sc__law_name_ok.nd)) (fun _ _ _ _ _ => dts_nil) (fun _ _ _ _ _ => (de_cmp (op_inA (hu1 hr)) sp_inA (de_var 1) de_str rfl)) (by decide))) da_nil))))) rfl rfl)))
def N__law_bad_let : List Str := ["_law_m", "_law_deed", "_law_name"]
theorem sc__law_bad_let : FnScope N__law_bad_let ["_law_m", "_law_deed"] (defScope (top 102)) := ⟨rfl, rfl, rfl, by decide +kernel, rfl, by decide +kernel, by decide +kernel⟩
theorem c__law_bad_let (T : Top K mg cl) : Cal P w K mg base "_law_bad_let" 2 (spD K cl 0 d__law_bad_let) :=
  cal_of (Δ' := [0, 0, 0]) T.d__law_bad_let sc__law_bad_let (fun _ _ _ _ _ _ us hl => match us, hl with | [_, _], _ => rfl) (fun f cdv A outer s H E hr =>
    (ds_cons (Δ1 := [0, 0, 0])
    (ds_if (dt_not (dt_val (de_call (c__law_name_ok T) (hr.mono (by decide)) (by rfl) tkD (da_cons (de_ix (ix_all (hu1 hr)) sp_ixA (de_var 1) de_int) da_nil))))
    (ds_one (ds_ret de_str rfl rfl))
    ds_nil rfl)
    (ds_cons (Δ1 := [0, 0, 0])
    (ds_if (dt_cmp (op_inA (hu1 hr)) sp_inA (de_ix (ix_all (hu1 hr)) sp_ixA (de_var 1) de_int) (de_ix (ix_all (hu1 hr)) sp_ixA (de_var 0) de_str) rfl)
    (ds_one (ds_ret de_str rfl rfl))
    ds_nil rfl)
    (ds_cons (Δ1 := [0, 0, 0])
    (ds_if (dt_w (dw_or (dt_not (dt_chain op_le sp_cmp op_le sp_cmp de_int (dcb sp_lenA (pe_callB call_lenA (by rfl) T.f_len boot_len (da_cons (de_ix (ix_all (hu1 hr)) sp_ixA (de_var 1) de_int) da_nil))) de_int)) (dw_or1 (dt_cmp op_lt sp_cmp (de_lenset (by rfl) T.f_len (by rfl) T.f_set (de_ix (ix_all (hu1 hr)) sp_ixA (de_var 1) de_int)) (dcb sp_lenA (pe_callB call_lenA (by rfl) T.f_len boot_len (da_cons (de_ix (ix_all (hu1 hr)) sp_ixA (de_var 1) de_int) da_nil))) rfl))))
    (ds_one (ds_ret de_str rfl rfl))
    ds_nil rfl)
    (ds_cons (Δ1 := [0, 0, 0])
    (ds_if (dt_not (dt_val (dcb sp_all (pe_callB (cr_all rfl) (by rfl) T.f_all boot_all (da_cons (DE.zero (r := 1) (de_lc (own := [("_law_name", 2)]) rfl sc__law_bad_let.nd (di_any (de_ix (ix_all (hu1 hr)) sp_ixA (de_var 1) de_int)) (blkOk_by (N := N__law_bad_let) (sc := (defScope (top 102))) (by decide +kernel)) (fun _ _ _ _ _ => (dg_nm 2 sc__law_bad_let.nd)) (fun _ _ _ _ _ => dts_nil) (fun _ _ _ _ _ => (de_cmp (op_inA (hu1 hr)) sp_inA (de_var 2) (de_ix (ix_all (hu1 hr)) sp_ixA (de_var 0) de_str) rfl)) (by decide))) da_nil)))))
    (ds_one (ds_ret de_str rfl rfl))
    ds_nil rfl)
    (ds_cons (Δ1 := [0, 0, 0])
    (ds_if (dt_not (dt_chain op_le sp_cmp op_le sp_cmp de_int (de_ix (ix_all (hu1 hr)) sp_ixA (de_var 1) de_int) de_int))
    (ds_one (ds_ret de_str rfl rfl))
    ds_nil rfl)
    (ds_one (ds_ret (de_if (dt_cmp op_gt sp_cmp (dcb sp_lenA (pe_callB call_lenA (by rfl) T.f_len boot_len (da_cons (de_ix (ix_all (hu1 hr)) sp_ixA (de_var 0) de_str) da_nil))) de_int rfl) de_str de_str) rfl rfl))))))))
def N__law_bad : List Str := ["_law_m", "_law_deed"]
theorem sc__law_bad : FnScope N__law_bad ["_law_m", "_law_deed"] (defScope (top 112)) := ⟨rfl, rfl, rfl, by decide +kernel, rfl, by decide +kernel, by decide +kernel⟩
theorem c__law_bad (T : Top K mg cl) : Cal P w K mg base "_law_bad" 3 (spD K cl 0 d__law_bad) :=
  cal_of (Δ' := [0, 0]) T.d__law_bad sc__law_bad (fun _ _ _ _ _ _ us hl => match us, hl with | [_, _], _ => rfl) (fun f cdv A outer s H E hr =>
    (ds_cons (Δ1 := [0, 0])
    (ds_if (dt_cmp op_eq sp_eq (de_ix (ix_all (hu1 hr)) sp_ixA (de_var 1) de_int) de_str rfl)
    (ds_cons (Δ1 := [0, 0])
    (ds_if (dt_not (dt_val (de_call (c__law_name_ok T) (hr.mono (by decide)) (by rfl) tkD (da_cons (de_ix (ix_all (hu1 hr)) sp_ixA (de_var 1) de_int) da_nil))))
    (ds_one (ds_ret de_str rfl rfl))
    ds_nil rfl)
    (ds_cons (Δ1 := [0, 0])
    (ds_if (dt_cmp (op_inA (hu1 hr)) sp_inA (de_ix (ix_all (hu1 hr)) sp_ixA (de_var 1) de_int) (de_ix (ix_all (hu1 hr)) sp_ixA (de_var 0) de_str) rfl)
    (ds_one (ds_ret de_str rfl rfl))
    ds_nil rfl)
    (ds_one (ds_ret (de_if (dt_cmp op_gt sp_cmp (dcb sp_lenA (pe_callB call_lenA (by rfl) T.f_len boot_len (da_cons (de_ix (ix_all (hu1 hr)) sp_ixA (de_var 0) de_str) da_nil))) de_int rfl) de_str de_str) rfl rfl))))
    ds_nil rfl)
    (ds_cons (Δ1 := [0, 0])
    (ds_if (dt_cmp op_eq sp_eq (de_ix (ix_all (hu1 hr)) sp_ixA (de_var 1) de_int) de_str rfl)
    (ds_one (ds_ret (de_call (c__law_bad_let T) (hr.mono (by decide)) (by rfl) tkD (da_cons (de_var 0) (da_cons (de_var 1) da_nil))) rfl rfl))
    ds_nil rfl)
    (ds_cons (Δ1 := [0, 0])
    (ds_if (dt_cmp (op_inA (hu1 hr)) sp_inA (de_ix (ix_all (hu1 hr)) sp_ixA (de_var 1) de_int) (DE.zero (r := 1) (de_tup (da_cons de_str (da_cons de_str (da_cons de_str da_nil))))) rfl)
    (ds_one (ds_ret (de_call (c__law_bad_holding T) (hr.mono (by decide)) (by rfl) tkD (da_cons (de_var 0) (da_cons (de_var 1) da_nil))) rfl rfl))
    ds_nil rfl)
    (ds_cons (Δ1 := [0, 0])
    (ds_if dt_bad
    (ds_one (ds_ret (de_if (dt_cmp (op_inA (hu1 hr)) sp_inA (de_ix (ix_all (hu1 hr)) sp_ixA (de_var 1) de_int) (de_ix (ix_all (hu1 hr)) sp_ixA (de_var 0) de_str) rfl) de_str de_str) rfl rfl))
    ds_nil rfl)
    (ds_one ds_bad))))))
def N__law_copy : List Str := ["_law_m"]
theorem sc__law_copy : FnScope N__law_copy ["_law_m"] (defScope (top 116)) := ⟨rfl, rfl, rfl, by decide +kernel, rfl, by decide +kernel, by decide +kernel⟩
theorem c__law_copy (T : Top K mg cl) : Cal P w K mg base "_law_copy" 1 (spD K cl 2 d__law_copy) :=
  cal_of (Δ' := [0]) T.d__law_copy sc__law_copy (fun _ _ _ _ _ _ us hl => match us, hl with | [_], _ => rfl) (fun f cdv A outer s H E hr =>
    (ds_one (ds_ret (de_disp (dps_cons (dcb sp_list (pe_callTy call_list_of (by rfl) T.f_list boot_list (da_cons (de_ix (ix_all (hu1 hr)) sp_ixA (de_var 0) de_str) da_nil))) (dps_cons (dcb sp_dict (pe_callTy sp_dict' (by rfl) T.f_dict boot_dict (da_cons (de_ix (ix_all (hu1 hr)) sp_ixA (de_var 0) de_str) da_nil))) (dps_cons (dcb sp_dict (pe_callTy sp_dict' (by rfl) T.f_dict boot_dict (da_cons (de_ix (ix_all (hu1 hr)) sp_ixA (de_var 0) de_str) da_nil))) (dps_cons (de_up (de_ix (ix_all (hu1 hr)) sp_ixA (de_var 0) de_str)) dps_nil))))) rfl rfl)))
def N__law_done : List Str := ["_law_m", "_law_deed", "_law_found", "_law_row", "_law_begin", "_law_stop"]
theorem sc__law_done : FnScope N__law_done ["_law_m", "_law_deed"] (defScope (top 117)) := ⟨rfl, rfl, rfl, by decide +kernel, rfl, by decide +kernel, by decide +kernel⟩
theorem c__law_done (T : Top K mg cl) : Cal P w K mg base "_law_done" 2 (spD K cl 0 d__law_done) :=
  cal_of (Δ' := [0, 0, 0, 0, 0, 0]) T.d__law_done sc__law_done (fun _ _ _ _ _ _ us hl => match us, hl with | [_, _], _ => rfl) (fun f cdv A outer s H E hr =>
    (ds_cons (Δ1 := [0, 0, 2, 0, 0, 0])
    (dz (sa (i := 2) sc__law_done.nd (de_call (c__law_copy T) (hr.mono (by decide)) (by rfl) tkD (da_cons (de_var 0) da_nil))))
    (ds_cons (Δ1 := [0, 0, 2, 0, 0, 0])
    (ds_if (dt_cmp op_eq sp_eq (de_ix (ix_all (hu1 hr)) sp_ixA (de_var 1) de_int) de_str rfl)
    (ds_one (ds_exprX (dx_append (dp_ix (dp_var 2) (hu1 hr) (dg_m de_str) ⟨1, rfl⟩) (dg_m (de_ix (ix_all (hu1 hr)) sp_ixA (de_var 1) de_int)))))
    (ds_one (ds_if (dt_cmp op_eq sp_eq (de_ix (ix_all (hu1 hr)) sp_ixA (de_var 1) de_int) de_str rfl)
    (ds_one (sput (dp_ix (dp_var 2) (hu1 hr) (dg_m de_str) ⟨1, rfl⟩) (dg_m (DE.zero (r := 1) (de_tup (da_cons (de_ix (ix_all (hu1 hr)) sp_ixA (de_var 1) de_int) (da_cons (de_ix (ix_all (hu1 hr)) sp_ixA (de_var 1) de_int) (da_cons de_non da_nil)))))) (dg_m (de_ix (ix_all (hu1 hr)) sp_ixA (de_var 1) de_int)) (hu1 hr)))
    (ds_one (ds_if (dt_cmp op_eq sp_eq (de_ix (ix_all (hu1 hr)) sp_ixA (de_var 1) de_int) de_str rfl)
    (ds_one ds_bad)
    (ds_one (ds_if (dt_cmp op_eq sp_eq (de_ix (ix_all (hu1 hr)) sp_ixA (de_var 1) de_int) de_str rfl)
    (ds_one ds_bad)
    (ds_one (ds_if (dt_cmp op_eq sp_eq (de_ix (ix_all (hu1 hr)) sp_ixA (de_var 1) de_int) de_str rfl)
    dss_bad
    (ds_cons (Δ1 := [0, 0, 2, 0, 0, 0])
    (ds_unpX (sux (dx_i (r := 0) (de_ix (ix_all (hu1 hr)) sp_ixA (de_ix (ix_all (hu1 hr)) sp_ixA (de_var 2) de_str) (de_ix (ix_all (hu1 hr)) sp_ixA (de_var 1) de_int))) (pg_tp rfl (dgs_nm 3 sc__law_done.nd (dgs_nm 4 sc__law_done.nd (dgs_nm 5 sc__law_done.nd dgs_nil))))))
    (ds_one (ds_if (dt_cmp op_eq sp_eq (de_ix (ix_all (hu1 hr)) sp_ixA (de_var 1) de_int) de_str rfl)
    (ds_one (sput (dp_ix (dp_var 2) (hu1 hr) (dg_m de_str) ⟨1, rfl⟩) (dg_m (DE.zero (r := 1) (de_tup (da_cons (DE.zero (r := 1) (de_op op_addAll sp_add (de_var 3) (DE.zero (r := 1) (de_tup (da_cons (de_ix (ix_all (hu1 hr)) sp_ixA (de_var 1) de_int) da_nil))))) (da_cons (de_var 4) (da_cons (de_var 5) da_nil)))))) (dg_m (de_ix (ix_all (hu1 hr)) sp_ixA (de_var 1) de_int)) (hu1 hr)))
    (ds_one (ds_if (dt_cmp op_eq sp_eq (de_ix (ix_all (hu1 hr)) sp_ixA (de_var 1) de_int) de_str rfl)
    (ds_one (sput (dp_ix (dp_var 2) (hu1 hr) (dg_m de_str) ⟨1, rfl⟩) (dg_m (DE.zero (r := 1) (de_tup (da_cons (DE.zero (r := 1) (de_op op_addAll sp_add (DE.zero (r := 1) (de_op op_addAll sp_add (DE.zero (r := 1) (de_slice (de_var 3) do_none (do_some (de_ix (ix_all (hu1 hr)) sp_ixA (de_var 1) de_int)))) (DE.zero (r := 1) (de_tup (da_cons (de_ix (ix_all (hu1 hr)) sp_ixA (de_var 1) de_int) da_nil))))) (DE.zero (r := 1) (de_slice (de_var 3) (do_some (DE.zero (r := 1) (de_op op_addAll sp_add (de_ix (ix_all (hu1 hr)) sp_ixA (de_var 1) de_int) de_int))) do_none)))) (da_cons (de_var 4) (da_cons (de_var 5) da_nil)))))) (dg_m (de_ix (ix_all (hu1 hr)) sp_ixA (de_var 1) de_int)) (hu1 hr)))
    (ds_one (sput (dp_ix (dp_var 2) (hu1 hr) (dg_m de_str) ⟨1, rfl⟩) (dg_m (DE.zero (r := 1) (de_tup (da_cons (de_var 3) (da_cons (de_var 4) (da_cons (de_ix (ix_all (hu1 hr)) sp_ixA (de_var 1) de_int) da_nil)))))) (dg_m (de_ix (ix_all (hu1 hr)) sp_ixA (de_var 1) de_int)) (hu1 hr))) rfl)) rfl))) rfl)) rfl)) rfl)) rfl)) rfl)
    (ds_one (ds_ret (de_var 2) rfl rfl)))))
def N__law_same : List Str := ["_law_told", "_law_due", "_law_one", "_law_other"]
theorem sc__law_same : FnScope N__law_same ["_law_told", "_law_due"] (defScope (top 118)) := ⟨rfl, rfl, rfl, by decide +kernel, rfl, by decide +kernel, by decide +kernel⟩
theorem c__law_same (T : Top K mg cl) : ∀ n, Cal P w K mg base "_law_same" (n + 1) (spD K cl 0 (d__law_same n))
  | 0 => cal_none (ps := ["_law_told", "_law_due"]) T.d__law_same (fun _ _ _ _ _ _ us hl => match us, hl with | [_, _], _ => rfl)
  | n + 1 => by
    have C0 : Cal P w K mg base "_law_same" (n + 1) (spD K cl 0 (d__law_same n)) := c__law_same T n
    exact cal_of (Δ' := [0, 0, 0, 0]) (k := n + 1) T.d__law_same sc__law_same (fun _ _ _ _ _ _ us hl => match us, hl with | [_, _], _ => rfl) (fun f cdv A outer s H E hr =>
    (ds_cons (Δ1 := [0, 0, 0, 0])
    (ds_if (dt_cmp op_is' sp_is (de_var 1) de_non rfl)
    (ds_one (ds_ret (de_cmp op_is' sp_is (de_var 0) de_non rfl) rfl rfl))
    ds_nil rfl)
    (ds_cons (Δ1 := [0, 0, 0, 0])
    (ds_if (dt_w (dw_or (dt_val (de_isi (T := .list) (pe_callB call_isi (by rfl) T.f_isinstance boot_isinstance (pa_cons (de_var 1) (pa_cons (pe_bltn (by rfl) T.f_list boot_list rfl) pa_nil))))) (dw_or1 (dt_val (de_isi (T := .tuple) (pe_callB call_isi (by rfl) T.f_isinstance boot_isinstance (pa_cons (de_var 1) (pa_cons (pe_bltn (by rfl) T.f_tuple boot_tuple rfl) pa_nil))))))))
    (ds_cons (Δ1 := [0, 0, 0, 0])
    (ds_if (dt_w (dw_or (dt_cmp op_ne sp_ne (de_isi (T := .list) (pe_callB call_isi (by rfl) T.f_isinstance boot_isinstance (pa_cons (de_var 0) (pa_cons (pe_bltn (by rfl) T.f_list boot_list rfl) pa_nil)))) (de_isi (T := .list) (pe_callB call_isi (by rfl) T.f_isinstance boot_isinstance (pa_cons (de_var 1) (pa_cons (pe_bltn (by rfl) T.f_list boot_list rfl) pa_nil)))) rfl) (dw_or1 (dt_cmp op_ne sp_ne (de_isi (T := .tuple) (pe_callB call_isi (by rfl) T.f_isinstance boot_isinstance (pa_cons (de_var 0) (pa_cons (pe_bltn (by rfl) T.f_tuple boot_tuple rfl) pa_nil)))) (de_isi (T := .tuple) (pe_callB call_isi (by rfl) T.f_isinstance boot_isinstance (pa_cons (de_var 1) (pa_cons (pe_bltn (by rfl) T.f_tuple boot_tuple rfl) pa_nil)))) rfl))))
    (ds_one (ds_ret de_bl rfl rfl))
    ds_nil rfl)
    (ds_one (ds_ret (de_and (de_cmp op_eq sp_eq (dcb sp_lenA (pe_callB call_lenA (by rfl) T.f_len boot_len (da_cons (de_var 0) da_nil))) (dcb sp_lenA (pe_callB call_lenA (by rfl) T.f_len boot_len (da_cons (de_var 1) da_nil))) rfl) (de_one (dcb sp_all (pe_callB (cr_all rfl) (by rfl) T.f_all boot_all (da_cons (DE.zero (r := 1) (de_lc (own := [("_law_one", 2), ("_law_other", 3)]) rfl sc__law_same.nd (di_zip (by rfl) T.f_zip (da_cons (de_var 0) (da_cons (de_var 1) da_nil))) (blkOk_by (N := N__law_same) (sc := (defScope (top 118))) (by decide +kernel)) (fun _ _ _ _ _ => (pg_tp rfl (dgs_nm 2 sc__law_same.nd (dgs_nm 3 sc__law_same.nd dgs_nil)))) (fun _ _ _ _ _ => dts_nil) (fun _ _ _ _ _ => (de_call C0 (hr.mono (by omega)) (by rfl) tk0 (da_cons (de_var 2) (da_cons (de_var 3) da_nil)))) (by decide))) da_nil))))) rfl rfl)))
    ds_nil rfl)
    (ds_cons (Δ1 := [0, 0, 0, 0])
    (ds_if (dt_w (dw_or (dt_cmp op_ne sp_ne (de_isi (T := .bool) (pe_callB call_isi (by rfl) T.f_isinstance boot_isinstance (pa_cons (de_var 0) (pa_cons (pe_bltn (by rfl) T.f_bool boot_bool rfl) pa_nil)))) (de_isi (T := .bool) (pe_callB call_isi (by rfl) T.f_isinstance boot_isinstance (pa_cons (de_var 1) (pa_cons (pe_bltn (by rfl) T.f_bool boot_bool rfl) pa_nil)))) rfl) (dw_or1 (dt_cmp op_ne sp_ne (de_isi (T := .int) (pe_callB call_isi (by rfl) T.f_isinstance boot_isinstance (pa_cons (de_var 0) (pa_cons (pe_bltn (by rfl) T.f_int boot_int rfl) pa_nil)))) (de_isi (T := .int) (pe_callB call_isi (by rfl) T.f_isinstance boot_isinstance (pa_cons (de_var 1) (pa_cons (pe_bltn (by rfl) T.f_int boot_int rfl) pa_nil)))) rfl))))
    (ds_one (ds_ret de_bl rfl rfl))
    ds_nil rfl)
    (ds_one (ds_ret (de_and (de_cmp op_eq sp_eq (de_isi (T := .str) (pe_callB call_isi (by rfl) T.f_isinstance boot_isinstance (pa_cons (de_var 0) (pa_cons (pe_bltn (by rfl) T.f_str boot_str rfl) pa_nil)))) (de_isi (T := .str) (pe_callB call_isi (by rfl) T.f_isinstance boot_isinstance (pa_cons (de_var 1) (pa_cons (pe_bltn (by rfl) T.f_str boot_str rfl) pa_nil)))) rfl) (de_one (de_cmp op_eq sp_eq (de_var 0) (de_var 1) rfl))) rfl rfl))))))
def N_Manor_state : List Str := ["self"]
theorem sc_Manor_state : FnScope N_Manor_state ["self"] (defScope (inC (top 92) 4)) := ⟨rfl, rfl, rfl, by decide +kernel, rfl, by decide +kernel, by decide +kernel⟩
theorem c_Manor_state (T : Top K mg cl) : CalM P w K mg base (cl 0) "state" 1 (spD K cl 2 d_Manor_state) :=
  calm_of (Δ' := [0]) T.d_Manor_state sc_Manor_state (fun _ _ _ _ _ _ us hl => match us, hl with | [_], _ => rfl) (fun f cdv A outer s H E hr =>
    (ds_one (ds_ret (de_tup (da_cons (dcb sp_list (pe_callTy call_list_of (by rfl) T.f_list boot_list (da_cons (de_fld (de_var 0) T.cls T.na_folk) da_nil))) (da_cons (dcb sp_dict (pe_callTy sp_dict' (by rfl) T.f_dict boot_dict (da_cons (de_fld (de_var 0) T.cls T.na_lets) da_nil))) (da_cons (dcb sp_dict (pe_callTy sp_dict' (by rfl) T.f_dict boot_dict (da_cons (de_fld (de_var 0) T.cls T.na_stands) da_nil))) (da_cons (de_up (de_fld (de_var 0) T.cls T.na_fresh)) da_nil))))) rfl rfl)))
def N_Manor_note : List Str := ["self", "deed"]
theorem sc_Manor_note : FnScope N_Manor_note ["self", "deed"] (defScope (inC (top 92) 6)) := ⟨rfl, rfl, rfl, by decide +kernel, rfl, by decide +kernel, by decide +kernel⟩
theorem c_Manor_note (T : Top K mg cl) : CalM P w K mg base (cl 0) "note" 2 (spM K cl 0 [2, 0] d_Manor_note) :=
  calm_ofM (ms := [2, 0]) (Δ' := [2, 0]) T.d_Manor_note sc_Manor_note rfl rfl (fun _ _ _ _ _ _ us hl => match us, hl with | [_, _], _ => rfl) (fun f cdv A outer s H E hr =>
    (ds_cons (Δ1 := [2, 0])
    (ds_exprX (dx_append (dp_fld (dp_var 0) ⟨1, rfl⟩ T.cls T.na_behind) (DG.zero (dg_i (r := 3) (de_tup (da_cons (de_up (de_var 1)) (da_cons (de_meth0 (c_Manor_state T) T.cls (hr.mono (by decide)) tkD (de_var 0)) da_nil)))))))
    (ds_one (ds_fld (dp_var 0) (dg_m (de_lst da_nil)) T.cls T.na_ahead))))
def N_is_day : List Str := ["day"]
theorem sc_is_day : FnScope N_is_day ["day"] (defScope (top 26)) := ⟨rfl, rfl, rfl, by decide +kernel, rfl, by decide +kernel, by decide +kernel⟩
theorem c_is_day (T : Top K mg cl) : Cal P w K mg base "is_day" 1 (spD K cl 0 d_is_day) :=
  cal_of (Δ' := [0]) T.d_is_day sc_is_day (fun _ _ _ _ _ _ us hl => match us, hl with | [_], _ => rfl) (fun f cdv A outer s H E hr =>
    (ds_one (ds_ret (de_chain op_le sp_cmp op_le sp_cmp de_int (de_var 0) (de_gintE rfl T.x_LAST_DAY)) rfl rfl)))
def N_need_holding : List Str := ["lets", "name"]
theorem sc_need_holding : FnScope N_need_holding ["lets", "name"] (defScope (top 68)) := ⟨rfl, rfl, rfl, by decide +kernel, rfl, by decide +kernel, by decide +kernel⟩
theorem c_need_holding (T : Top K mg cl) : Cal P w K mg base "need_holding" 1 (spD K cl 0 d_need_holding) :=
  cal_of (Δ' := [0, 0]) T.d_need_holding sc_need_holding (fun _ _ _ _ _ _ us hl => match us, hl with | [_, _], _ => rfl) (fun f cdv A outer s H E hr =>
    (ds_cons (Δ1 := [0, 0])
    (ds_if (dt_cmp (op_notInA (hu1 hr)) sp_inA (de_var 1) (de_var 0) rfl)
    (ds_one (ds_raiseL T.e_NoHolding (by rfl) (L2N.takes_of rfl rfl rfl rfl)))
    ds_nil rfl)
    (ds_one (ds_ret (de_ix (ix_all (hu1 hr)) sp_ixA (de_var 0) (de_var 1)) rfl rfl))))
def N_need_open : List Str := ["end"]
theorem sc_need_open : FnScope N_need_open ["end"] (defScope (top 69)) := ⟨rfl, rfl, rfl, by decide +kernel, rfl, by decide +kernel, by decide +kernel⟩
theorem c_need_open (T : Top K mg cl) : Cal P w K mg base "need_open" 1 (spD K cl 0 d_need_open) :=
  cal_of (Δ' := [0]) T.d_need_open sc_need_open (fun _ _ _ _ _ _ us hl => match us, hl with | [_], _ => rfl) (fun f cdv A outer s H E hr =>
    (ds_one (ds_if (dt_cmp op_isnt' sp_isnt (de_var 0) de_non rfl)
    (ds_one (ds_raiseV T.e_GivenUp (by rfl) (L2N.takes_of rfl rfl rfl rfl)))
    ds_nil rfl)))
def N_Manor_give_up : List Str := ["self", "holding", "day", "row", "start", "end"]
theorem sc_Manor_give_up : FnScope N_Manor_give_up ["self", "holding", "day"] (defScope (inC (top 92) 11)) := ⟨rfl, rfl, rfl, by decide +kernel, rfl, by decide +kernel, by decide +kernel⟩
theorem c_Manor_give_up (T : Top K mg cl) : CalM P w K mg base (cl 0) "give_up" 3 (spM K cl 0 [2, 0, 0] d_Manor_give_up) :=
  calm_ofM (ms := [2, 0, 0]) (Δ' := [2, 0, 0, 0, 0, 0]) T.d_Manor_give_up sc_Manor_give_up rfl rfl (fun _ _ _ _ _ _ us hl => match us, hl with | [_, _, _], _ => rfl) (fun f cdv A outer s H E hr =>
    (ds_cons (Δ1 := [2, 0, 0, 0, 0, 0])
    (ds_unpX (sux (dx_i (r := 0) (de_call (c_need_holding T) (hr.mono (by decide)) (by rfl) tkD (da_cons (de_fld (de_var 0) T.cls T.na_lets) (da_cons (de_var 1) da_nil)))) (pg_tp rfl (dgs_nm 3 sc_Manor_give_up.nd (dgs_nm 4 sc_Manor_give_up.nd (dgs_nm 5 sc_Manor_give_up.nd dgs_nil))))))
    (ds_cons (Δ1 := [2, 0, 0, 0, 0, 0])
    (ds_if (dt_w (dw_or (dt_not (dt_val (de_call (c_is_day T) (hr.mono (by decide)) (by rfl) tkD (da_cons (de_var 2) da_nil)))) (dw_or1 (dt_cmp op_le sp_cmp (de_var 2) (de_var 4) rfl))))
    (ds_one (ds_raiseV T.e_BadDay (by rfl) (L2N.takes_of rfl rfl rfl rfl)))
    ds_nil rfl)
    (ds_cons (Δ1 := [2, 0, 0, 0, 0, 0])
    (ds_exprX (dx_m (de_call (c_need_open T) (hr.mono (by decide)) (by rfl) tkD (da_cons (de_var 5) da_nil))))
    (ds_cons (Δ1 := [2, 0, 0, 0, 0, 0])
    (ds_exprX (dx_meth (m := 1) (n := 1) (c_Manor_note T) T.cls (hr.mono (by decide)) tkD (dp_var 0) (dga_cons (dg_m (DE.zero (r := 1) (de_tup (da_cons de_str (da_cons (de_var 1) (da_cons (de_var 2) da_nil)))))) dga_nil) (la1 la0)))
    (ds_one (sput (dp_fld (dp_var 0) ⟨1, rfl⟩ T.cls T.na_lets) (dg_m (DE.zero (r := 1) (de_tup (da_cons (de_var 3) (da_cons (de_var 4) (da_cons (de_var 2) da_nil)))))) (dg_m (de_var 1)) (hu1 hr))))))))
def N_need_day : List Str := ["day"]
theorem sc_need_day : FnScope N_need_day ["day"] (defScope (top 27)) := ⟨rfl, rfl, rfl, by decide +kernel, rfl, by decide +kernel, by decide +kernel⟩
theorem c_need_day (T : Top K mg cl) : Cal P w K mg base "need_day" 2 (spD K cl 0 d_need_day) :=
  cal_of (Δ' := [0]) T.d_need_day sc_need_day (fun _ _ _ _ _ _ us hl => match us, hl with | [_], _ => rfl) (fun f cdv A outer s H E hr =>
    (ds_one (ds_if (dt_not (dt_val (de_call (c_is_day T) (hr.mono (by decide)) (by rfl) tkD (da_cons (de_var 0) da_nil))))
    (ds_one (ds_raiseV T.e_BadDay (by rfl) (L2N.takes_of rfl rfl rfl rfl)))
    ds_nil rfl)))
def N_need_life : List Str := ["folk", "name"]
theorem sc_need_life : FnScope N_need_life ["folk", "name"] (defScope (top 66)) := ⟨rfl, rfl, rfl, by decide +kernel, rfl, by decide +kernel, by decide +kernel⟩
theorem c_need_life (T : Top K mg cl) : Cal P w K mg base "need_life" 1 (spD K cl 0 d_need_life) :=
  cal_of (Δ' := [0, 0]) T.d_need_life sc_need_life (fun _ _ _ _ _ _ us hl => match us, hl with | [_, _], _ => rfl) (fun f cdv A outer s H E hr =>
    (ds_cons (Δ1 := [0, 0])
    (ds_if (dt_cmp (op_notInA (hu1 hr)) sp_inA (de_var 1) (de_var 0) rfl)
    (ds_one (ds_raiseL T.e_NoLife (by rfl) (L2N.takes_of rfl rfl rfl rfl)))
    ds_nil rfl)
    (ds_one (ds_ret (de_mth (fun _ _ _ _ => ty_lst) sp_index (pe_bm PySem.F.plainAttrs_list PySem.F.slot_list_index PySem.F.type_list_index mt_index (de_var 0) (da_cons (de_var 1) da_nil))) rfl rfl))))
def N_need_lives : List Str := ["folk", "row", "name"]
theorem sc_need_lives : FnScope N_need_lives ["folk", "row"] (defScope (top 67)) := ⟨rfl, rfl, rfl, by decide +kernel, rfl, by decide +kernel, by decide +kernel⟩
theorem c_need_lives (T : Top K mg cl) : Cal P w K mg base "need_lives" 2 (spD K cl 0 d_need_lives) :=
  cal_of (Δ' := [0, 0, 0]) T.d_need_lives sc_need_lives (fun _ _ _ _ _ _ us hl => match us, hl with | [_, _], _ => rfl) (fun f cdv A outer s H E hr =>
    (ds_cons (Δ1 := [0, 0, 0])
    (ds_if (dt_w (dw_or (dt_not (dt_chain op_le sp_cmp op_le sp_cmp de_int (dcb sp_lenA (pe_callB call_lenA (by rfl) T.f_len boot_len (da_cons (de_var 1) da_nil))) (de_gintE rfl T.x_MOST_IN_ROW))) (dw_or1 (dt_cmp op_lt sp_cmp (de_lenset (by rfl) T.f_len (by rfl) T.f_set (de_var 1)) (dcb sp_lenA (pe_callB call_lenA (by rfl) T.f_len boot_len (da_cons (de_var 1) da_nil))) rfl))))
    (ds_one (ds_raiseV T.e_BadRow (by rfl) (L2N.takes_of rfl rfl rfl rfl)))
    ds_nil rfl)
    (ds_one (fz [0, 0, 0] (sfor psD (di_any (de_var 1)) (dg_nm 2 sc_need_lives.nd) (ds_one (ds_exprX (dx_z (de_call (c_need_life T) (hr.mono (by decide)) (by rfl) tkD (da_cons (de_var 0) (da_cons (de_var 2) da_nil)))))))))))
def N_need_name : List Str := ["name", "known", "sign"]
theorem sc_need_name : FnScope N_need_name ["name", "known"] (defScope (top 64)) := ⟨rfl, rfl, rfl, by decide +kernel, rfl, by decide +kernel, by decide +kernel⟩
theorem c_need_name (T : Top K mg cl) : Cal P w K mg base "need_name" 1 (spD K cl 0 d_need_name) :=
  cal_of (Δ' := [0, 0, 0]) T.d_need_name sc_need_name (fun _ _ _ _ _ _ us hl => match us, hl with | [_, _], _ => rfl) (fun f cdv A outer s H E hr =>
    (ds_cons (Δ1 := [0, 0, 0])
    (ds_if (dt_w (dw_or (dt_not (dt_chain op_le sp_cmp op_le sp_cmp de_int (dcb sp_lenA (pe_callB call_lenA (by rfl) T.f_len boot_len (da_cons (de_var 0) da_nil))) (de_gintE rfl T.x_LONGEST))) (dw_or1 (dt_not (dt_val (dcb sp_all (pe_callB (cr_all rfl) (by rfl) T.f_all boot_all (da_cons (DE.zero (r := 1) (de_lc (own := [("sign", 2)]) rfl sc_need_name.nd (di_any (de_var 0)) (blkOk_by (N := N_need_name) (sc := (defScope (top 64))) (by decide +kernel)) (fun _ _ _ _ _ => (dg_nm 2 sc_need_name.nd)) (fun _ _ _ _ _ => dts_nil) (fun _ _ _ _ _ => (de_cmp (op_inA (hu1 hr)) sp_inA (de_var 2) (de_gstrE rfl T.x_LETTERS) rfl)) (by decide))) da_nil))))))))
    (ds_one (ds_raiseV T.e_BadName (by rfl) (L2N.takes_of rfl rfl rfl rfl)))
    ds_nil rfl)
    (ds_one (ds_if (dt_cmp (op_inA (hu1 hr)) sp_inA (de_var 0) (de_var 1) rfl)
    (ds_one (ds_raiseV T.e_Taken (by rfl) (L2N.takes_of rfl rfl rfl rfl)))
    ds_nil rfl))))
def N_need_room : List Str := ["things", "most"]
theorem sc_need_room : FnScope N_need_room ["things", "most"] (defScope (top 65)) := ⟨rfl, rfl, rfl, by decide +kernel, rfl, by decide +kernel, by decide +kernel⟩
theorem c_need_room (T : Top K mg cl) : Cal P w K mg base "need_room" 1 (spD K cl 0 d_need_room) :=
  cal_of (Δ' := [0, 0]) T.d_need_room sc_need_room (fun _ _ _ _ _ _ us hl => match us, hl with | [_, _], _ => rfl) (fun f cdv A outer s H E hr =>
    (ds_one (ds_if (dt_cmp op_ge sp_cmp (dcb sp_lenA (pe_callB call_lenA (by rfl) T.f_len boot_len (da_cons (de_var 0) da_nil))) (de_var 1) rfl)
    (ds_one (ds_raiseV T.e_Full (by rfl) (L2N.takes_of rfl rfl rfl rfl)))
    ds_nil rfl)))
def N_room_for_holding : List Str := ["lets"]
theorem sc_room_for_holding : FnScope N_room_for_holding ["lets"] (defScope (top 73)) := ⟨rfl, rfl, rfl, by decide +kernel, rfl, by decide +kernel, by decide +kernel⟩
theorem c_room_for_holding (T : Top K mg cl) : Cal P w K mg base "room_for_holding" 2 (spD K cl 0 d_room_for_holding) :=
  cal_of (Δ' := [0]) T.d_room_for_holding sc_room_for_holding (fun _ _ _ _ _ _ us hl => match us, hl with | [_], _ => rfl) (fun f cdv A outer s H E hr =>
    (ds_one (ds_exprX (dx_z (de_call (c_need_room T) (hr.mono (by decide)) (by rfl) tkD (da_cons (de_var 0) (da_cons (de_gintE rfl T.x_MOST_HOLDINGS) da_nil)))))))
def N_Manor_let : List Str := ["self", "name", "row", "day"]
theorem sc_Manor_let : FnScope N_Manor_let ["self", "name", "row", "day"] (defScope (inC (top 92) 8)) := ⟨rfl, rfl, rfl, by decide +kernel, rfl, by decide +kernel, by decide +kernel⟩
theorem c_Manor_let (T : Top K mg cl) : CalM P w K mg base (cl 0) "let" 3 (spM K cl 0 [2, 0, 0, 0] d_Manor_let) :=
  calm_ofM (ms := [2, 0, 0, 0]) (Δ' := [2, 0, 0, 0]) T.d_Manor_let sc_Manor_let rfl rfl (fun _ _ _ _ _ _ us hl => match us, hl with | [_, _, _, _], _ => rfl) (fun f cdv A outer s H E hr =>
    (ds_cons (Δ1 := [2, 0, 0, 0])
    (ds_exprX (dx_i (r := 0) (de_call (c_need_name T) (hr.mono (by decide)) (by rfl) tkD (da_cons (de_var 1) (da_cons (de_fld (de_var 0) T.cls T.na_lets) da_nil)))))
    (ds_cons (Δ1 := [2, 0, 0, 0])
    (ds_exprX (dx_i (r := 0) (de_call (c_need_lives T) (hr.mono (by decide)) (by rfl) tkD (da_cons (de_fld (de_var 0) T.cls T.na_folk) (da_cons (de_var 2) da_nil)))))
    (ds_cons (Δ1 := [2, 0, 0, 0])
    (ds_exprX (dx_m (de_call (c_need_day T) (hr.mono (by decide)) (by rfl) tkD (da_cons (de_var 3) da_nil))))
    (ds_cons (Δ1 := [2, 0, 0, 0])
    (ds_exprX (dx_i (r := 0) (de_call (c_room_for_holding T) (hr.mono (by decide)) (by rfl) tkD (da_cons (de_fld (de_var 0) T.cls T.na_lets) da_nil))))
    (ds_cons (Δ1 := [2, 0, 0, 0])
    (ds_exprX (dx_meth (m := 1) (n := 1) (c_Manor_note T) T.cls (hr.mono (by decide)) tkD (dp_var 0) (dga_cons (dg_m (DE.zero (r := 1) (de_tup (da_cons de_str (da_cons (de_var 1) (da_cons (DE.zero (r := 1) (dcb sp_tuple (pe_callTy call_tuple_of (by rfl) T.f_tuple boot_tuple (da_cons (de_var 2) da_nil)))) (da_cons (de_var 3) da_nil))))))) dga_nil) (la1 la0)))
    (ds_one (sput (dp_fld (dp_var 0) ⟨1, rfl⟩ T.cls T.na_lets) (dg_m (DE.zero (r := 1) (de_tup (da_cons (DE.zero (r := 1) (dcb sp_tuple (pe_callTy call_tuple_of (by rfl) T.f_tuple boot_tuple (da_cons (de_var 2) da_nil)))) (da_cons (de_var 3) (da_cons de_non da_nil)))))) (dg_m (de_var 1)) (hu1 hr)))))))))
def N_room_for_life : List Str := ["folk"]
theorem sc_room_for_life : FnScope N_room_for_life ["folk"] (defScope (top 72)) := ⟨rfl, rfl, rfl, by decide +kernel, rfl, by decide +kernel, by decide +kernel⟩
theorem c_room_for_life (T : Top K mg cl) : Cal P w K mg base "room_for_life" 2 (spD K cl 0 d_room_for_life) :=
  cal_of (Δ' := [0]) T.d_room_for_life sc_room_for_life (fun _ _ _ _ _ _ us hl => match us, hl with | [_], _ => rfl) (fun f cdv A outer s H E hr =>
    (ds_one (ds_exprX (dx_z (de_call (c_need_room T) (hr.mono (by decide)) (by rfl) tkD (da_cons (de_var 0) (da_cons (de_gintE rfl T.x_MOST_LIVES) da_nil)))))))
def N_Manor_life : List Str := ["self", "name"]
theorem sc_Manor_life : FnScope N_Manor_life ["self", "name"] (defScope (inC (top 92) 7)) := ⟨rfl, rfl, rfl, by decide +kernel, rfl, by decide +kernel, by decide +kernel⟩
theorem c_Manor_life (T : Top K mg cl) : CalM P w K mg base (cl 0) "life" 3 (spM K cl 0 [2, 0] d_Manor_life) :=
  calm_ofM (ms := [2, 0]) (Δ' := [2, 0]) T.d_Manor_life sc_Manor_life rfl rfl (fun _ _ _ _ _ _ us hl => match us, hl with | [_, _], _ => rfl) (fun f cdv A outer s H E hr =>
    (ds_cons (Δ1 := [2, 0])
    (ds_exprX (dx_i (r := 0) (de_call (c_need_name T) (hr.mono (by decide)) (by rfl) tkD (da_cons (de_var 1) (da_cons (de_fld (de_var 0) T.cls T.na_folk) da_nil)))))
    (ds_cons (Δ1 := [2, 0])
    (ds_exprX (dx_i (r := 0) (de_call (c_room_for_life T) (hr.mono (by decide)) (by rfl) tkD (da_cons (de_fld (de_var 0) T.cls T.na_folk) da_nil))))
    (ds_cons (Δ1 := [2, 0])
    (ds_exprX (dx_meth (m := 1) (n := 1) (c_Manor_note T) T.cls (hr.mono (by decide)) tkD (dp_var 0) (dga_cons (dg_m (DE.zero (r := 1) (de_tup (da_cons de_str (da_cons (de_var 1) da_nil))))) dga_nil) (la1 la0)))
    (ds_one (ds_exprX (dx_append (dp_fld (dp_var 0) ⟨1, rfl⟩ T.cls T.na_folk) (dg_m (de_var 1)))))))))
def N_need_unlike : List Str := ["row", "name"]
theorem sc_need_unlike : FnScope N_need_unlike ["row", "name"] (defScope (top 70)) := ⟨rfl, rfl, rfl, by decide +kernel, rfl, by decide +kernel, by decide +kernel⟩
theorem c_need_unlike (T : Top K mg cl) : Cal P w K mg base "need_unlike" 1 (spD K cl 0 d_need_unlike) :=
  cal_of (Δ' := [0, 0]) T.d_need_unlike sc_need_unlike (fun _ _ _ _ _ _ us hl => match us, hl with | [_, _], _ => rfl) (fun f cdv A outer s H E hr =>
    (ds_one (ds_if (dt_cmp (op_inA (hu1 hr)) sp_inA (de_var 1) (de_var 0) rfl)
    (ds_one (ds_raiseV T.e_Twice (by rfl) (L2N.takes_of rfl rfl rfl rfl)))
    ds_nil rfl)))
def N_room_in_row : List Str := ["row"]
theorem sc_room_in_row : FnScope N_room_in_row ["row"] (defScope (top 75)) := ⟨rfl, rfl, rfl, by decide +kernel, rfl, by decide +kernel, by decide +kernel⟩
theorem c_room_in_row (T : Top K mg cl) : Cal P w K mg base "room_in_row" 2 (spD K cl 0 d_room_in_row) :=
  cal_of (Δ' := [0]) T.d_room_in_row sc_room_in_row (fun _ _ _ _ _ _ us hl => match us, hl with | [_], _ => rfl) (fun f cdv A outer s H E hr =>
    (ds_one (ds_exprX (dx_z (de_call (c_need_room T) (hr.mono (by decide)) (by rfl) tkD (da_cons (de_var 0) (da_cons (de_gintE rfl T.x_MOST_IN_ROW) da_nil)))))))
def N_Manor_put_in : List Str := ["self", "holding", "life", "row", "start", "end"]
theorem sc_Manor_put_in : FnScope N_Manor_put_in ["self", "holding", "life"] (defScope (inC (top 92) 9)) := ⟨rfl, rfl, rfl, by decide +kernel, rfl, by decide +kernel, by decide +kernel⟩
theorem c_Manor_put_in (T : Top K mg cl) : CalM P w K mg base (cl 0) "put_in" 3 (spM K cl 0 [2, 0, 0] d_Manor_put_in) :=
  calm_ofM (ms := [2, 0, 0]) (Δ' := [2, 0, 0, 0, 0, 0]) T.d_Manor_put_in sc_Manor_put_in rfl rfl (fun _ _ _ _ _ _ us hl => match us, hl with | [_, _, _], _ => rfl) (fun f cdv A outer s H E hr =>
    (ds_cons (Δ1 := [2, 0, 0, 0, 0, 0])
    (ds_unpX (sux (dx_i (r := 0) (de_call (c_need_holding T) (hr.mono (by decide)) (by rfl) tkD (da_cons (de_fld (de_var 0) T.cls T.na_lets) (da_cons (de_var 1) da_nil)))) (pg_tp rfl (dgs_nm 3 sc_Manor_put_in.nd (dgs_nm 4 sc_Manor_put_in.nd (dgs_nm 5 sc_Manor_put_in.nd dgs_nil))))))
    (ds_cons (Δ1 := [2, 0, 0, 0, 0, 0])
    (ds_exprX (dx_i (r := 0) (de_call (c_need_life T) (hr.mono (by decide)) (by rfl) tkD (da_cons (de_fld (de_var 0) T.cls T.na_folk) (da_cons (de_var 2) da_nil)))))
    (ds_cons (Δ1 := [2, 0, 0, 0, 0, 0])
    (ds_exprX (dx_m (de_call (c_need_open T) (hr.mono (by decide)) (by rfl) tkD (da_cons (de_var 5) da_nil))))
    (ds_cons (Δ1 := [2, 0, 0, 0, 0, 0])
    (ds_exprX (dx_m (de_call (c_need_unlike T) (hr.mono (by decide)) (by rfl) tkD (da_cons (de_var 3) (da_cons (de_var 2) da_nil)))))
    (ds_cons (Δ1 := [2, 0, 0, 0, 0, 0])
    (ds_exprX (dx_m (de_call (c_room_in_row T) (hr.mono (by decide)) (by rfl) tkD (da_cons (de_var 3) da_nil))))
    (ds_cons (Δ1 := [2, 0, 0, 0, 0, 0])
    (ds_exprX (dx_meth (m := 1) (n := 1) (c_Manor_note T) T.cls (hr.mono (by decide)) tkD (dp_var 0) (dga_cons (dg_m (DE.zero (r := 1) (de_tup (da_cons de_str (da_cons (de_var 1) (da_cons (de_var 2) da_nil)))))) dga_nil) (la1 la0)))
    (ds_one (sput (dp_fld (dp_var 0) ⟨1, rfl⟩ T.cls T.na_lets) (dg_m (DE.zero (r := 1) (de_tup (da_cons (DE.zero (r := 1) (de_op op_addAll sp_add (de_var 3) (DE.zero (r := 1) (de_tup (da_cons (de_var 2) da_nil))))) (da_cons (de_var 4) (da_cons (de_var 5) da_nil)))))) (dg_m (de_var 1)) (hu1 hr))))))))))
def N_Manor_do : List Str := ["self", "deed", "word"]
theorem sc_Manor_do : FnScope N_Manor_do ["self", "deed"] (defScope (inC (top 92) 18)) := ⟨rfl, rfl, rfl, by decide +kernel, rfl, by decide +kernel, by decide +kernel⟩
theorem c_Manor_do (T : Top K mg cl) : CalM P w K mg base (cl 0) "do" 4 (spM K cl 0 [2, 0] d_Manor_do) :=
  calm_ofM (ms := [2, 0]) (Δ' := [2, 0, 0]) T.d_Manor_do sc_Manor_do rfl rfl (fun _ _ _ _ _ _ us hl => match us, hl with | [_, _], _ => rfl) (fun f cdv A outer s H E hr =>
    (ds_cons (Δ1 := [2, 0, 0])
    (dm (sa (i := 2) sc_Manor_do.nd (de_ix (ix_all (hu1 hr)) sp_ixA (de_var 1) de_int)))
    (ds_cons (Δ1 := [2, 0, 0])
    (ds_if (dt_cmp op_eq sp_eq (de_var 2) de_str rfl)
    (ds_one (ds_retX (dx_meth (m := 1) (n := 1) (c_Manor_life T) T.cls (hr.mono (by decide)) tkD (dp_var 0) (dga_cons (dg_m (de_ix (ix_all (hu1 hr)) sp_ixA (de_var 1) de_int)) dga_nil) (la1 la0))))
    ds_nil rfl)
    (ds_cons (Δ1 := [2, 0, 0])
    (ds_if (dt_cmp op_eq sp_eq (de_var 2) de_str rfl)
    (ds_one (ds_retX (dx_meth (m := 1) (n := 3) (c_Manor_let T) T.cls (hr.mono (by decide)) tkD (dp_var 0) (dga_cons (dg_m (de_ix (ix_all (hu1 hr)) sp_ixA (de_var 1) de_int)) (dga_cons (dg_m (DE.zero (r := 1) (dcb sp_list (pe_callTy call_list_of (by rfl) T.f_list boot_list (da_cons (de_ix (ix_all (hu1 hr)) sp_ixA (de_var 1) de_int) da_nil))))) (dga_cons (dg_m (de_ix (ix_all (hu1 hr)) sp_ixA (de_var 1) de_int)) dga_nil))) (la1 (la1 (la1 la0))))))
    ds_nil rfl)
    (ds_cons (Δ1 := [2, 0, 0])
    (ds_if (dt_cmp op_eq sp_eq (de_var 2) de_str rfl)
    (ds_one (ds_retX (dx_meth (m := 1) (n := 2) (c_Manor_put_in T) T.cls (hr.mono (by decide)) tkD (dp_var 0) (dga_cons (dg_m (de_ix (ix_all (hu1 hr)) sp_ixA (de_var 1) de_int)) (dga_cons (dg_m (de_ix (ix_all (hu1 hr)) sp_ixA (de_var 1) de_int)) dga_nil)) (la1 (la1 la0)))))
    ds_nil rfl)
    (ds_cons (Δ1 := [2, 0, 0])
    (ds_if (dt_cmp op_eq sp_eq (de_var 2) de_str rfl)
    (ds_one ds_bad)
    ds_nil rfl)
    (ds_cons (Δ1 := [2, 0, 0])
    (ds_if (dt_cmp op_eq sp_eq (de_var 2) de_str rfl)
    (ds_one (ds_retX (dx_meth (m := 1) (n := 2) (c_Manor_give_up T) T.cls (hr.mono (by decide)) tkD (dp_var 0) (dga_cons (dg_m (de_ix (ix_all (hu1 hr)) sp_ixA (de_var 1) de_int)) (dga_cons (dg_m (de_ix (ix_all (hu1 hr)) sp_ixA (de_var 1) de_int)) dga_nil)) (la1 (la1 la0)))))
    ds_nil rfl)
    (ds_cons (Δ1 := [2, 0, 0])
    (ds_if (dt_cmp op_eq sp_eq (de_var 2) de_str rfl)
    (ds_one ds_bad)
    ds_nil rfl)
    (ds_cons (Δ1 := [2, 0, 0])
    (ds_if (dt_cmp op_eq sp_eq (de_var 2) de_str rfl)
    (ds_one ds_bad)
    ds_nil rfl)
    (ds_one ds_bad))))))))))
def N__law_by : List Str := ["_law_manor", "_law_deed", "_law_word"]
theorem sc__law_by : FnScope N__law_by ["_law_manor", "_law_deed"] (defScope (top 113)) := ⟨rfl, rfl, rfl, by decide +kernel, rfl, by decide +kernel, by decide +kernel⟩
theorem c__law_by (T : Top K mg cl) : Cal P w K mg base "_law_by" 5 (spM K cl 0 [2, 0] d__law_by) :=
  cal_ofM (ms := [2, 0]) (Δ' := [2, 0, 0]) T.d__law_by sc__law_by rfl rfl (fun _ _ _ _ _ _ us hl => match us, hl with | [_, _], _ => rfl) (fun f cdv A outer s H E hr =>
    (ds_cons (Δ1 := [2, 0, 0])
    (dm (sa (i := 2) sc__law_by.nd (de_ix (ix_all (hu1 hr)) sp_ixA (de_var 1) de_int)))
    (ds_coin (rest' := []) (f := (varE 1)) (by exact pt_coin (W := W0) (f := (varE 1)) (by exact hu64 hr) (by exact T.f_len) (by exact T.f_str) (by exact (de_var 1)))
    (ds_one (ds_retX (dx_meth (m := 1) (n := 1) (c_Manor_do T) T.cls (hr.mono (by decide)) tkD (dp_var 0) (dga_cons (dg_m (de_var 1)) dga_nil) (la1 la0))))
    (ds_cons (Δ1 := [2, 0, 0])
    (ds_if (dt_cmp op_eq sp_eq (de_var 2) de_str rfl)
    (ds_one (ds_retX (dx_meth (m := 1) (n := 1) (c_Manor_life T) T.cls (hr.mono (by decide)) tkD (dp_var 0) (dga_cons (dg_m (de_ix (ix_all (hu1 hr)) sp_ixA (de_var 1) de_int)) dga_nil) (la1 la0))))
    ds_nil rfl)
    (ds_cons (Δ1 := [2, 0, 0])
    (ds_if (dt_cmp op_eq sp_eq (de_var 2) de_str rfl)
    (ds_one (ds_retX (dx_meth (m := 1) (n := 3) (c_Manor_let T) T.cls (hr.mono (by decide)) tkD (dp_var 0) (dga_cons (dg_m (de_ix (ix_all (hu1 hr)) sp_ixA (de_var 1) de_int)) (dga_cons (dg_m (DE.zero (r := 1) (dcb sp_list (pe_callTy call_list_of (by rfl) T.f_list boot_list (da_cons (de_ix (ix_all (hu1 hr)) sp_ixA (de_var 1) de_int) da_nil))))) (dga_cons (dg_m (de_ix (ix_all (hu1 hr)) sp_ixA (de_var 1) de_int)) dga_nil))) (la1 (la1 (la1 la0))))))
    ds_nil rfl)
    (ds_cons (Δ1 := [2, 0, 0])
    (ds_if (dt_cmp op_eq sp_eq (de_var 2) de_str rfl)
    (ds_one (ds_retX (dx_meth (m := 1) (n := 2) (c_Manor_put_in T) T.cls (hr.mono (by decide)) tkD (dp_var 0) (dga_cons (dg_m (de_ix (ix_all (hu1 hr)) sp_ixA (de_var 1) de_int)) (dga_cons (dg_m (de_ix (ix_all (hu1 hr)) sp_ixA (de_var 1) de_int)) dga_nil)) (la1 (la1 la0)))))
    ds_nil rfl)
    (ds_cons (Δ1 := [2, 0, 0])
    (ds_if (dt_cmp op_eq sp_eq (de_var 2) de_str rfl)
    (ds_one ds_bad)
    ds_nil rfl)
    (ds_cons (Δ1 := [2, 0, 0])
    (ds_if (dt_cmp op_eq sp_eq (de_var 2) de_str rfl)
    (ds_one (ds_retX (dx_meth (m := 1) (n := 2) (c_Manor_give_up T) T.cls (hr.mono (by decide)) tkD (dp_var 0) (dga_cons (dg_m (de_ix (ix_all (hu1 hr)) sp_ixA (de_var 1) de_int)) (dga_cons (dg_m (de_ix (ix_all (hu1 hr)) sp_ixA (de_var 1) de_int)) dga_nil)) (la1 (la1 la0)))))
    ds_nil rfl)
    (ds_cons (Δ1 := [2, 0, 0])
    (ds_if (dt_cmp op_eq sp_eq (de_var 2) de_str rfl)
    (ds_one ds_bad)
    ds_nil rfl)
    (ds_one ds_bad))))))))))
def N__law_kin : List Str := ["_law_e", "_law_found", "_law_words", "_law_word", "_law_kin_here"]
theorem sc__law_kin : FnScope N__law_kin ["_law_e"] (defScope (top 114)) := ⟨rfl, rfl, rfl, by decide +kernel, rfl, by decide +kernel, by decide +kernel⟩
theorem c_kin (T : Top K mg cl) : CalP P w K mg base "_law_kin" 1 (spP K cl 0 h_kin) :=
  calP_of (Δ' := [0, 0, 0, 0, 0]) T.d__law_kin sc__law_kin (by decide) (fun _ _ _ _ _ _ us hl => match us, hl with | [_], _ => rfl) (fun f cdv A outer s H E p c hot hdd hr ec => by
    by_cases hc : rsd.contains c = true
    · have e : b_kin c p.1 = b0_kin c p.1 := if_pos hc
      rw [e]
      exact (ds_cons (Δ1 := [0, 0, 0, 0, 0])
    (dz (sa (i := 1) sc__law_kin.nd (DE.zero (r := 1) (de_lst (da_cons (de_isP 0 (T.exc c hc) (List.mem_singleton.mpr rfl) ec ⟨_, hot.2.choose_spec.1⟩ hdd rfl T.f_isinstance (pe_glob (v := .ref (cl 3)) rfl T.g_BadDay rfl) (fun u h => h) (T.kit c hc 3 (by decide))) (da_cons (de_isP 0 (T.exc c hc) (List.mem_singleton.mpr rfl) ec ⟨_, hot.2.choose_spec.1⟩ hdd rfl T.f_isinstance (pe_glob (v := .ref (cl 4)) rfl T.g_BadCount rfl) (fun u h => h) (T.kit c hc 4 (by decide))) (da_cons (de_isP 0 (T.exc c hc) (List.mem_singleton.mpr rfl) ec ⟨_, hot.2.choose_spec.1⟩ hdd rfl T.f_isinstance (pe_glob (v := .ref (cl 5)) rfl T.g_BadTie rfl) (fun u h => h) (T.kit c hc 5 (by decide))) (da_cons (de_isP 0 (T.exc c hc) (List.mem_singleton.mpr rfl) ec ⟨_, hot.2.choose_spec.1⟩ hdd rfl T.f_isinstance (pe_glob (v := .ref (cl 6)) rfl T.g_CantBe rfl) (fun u h => h) (T.kit c hc 6 (by decide))) da_nil))))))))
    (ds_cons (Δ1 := [0, 0, 0, 0, 0])
    (dz (sa (i := 1) sc__law_kin.nd (DE.zero (r := 1) (de_op op_addAll sp_add (de_var 1) (DE.zero (r := 1) (de_lst (da_cons (de_isP 0 (T.exc c hc) (List.mem_singleton.mpr rfl) ec ⟨_, hot.2.choose_spec.1⟩ hdd rfl T.f_isinstance (pe_glob (v := .ref (cl 7)) rfl T.g_BadRow rfl) (fun u h => h) (T.kit c hc 7 (by decide))) (da_cons (de_isP 0 (T.exc c hc) (List.mem_singleton.mpr rfl) ec ⟨_, hot.2.choose_spec.1⟩ hdd rfl T.f_isinstance (pe_glob (v := .ref (cl 8)) rfl T.g_BadName rfl) (fun u h => h) (T.kit c hc 8 (by decide))) (da_cons (de_isP 0 (T.exc c hc) (List.mem_singleton.mpr rfl) ec ⟨_, hot.2.choose_spec.1⟩ hdd rfl T.f_isinstance (pe_glob (v := .ref (cl 9)) rfl T.g_Taken rfl) (fun u h => h) (T.kit c hc 9 (by decide))) (da_cons (de_isP 0 (T.exc c hc) (List.mem_singleton.mpr rfl) ec ⟨_, hot.2.choose_spec.1⟩ hdd rfl T.f_isinstance (pe_glob (v := .ref (cl 10)) rfl T.g_Full rfl) (fun u h => h) (T.kit c hc 10 (by decide))) da_nil))))))))))
    (ds_cons (Δ1 := [0, 0, 0, 0, 0])
    (dz (sa (i := 1) sc__law_kin.nd (DE.zero (r := 1) (de_op op_addAll sp_add (de_var 1) (DE.zero (r := 1) (de_lst (da_cons (de_isP 0 (T.exc c hc) (List.mem_singleton.mpr rfl) ec ⟨_, hot.2.choose_spec.1⟩ hdd rfl T.f_isinstance (pe_glob (v := .ref (cl 11)) rfl T.g_Twice rfl) (fun u h => h) (T.kit c hc 11 (by decide))) (da_cons (de_isP 0 (T.exc c hc) (List.mem_singleton.mpr rfl) ec ⟨_, hot.2.choose_spec.1⟩ hdd rfl T.f_isinstance (pe_glob (v := .ref (cl 12)) rfl T.g_GivenUp rfl) (fun u h => h) (T.kit c hc 12 (by decide))) (da_cons (de_isP 0 (T.exc c hc) (List.mem_singleton.mpr rfl) ec ⟨_, hot.2.choose_spec.1⟩ hdd rfl T.f_isinstance (pe_glob (v := .ref (cl 13)) rfl T.g_Held rfl) (fun u h => h) (T.kit c hc 13 (by decide))) (da_cons (de_isP 0 (T.exc c hc) (List.mem_singleton.mpr rfl) ec ⟨_, hot.2.choose_spec.1⟩ hdd rfl T.f_isinstance (pe_glob (v := .ref (cl 14)) rfl T.g_Idle rfl) (fun u h => h) (T.kit c hc 14 (by decide))) da_nil))))))))))
    (ds_cons (Δ1 := [0, 0, 0, 0, 0])
    (dz (sa (i := 1) sc__law_kin.nd (DE.zero (r := 1) (de_op op_addAll sp_add (de_var 1) (DE.zero (r := 1) (de_lst (da_cons (de_isP 0 (T.exc c hc) (List.mem_singleton.mpr rfl) ec ⟨_, hot.2.choose_spec.1⟩ hdd rfl T.f_isinstance (pe_glob (v := .ref (cl 15)) rfl T.g_Against rfl) (fun u h => h) (T.kit c hc 15 (by decide))) (da_cons (de_isP 0 (T.exc c hc) (List.mem_singleton.mpr rfl) ec ⟨_, hot.2.choose_spec.1⟩ hdd rfl T.f_isinstance (pe_glob (v := .ref (cl 16)) rfl T.g_BadText rfl) (fun u h => h) (T.kit c hc 16 (by decide))) (da_cons (de_isP 0 (T.exc c hc) (List.mem_singleton.mpr rfl) ec ⟨_, hot.2.choose_spec.1⟩ hdd rfl T.f_isinstance (pe_glob (v := .ref (cl 17)) rfl T.g_NoLife rfl) (fun u h => h) (T.kit c hc 17 (by decide))) da_nil)))))))))
    (ds_cons (Δ1 := [0, 0, 0, 0, 0])
    (dz (sa (i := 1) sc__law_kin.nd (DE.zero (r := 1) (de_op op_addAll sp_add (de_var 1) (DE.zero (r := 1) (de_lst (da_cons (de_isP 0 (T.exc c hc) (List.mem_singleton.mpr rfl) ec ⟨_, hot.2.choose_spec.1⟩ hdd rfl T.f_isinstance (pe_glob (v := .ref (cl 18)) rfl T.g_NoHolding rfl) (fun u h => h) (T.kit c hc 18 (by decide))) (da_cons (de_isP 0 (T.exc c hc) (List.mem_singleton.mpr rfl) ec ⟨_, hot.2.choose_spec.1⟩ hdd rfl T.f_isinstance (pe_glob (v := .ref (cl 19)) rfl T.g_NoPresentment rfl) (fun u h => h) (T.kit c hc 19 (by decide))) (da_cons (de_isP 0 (T.exc c hc) (List.mem_singleton.mpr rfl) ec ⟨_, hot.2.choose_spec.1⟩ hdd rfl T.f_isinstance (pe_glob (v := .ref (cl 20)) rfl T.g_NoPlace rfl) (fun u h => h) (T.kit c hc 20 (by decide))) da_nil)))))))))
    (ds_cons (Δ1 := [0, 0, 0, 0, 0])
    (dz (sa (i := 1) sc__law_kin.nd (DE.zero (r := 1) (de_op op_addAll sp_add (de_var 1) (DE.zero (r := 1) (de_lst (da_cons (de_isP 0 (T.exc c hc) (List.mem_singleton.mpr rfl) ec ⟨_, hot.2.choose_spec.1⟩ hdd rfl T.f_isinstance (pe_glob (v := .ref (cl 21)) rfl T.g_Nothing rfl) (fun u h => h) (T.kit c hc 21 (by decide))) (da_cons (de_and (de_not (de_isP 0 (T.exc c hc) (List.mem_singleton.mpr rfl) ec ⟨_, hot.2.choose_spec.1⟩ hdd rfl T.f_isinstance (pe_bltn (v := .ty "ValueError") (by rfl) T.f_ValueError bootVE rfl) (fun u h => h) (T.kit_ValueError c hc))) (de_one (de_not (de_isP 0 (T.exc c hc) (List.mem_singleton.mpr rfl) ec ⟨_, hot.2.choose_spec.1⟩ hdd rfl T.f_isinstance (pe_bltn (v := .ty "LookupError") (by rfl) T.f_LookupError bootLE rfl) (fun u h => h) (T.kit_LookupError c hc))))) da_nil))))))))
    (ds_cons (Δ1 := [0, 0, 0, 0, 0])
    (dz (sa (i := 2) sc__law_kin.nd (DE.zero (r := 1) (de_lst (da_cons de_str (da_cons de_str (da_cons de_str (da_cons de_str (da_cons de_str (da_cons de_str (da_cons de_str (da_cons de_str (da_cons de_str (da_cons de_str da_nil))))))))))))))
    (ds_cons (Δ1 := [0, 0, 0, 0, 0])
    (dz (sa (i := 2) sc__law_kin.nd (DE.zero (r := 1) (de_op op_addAll sp_add (de_var 2) (DE.zero (r := 1) (de_lst (da_cons de_str (da_cons de_str (da_cons de_str (da_cons de_str (da_cons de_str (da_cons de_str (da_cons de_str (da_cons de_str da_nil))))))))))))))
    (ds_cons (Δ1 := [0, 0, 0, 0, 0])
    (dz (sa (i := 2) sc__law_kin.nd (DE.zero (r := 1) (de_op op_addAll sp_add (de_var 2) (DE.zero (r := 1) (de_lst (da_cons de_str (da_cons de_str da_nil))))))))
    (ds_one (ds_ret (de_mth (fun _ _ _ _ => ty_str) sp_join (pe_bm PySem.F.plainAttrs_str PySem.F.slot_str_join PySem.F.type_str_join mt_join de_str (da_cons (DE.zero (r := 1) (de_lcY (own := [("_law_word", 3), ("_law_kin_here", 4)]) ⟨p, hot, List.mem_singleton.mpr rfl⟩ sc__law_kin.nd (di_zipY (by rfl) T.f_zip (da_cons (de_var 2) (da_cons (de_var 1) da_nil))) (blkOk_by (N := N__law_kin) (sc := (defScope (top 114))) (by decide +kernel)) (fun _ _ _ _ _ hB => (pg_tpH hB (dgs_nm 3 sc__law_kin.nd (dgs_nm 4 sc__law_kin.nd dgs_nil)))) (fun _ _ _ _ _ => (dts_one (dt_val (de_var 4)))) (fun _ _ _ _ _ => (de_var 3)) (by decide))) da_nil))) rfl rfl)))))))))))
    · have e : b_kin c p.1 = badS := if_neg hc
      rw [e]
      exact dss_bad)
def N__law_tried : List Str := ["_law_manor", "_law_deed", "_law_told", "_law_word", "_law_e"]
theorem sc__law_tried : FnScope N__law_tried ["_law_manor", "_law_deed"] (defScope (top 115)) := ⟨rfl, rfl, rfl, by decide +kernel, rfl, by decide +kernel, by decide +kernel⟩
theorem c__law_tried (T : Top K mg cl) : Cal P w K mg base "_law_tried" 6 (spM K cl 0 [2, 0] d__law_tried) :=
  cal_ofM (ms := [2, 0]) (Δ' := [2, 0, 0, 0, 0]) T.d__law_tried sc__law_tried rfl rfl (fun _ _ _ _ _ _ us hl => match us, hl with | [_, _], _ => rfl) (fun f cdv A outer s H E hr =>
    (ds_cons (Δ1 := [2, 0, 0, 0, 0])
    (dm (sa (i := 2) sc__law_tried.nd de_non))
    (ds_cons (Δ1 := [2, 0, 0, 0, 0])
    (dm (sa (i := 3) sc__law_tried.nd de_str))
    (ds_cons (Δ1 := [2, 0, 0, 0, 0])
    (ds_try (isub := isub) (Δt := [2, 0, 0, 0, 0]) T.sub rfl rfl (L2N.takes_of rfl rfl rfl rfl) (fun W2 pn2 xe2 tk _ =>
      (ds_one (ds_setX (te := fun _ _ _ => True) (n := 0) (sax (i := 2) sc__law_tried.nd (dx_call (m := 2) (n := 1) (c__law_by T) (hr.mono (by decide)) (by rfl) (tk_of tk) (dp_var 0) (dga_cons (dg_m (de_var 1)) dga_nil) (la1 la0))))))
      (DHs.named sc__law_tried.nd rfl rfl ⟨rfl, by decide, .inl T.g_HoldError⟩ rfl (show 4 < 5 from by decide) (su_kin (h := h_kin) (kin := kin) (c_kin T) (fun _ _ _ h => kin_ok h) (hr.mono (by decide)) 4 3 rfl rfl (by first | exact Or.inl rfl | exact Or.inr (Or.inl rfl)) sc__law_tried.nd rfl (by first | exact Or.inl rfl | exact Or.inr rfl) rfl)
      (DHs.named sc__law_tried.nd rfl rfl ⟨rfl, by decide, .inl T.g_Missing⟩ rfl (show 4 < 5 from by decide) (su_kin (h := h_kin) (kin := kin) (c_kin T) (fun _ _ _ h => kin_ok h) (hr.mono (by decide)) 4 3 rfl rfl (by first | exact Or.inl rfl | exact Or.inr (Or.inl rfl)) sc__law_tried.nd rfl (by first | exact Or.inl rfl | exact Or.inr rfl) rfl)
      DHs.nil)))
    (ds_one (ds_retX (dx_m (DE.zero (r := 1) (de_tup (da_cons (de_var 3) (da_cons (de_var 2) da_nil)))))))))))
def N__law_play : List Str := ["_law_manor", "_law_m", "_law_deed", "_law_word", "_law_due", "_law_found", "_law_told"]
theorem sc__law_play : FnScope N__law_play ["_law_manor", "_law_m", "_law_deed"] (defScope (top 119)) := ⟨rfl, rfl, rfl, by decide +kernel, rfl, by decide +kernel, by decide +kernel⟩
theorem c__law_play (T : Top K mg cl) : Cal P w K mg base "_law_play" 8 (spM K cl 0 [2, 0, 0] d__law_play) :=
  cal_ofM (ms := [2, 0, 0]) (Δ' := [2, 0, 0, 0, 0, 0, 0]) T.d__law_play sc__law_play rfl rfl (fun _ _ _ _ _ _ us hl => match us, hl with | [_, _, _], _ => rfl) (fun f cdv A outer s H E hr =>
    (ds_cons (Δ1 := [2, 0, 0, 0, 0, 0, 0])
    (dm (sa (i := 3) sc__law_play.nd (de_call (c__law_bad T) (hr.mono (by decide)) (by rfl) tkD (da_cons (de_var 1) (da_cons (de_var 2) da_nil)))))
    (ds_cons (Δ1 := [2, 0, 0, 0, 0, 0, 0])
    (ds_unpX (sux (dx_call (m := 2) (n := 1) (c__law_tried T) (hr.mono (by decide)) (by rfl) tkD (dp_var 0) (dga_cons (dg_m (de_var 2)) dga_nil) (la1 la0)) (pg_tp rfl (dgs_nm 5 sc__law_play.nd (dgs_nm 6 sc__law_play.nd dgs_nil)))))
    (ds_cons (Δ1 := [2, 0, 0, 0, 0, 0, 0])
    (ds_if (dt_cmp op_ne sp_ne (de_var 5) (de_var 3) rfl)
    (ds_one (ds_retX (dx_m de_non)))
    ds_nil rfl)
    (ds_cons (Δ1 := [2, 0, 0, 0, 0, 0, 0])
    (ds_if (dt_cmp op_ne sp_ne (de_var 3) de_str rfl)
    (ds_one (ds_retX (dx_m (de_var 1))))
    ds_nil rfl)
    (ds_cons (Δ1 := [2, 0, 0, 0, 0, 0, 0])
    (dm (sa (i := 4) sc__law_play.nd (de_if (dt_cmp op_eq sp_eq (de_ix (ix_all (hu1 hr)) sp_ixA (de_var 2) de_int) de_str rfl) (de_ix (ix_all (hu1 hr)) sp_ixA (de_var 1) de_str) de_non)))
    (ds_one (ds_retX (dx_m (de_if (dt_val (de_call (c__law_same T 6) (hr.mono (by decide)) (by rfl) tkD (da_cons (de_var 6) (da_cons (de_var 4) da_nil)))) (de_call (c__law_done T) (hr.mono (by decide)) (by rfl) tkD (da_cons (de_var 1) (da_cons (de_var 2) da_nil))) de_non))))))))))
def N__law_pool : List Str := ["_law_script", "_law_k", "_law_starts", "_law_letters", "_law_names", "_law_at", "_law_size", "_law_signs", "_law_place", "_law_name", "_law_mark"]
theorem sc__law_pool : FnScope N__law_pool ["_law_script", "_law_k"] (defScope (top 99)) := ⟨rfl, rfl, rfl, by decide +kernel, rfl, by decide +kernel, by decide +kernel⟩
theorem c__law_pool (T : Top K mg cl) : Cal P w K mg base "_law_pool" 4 (spD K cl 0 d__law_pool) :=
  cal_of (Δ' := [0, 0, 0, 0, 0, 0, 0, 0, 0, 0, 0]) T.d__law_pool sc__law_pool (fun _ _ _ _ _ _ us hl => match us, hl with | [_, _], _ => rfl) (fun f cdv A outer s H E hr =>
    (ds_cons (Δ1 := [0, 0, 0, 0, 0, 0, 0, 0, 0, 0, 0])
    (dz (sa (i := 2) sc__law_pool.nd (de_call (c__law_digits T) (hr.mono (by decide)) (by rfl) tkD (da_cons (de_var 0) (da_cons (de_var 1) (da_cons (DE.zero (r := 1) (de_lst (da_cons de_int (da_cons de_int (da_cons de_int (da_cons de_int da_nil)))))) da_nil))))))
    (ds_cons (Δ1 := [0, 0, 0, 0, 0, 0, 0, 0, 0, 0, 0])
    (dz (sa (i := 3) sc__law_pool.nd de_str))
    (ds_cons (Δ1 := [0, 0, 0, 0, 1, 0, 0, 0, 0, 0, 0])
    (dz (sa (i := 4) sc__law_pool.nd (de_lst da_nil)))
    (ds_cons (Δ1 := [0, 0, 0, 0, 1, 0, 0, 0, 0, 0, 0])
    (fm [0, 0, 0, 0, 1, 0, 0, 0, 0, 0, 0] (sfor psD (di_rng1 (pi_range1 (by rfl) T.f_range (da_cons de_int da_nil))) (dg_nm 5 sc__law_pool.nd) (ds_part (Δ1 := [0, 0, 0, 0, 1, 0, 0, 1, 0, 0, 0]) (ds_cons (Δ1 := [0, 0, 0, 0, 1, 0, 0, 0, 0, 0, 0])
    (um (su (de_call (c__law_digits T) (hr.mono (by decide)) (by rfl) tkD (da_cons (de_var 0) (da_cons (DE.zero (r := 1) (de_op op_addAll sp_add (DE.zero (r := 1) (de_op op_addAll sp_add (de_var 1) de_int)) (de_op op_mod sp_intC (de_var 5) de_int))) (da_cons (DE.zero (r := 1) (de_lst (da_cons de_int (da_cons de_int da_nil)))) da_nil)))) (pg_tp rfl (dgs_nm 6 sc__law_pool.nd (dgs_nm 10 sc__law_pool.nd dgs_nil)))))
    (ds_cons (Δ1 := [0, 0, 0, 0, 1, 0, 0, 0, 0, 0, 0])
    (dm (sa (i := 6) sc__law_pool.nd (de_if (dt_cmp op_eq sp_eq (de_ix (ix_all (hu1 hr)) sp_ixA (de_var 2) de_int) de_int rfl) (de_ix (ix_all (hu1 hr)) sp_ixA (de_var 2) de_int) (de_op op_mod sp_intC (DE.zero (r := 1) (de_op op_addAll sp_add (de_var 6) (de_var 5))) de_int))))
    (ds_cons (Δ1 := [0, 0, 0, 0, 1, 0, 0, 1, 0, 0, 0])
    (dm (salc (i := 7) (own := [("_law_place", 8)]) rfl sc__law_pool.nd (di_rng1 (pi_range1 (by rfl) T.f_range (da_cons (DE.zero (r := 1) (de_op op_addAll sp_add de_int (de_var 6))) da_nil))) (blkOk_by (N := N__law_pool) (sc := (defScope (top 99))) (by decide +kernel)) (fun _ _ _ _ _ => (dg_nm 8 sc__law_pool.nd)) (fun _ _ _ _ _ => dts_nil) (fun _ _ _ _ _ => (de_ix (ix_all (hu1 hr)) sp_ixA (de_var 3) (de_if (dt_cmp op_eq sp_eq (de_ix (ix_all (hu1 hr)) sp_ixA (de_var 2) de_int) de_int rfl) (de_ix (ix_all (hu1 hr)) sp_ixA (de_var 2) de_int) (de_op op_mod sp_intC (DE.zero (r := 1) (de_op op_addAll sp_add (DE.zero (r := 1) (de_op op_addAll sp_add (de_var 10) (DE.zero (r := 1) (de_op op_mulAll sp_mul de_int (de_var 5))))) (de_var 8))) de_int)))) (by decide) (sw_true rfl rfl rfl (by decide +kernel))))
    (ds_cons (Δ1 := [0, 0, 0, 0, 1, 0, 0, 1, 0, 0, 0])
    (dq (sa (i := 8) sc__law_pool.nd (de_op op_mod sp_intC (DE.zero (r := 1) (de_op op_addAll sp_add (de_ix (ix_all (hu1 hr)) sp_ixA (de_var 2) de_int) (de_ix (ix_all (hu1 hr)) sp_ixA (de_var 2) de_int))) (dcb sp_lenA (pe_callB call_lenA (by rfl) T.f_len boot_len (da_cons (de_var 7) da_nil))))))
    (ds_cons (Δ1 := [0, 0, 0, 0, 1, 0, 0, 1, 0, 0, 0])
    (sput (dp_var 7) (dg_m (de_ix (ix_all (hu1 hr)) sp_ixA (de_var 3) (de_op op_mod sp_intC (DE.zero (r := 1) (de_op op_addAll sp_add (de_ix (ix_all (hu1 hr)) sp_ixA (de_var 2) de_int) (de_var 5))) de_int))) (dg_m (de_var 8)) (hu1 hr))
    (ds_cons (Δ1 := [0, 0, 0, 0, 1, 0, 0, 1, 0, 0, 0])
    (dq (sa (i := 9) sc__law_pool.nd (de_mth (fun _ _ _ _ => ty_str) sp_join (pe_bm PySem.F.plainAttrs_str PySem.F.slot_str_join PySem.F.type_str_join mt_join de_str (da_cons (de_var 7) da_nil)))))
    (ds_one (ds_if (dt_cmp (op_notInA (hu1 hr)) sp_inA (de_var 9) (de_var 4) rfl)
    (ds_one (ds_exprX (dx_append (dp_var 4) (dg_m (de_var 9)))))
    ds_nil rfl)))))))) rfl)))
    (ds_one (ds_ret (de_var 4) rfl rfl)))))))
def N_Manor___len__ : List Str := ["self"]
theorem sc_Manor___len__ : FnScope N_Manor___len__ ["self"] (defScope (inC (top 92) 2)) := ⟨rfl, rfl, rfl, by decide +kernel, rfl, by decide +kernel, by decide +kernel⟩
theorem c_Manor___len__ (T : Top K mg cl) : CalM P w K mg base (cl 0) "__len__" 1 (spD K cl 0 d_Manor___len__) :=
  calm_of (Δ' := [0]) T.d_Manor___len__ sc_Manor___len__ (fun _ _ _ _ _ _ us hl => match us, hl with | [_], _ => rfl) (fun f cdv A outer s H E hr =>
    (ds_one (ds_ret (dcb sp_lenA (pe_callB call_lenA (by rfl) T.f_len boot_len (da_cons (de_fld (de_var 0) T.cls T.na_stands) da_nil))) rfl rfl)))
def N_Manor_coming : List Str := ["self"]
theorem sc_Manor_coming : FnScope N_Manor_coming ["self"] (defScope (inC (top 92) 28)) := ⟨rfl, rfl, rfl, by decide +kernel, rfl, by decide +kernel, by decide +kernel⟩
theorem c_Manor_coming (T : Top K mg cl) : CalM P w K mg base (cl 0) "coming" 1 (spD K cl 0 d_Manor_coming) :=
  calm_of (Δ' := [0]) T.d_Manor_coming sc_Manor_coming (fun _ _ _ _ _ _ us hl => match us, hl with | [_], _ => rfl) (fun f cdv A outer s H E hr =>
    (ds_one (ds_ret (de_fld (de_var 0) T.cls T.na_fresh) rfl rfl)))
def N_Manor_holdings : List Str := ["self"]
theorem sc_Manor_holdings : FnScope N_Manor_holdings ["self"] (defScope (inC (top 92) 24)) := ⟨rfl, rfl, rfl, by decide +kernel, rfl, by decide +kernel, by decide +kernel⟩
theorem c_Manor_holdings (T : Top K mg cl) : CalM P w K mg base (cl 0) "holdings" 1 (spD K cl 0 d_Manor_holdings) :=
  calm_of (Δ' := [0]) T.d_Manor_holdings sc_Manor_holdings (fun _ _ _ _ _ _ us hl => match us, hl with | [_], _ => rfl) (fun f cdv A outer s H E hr =>
    (ds_one (ds_ret (DE.zero (r := 1) (dcb sp_srt (pe_callB (call_srt rfl) (by rfl) T.f_sorted boot_sorted (da_cons (de_fld (de_var 0) T.cls T.na_lets) da_nil)))) rfl rfl)))
def N_Manor_lives : List Str := ["self"]
theorem sc_Manor_lives : FnScope N_Manor_lives ["self"] (defScope (inC (top 92) 23)) := ⟨rfl, rfl, rfl, by decide +kernel, rfl, by decide +kernel, by decide +kernel⟩
theorem c_Manor_lives (T : Top K mg cl) : CalM P w K mg base (cl 0) "lives" 1 (spD K cl 0 d_Manor_lives) :=
  calm_of (Δ' := [0]) T.d_Manor_lives sc_Manor_lives (fun _ _ _ _ _ _ us hl => match us, hl with | [_], _ => rfl) (fun f cdv A outer s H E hr =>
    (ds_one (ds_ret (DE.zero (r := 1) (dcb sp_list (pe_callTy call_list_of (by rfl) T.f_list boot_list (da_cons (de_fld (de_var 0) T.cls T.na_folk) da_nil)))) rfl rfl)))
def N_Manor_presentments : List Str := ["self", "number"]
theorem sc_Manor_presentments : FnScope N_Manor_presentments ["self"] (defScope (inC (top 92) 27)) := ⟨rfl, rfl, rfl, by decide +kernel, rfl, by decide +kernel, by decide +kernel⟩
theorem c_Manor_presentments (T : Top K mg cl) : CalM P w K mg base (cl 0) "presentments" 1 (spD K cl 0 d_Manor_presentments) :=
  calm_of (Δ' := [0, 0]) T.d_Manor_presentments sc_Manor_presentments (fun _ _ _ _ _ _ us hl => match us, hl with | [_], _ => rfl) (fun f cdv A outer s H E hr =>
    (ds_one (ds_ret (DE.zero (r := 1) (de_lc (own := [("number", 1)]) rfl sc_Manor_presentments.nd (di_any (DE.zero (r := 1) (dcb sp_srt (pe_callB (call_srt rfl) (by rfl) T.f_sorted boot_sorted (da_cons (de_fld (de_var 0) T.cls T.na_stands) da_nil))))) (blkOk_by (N := N_Manor_presentments) (sc := (defScope (inC (top 92) 27))) (by decide +kernel)) (fun _ _ _ _ _ => (dg_nm 1 sc_Manor_presentments.nd)) (fun _ _ _ _ _ => dts_nil) (fun _ _ _ _ _ => (DE.zero (r := 1) (de_tup (da_cons (de_var 1) (da_cons (de_ix (ix_all (hu1 hr)) sp_ixA (de_fld (de_var 0) T.cls T.na_stands) (de_var 1)) da_nil))))) (by decide))) rfl rfl)))
def N_Manor_row_of : List Str := ["self", "holding"]
theorem sc_Manor_row_of : FnScope N_Manor_row_of ["self", "holding"] (defScope (inC (top 92) 25)) := ⟨rfl, rfl, rfl, by decide +kernel, rfl, by decide +kernel, by decide +kernel⟩
theorem c_Manor_row_of (T : Top K mg cl) : CalM P w K mg base (cl 0) "row_of" 2 (spD K cl 0 d_Manor_row_of) :=
  calm_of (Δ' := [0, 0]) T.d_Manor_row_of sc_Manor_row_of (fun _ _ _ _ _ _ us hl => match us, hl with | [_, _], _ => rfl) (fun f cdv A outer s H E hr =>
    (ds_one (ds_ret (DE.zero (r := 1) (dcb sp_list (pe_callTy call_list_of (by rfl) T.f_list boot_list (da_cons (de_ix (ix_all (hu1 hr)) sp_ixA (de_call (c_need_holding T) (hr.mono (by decide)) (by rfl) tkD (da_cons (de_fld (de_var 0) T.cls T.na_lets) (da_cons (de_var 1) da_nil))) de_int) da_nil)))) rfl rfl)))
def N_Manor_term : List Str := ["self", "holding", "row", "start", "end"]
theorem sc_Manor_term : FnScope N_Manor_term ["self", "holding"] (defScope (inC (top 92) 26)) := ⟨rfl, rfl, rfl, by decide +kernel, rfl, by decide +kernel, by decide +kernel⟩
theorem c_Manor_term (T : Top K mg cl) : CalM P w K mg base (cl 0) "term" 2 (spD K cl 0 d_Manor_term) :=
  calm_of (Δ' := [0, 0, 0, 0, 0]) T.d_Manor_term sc_Manor_term (fun _ _ _ _ _ _ us hl => match us, hl with | [_, _], _ => rfl) (fun f cdv A outer s H E hr =>
    (ds_cons (Δ1 := [0, 0, 0, 0, 0])
    (uz (su (de_call (c_need_holding T) (hr.mono (by decide)) (by rfl) tkD (da_cons (de_fld (de_var 0) T.cls T.na_lets) (da_cons (de_var 1) da_nil))) (pg_tp rfl (dgs_nm 2 sc_Manor_term.nd (dgs_nm 3 sc_Manor_term.nd (dgs_nm 4 sc_Manor_term.nd dgs_nil))))))
    (ds_one (ds_ret (DE.zero (r := 1) (de_tup (da_cons (de_var 3) (da_cons (de_var 4) da_nil)))) rfl rfl))))
def N__law_stands : List Str := ["_law_manor", "_law_m", "_law_name", "_law_due", "_law_row", "_law_begin", "_law_stop", "_law_number"]
theorem sc__law_stands : FnScope N__law_stands ["_law_manor", "_law_m"] (defScope (top 120)) := ⟨rfl, rfl, rfl, by decide +kernel, rfl, by decide +kernel, by decide +kernel⟩
theorem c__law_stands (T : Top K mg cl) : Cal P w K mg base "_law_stands" 8 (spD K cl 0 d__law_stands) :=
  cal_of (Δ' := [0, 0, 0, 0, 0, 0, 0, 0]) T.d__law_stands sc__law_stands (fun _ _ _ _ _ _ us hl => match us, hl with | [_, _], _ => rfl) (fun f cdv A outer s H E hr =>
    (ds_cons (Δ1 := [0, 0, 0, 0, 0, 0, 0, 0])
    (ds_if (dt_not (dt_val (de_call (c__law_same T 6) (hr.mono (by decide)) (by rfl) tkD (da_cons (DE.zero (r := 1) (de_lst (da_cons (de_meth0 (c_Manor_lives T) T.cls (hr.mono (by decide)) tkD (de_var 0)) (da_cons (de_meth0 (c_Manor_holdings T) T.cls (hr.mono (by decide)) tkD (de_var 0)) (da_cons (de_meth0 (c_Manor_coming T) T.cls (hr.mono (by decide)) tkD (de_var 0)) da_nil))))) (da_cons (DE.zero (r := 1) (de_lst (da_cons (de_ix (ix_all (hu1 hr)) sp_ixA (de_var 1) de_str) (da_cons (DE.zero (r := 1) (dcb sp_srt (pe_callB (call_srt rfl) (by rfl) T.f_sorted boot_sorted (da_cons (de_ix (ix_all (hu1 hr)) sp_ixA (de_var 1) de_str) da_nil)))) (da_cons (de_ix (ix_all (hu1 hr)) sp_ixA (de_var 1) de_str) da_nil))))) da_nil)))))
    (ds_one (ds_ret de_bl rfl rfl))
    ds_nil rfl)
    (ds_cons (Δ1 := [0, 0, 0, 0, 0, 0, 0, 0])
    (ds_forD (Δl := [0, 0, 0, 0, 0, 0, 0, 0]) psD (dv_key (dv_var 1) (hu1 hr)) (dg_nm 2 sc__law_stands.nd) (ds_cons (Δ1 := [0, 0, 0, 0, 0, 0, 0, 0])
    (uz (su (de_ix (ix_all (hu1 hr)) sp_ixA (de_ix (ix_all (hu1 hr)) sp_ixA (de_var 1) de_str) (de_var 2)) (pg_tp rfl (dgs_nm 4 sc__law_stands.nd (dgs_nm 5 sc__law_stands.nd (dgs_nm 6 sc__law_stands.nd dgs_nil))))))
    (ds_one (ds_if (dt_not (dt_val (de_call (c__law_same T 6) (hr.mono (by decide)) (by rfl) tkD (da_cons (DE.zero (r := 1) (de_lst (da_cons (de_meth (c_Manor_row_of T) T.cls (hr.mono (by decide)) tkD (de_var 0) (da_cons (de_var 2) da_nil)) (da_cons (de_meth (c_Manor_term T) T.cls (hr.mono (by decide)) tkD (de_var 0) (da_cons (de_var 2) da_nil)) da_nil)))) (da_cons (DE.zero (r := 1) (de_lst (da_cons (DE.zero (r := 1) (dcb sp_list (pe_callTy call_list_of (by rfl) T.f_list boot_list (da_cons (de_var 4) da_nil)))) (da_cons (DE.zero (r := 1) (de_tup (da_cons (de_var 5) (da_cons (de_var 6) da_nil)))) da_nil)))) da_nil)))))
    (ds_one (ds_ret de_bl rfl rfl))
    ds_nil rfl))))
    (ds_cons (Δ1 := [0, 0, 0, 1, 0, 0, 0, 0])
    (dz (salc (i := 3) (own := [("_law_number", 7)]) rfl sc__law_stands.nd (di_any (DE.zero (r := 1) (dcb sp_srt (pe_callB (call_srt rfl) (by rfl) T.f_sorted boot_sorted (da_cons (de_ix (ix_all (hu1 hr)) sp_ixA (de_var 1) de_str) da_nil))))) (blkOk_by (N := N__law_stands) (sc := (defScope (top 120))) (by decide +kernel)) (fun _ _ _ _ _ => (dg_nm 7 sc__law_stands.nd)) (fun _ _ _ _ _ => dts_nil) (fun _ _ _ _ _ => (DE.zero (r := 1) (de_tup (da_cons (de_var 7) (da_cons (de_ix (ix_all (hu1 hr)) sp_ixA (de_ix (ix_all (hu1 hr)) sp_ixA (de_var 1) de_str) (de_var 7)) da_nil))))) (by decide) (sw_true rfl rfl rfl (by decide +kernel))))
    (ds_one (ds_ret (de_and (de_call (c__law_same T 6) (hr.mono (by decide)) (by rfl) tkD (da_cons (de_meth0 (c_Manor_presentments T) T.cls (hr.mono (by decide)) tkD (de_var 0)) (da_cons (de_var 3) da_nil))) (de_one (de_call (c__law_same T 6) (hr.mono (by decide)) (by rfl) tkD (da_cons (de_lenO (c_Manor___len__ T) (hr.mono (by decide)) T.f_len (de_var 0)) (da_cons (dcb sp_lenA (pe_callB call_lenA (by rfl) T.f_len boot_len (da_cons (de_var 3) da_nil))) da_nil))))) rfl rfl))))))
def N__law_far : List Str := ["_law_number", "_law_way"]
theorem sc__law_far : FnScope N__law_far ["_law_number", "_law_way"] (defScope (top 97)) := ⟨rfl, rfl, rfl, by decide +kernel, rfl, by decide +kernel, by decide +kernel⟩
theorem c__law_far (T : Top K mg cl) : Cal P w K mg base "_law_far" 1 (spD K cl 0 d__law_far) :=
  cal_of (Δ' := [0, 0]) T.d__law_far sc__law_far (fun _ _ _ _ _ _ us hl => match us, hl with | [_, _], _ => rfl) (fun f cdv A outer s H E hr =>
    (ds_one (ds_ret (de_ix (ix_all (hu1 hr)) sp_ixA (DE.zero (r := 1) (de_lst (da_cons (de_var 0) (da_cons (de_op op_sub sp_int (de_op op_sub sp_int de_int de_int) (de_var 0)) (da_cons (de_op op_sub sp_int (de_op op_pow sp_intC de_int de_int) (de_var 0)) (da_cons (de_op op_sub sp_int (de_var 0) (de_op op_pow sp_intC de_int de_int)) da_nil)))))) (de_op op_mod sp_intC (de_var 1) de_int)) rfl rfl)))
def N__law_lives_row : List Str := ["_law_script", "_law_k", "_law_folk", "_law_left", "_law_found", "_law_places", "_law_place"]
theorem sc__law_lives_row : FnScope N__law_lives_row ["_law_script", "_law_k", "_law_folk"] (defScope (top 98)) := ⟨rfl, rfl, rfl, by decide +kernel, rfl, by decide +kernel, by decide +kernel⟩
theorem c__law_lives_row (T : Top K mg cl) : Cal P w K mg base "_law_lives_row" 4 (spD K cl 0 d__law_lives_row) :=
  cal_of (Δ' := [0, 0, 0, 0, 0, 0, 0]) T.d__law_lives_row sc__law_lives_row (fun _ _ _ _ _ _ us hl => match us, hl with | [_, _, _], _ => rfl) (fun f cdv A outer s H E hr =>
    (ds_cons (Δ1 := [0, 0, 0, 1, 0, 0, 0])
    (dz (sa (i := 3) sc__law_lives_row.nd (dcb sp_list (pe_callTy call_list_of (by rfl) T.f_list boot_list (da_cons (de_var 2) da_nil)))))
    (ds_cons (Δ1 := [0, 0, 0, 1, 1, 0, 0])
    (dm (sa (i := 4) sc__law_lives_row.nd (de_lst da_nil)))
    (ds_cons (Δ1 := [0, 0, 0, 1, 1, 0, 0])
    (dm (sa (i := 5) sc__law_lives_row.nd (de_call (c__law_digits T) (hr.mono (by decide)) (by rfl) tkD (da_cons (de_var 0) (da_cons (de_var 1) (da_cons (DE.zero (r := 1) (de_lst (da_cons de_int (da_cons de_int (da_cons de_int (da_cons de_int (da_cons de_int da_nil))))))) da_nil))))))
    (ds_cons (Δ1 := [0, 0, 0, 1, 1, 0, 0])
    (fm [0, 0, 0, 1, 1, 0, 0] (sfor psD (di_any (DE.zero (r := 1) (de_slice (de_var 5) (do_some de_int) (do_some (DE.zero (r := 1) (de_op op_addAll sp_add de_int (de_ix (ix_all (hu1 hr)) sp_ixA (de_var 5) de_int))))))) (dg_nm 6 sc__law_lives_row.nd) (ds_one (ds_if (dt_cmp op_gt sp_cmp (dcb sp_lenA (pe_callB call_lenA (by rfl) T.f_len boot_len (da_cons (de_var 3) da_nil))) de_int rfl)
    (ds_one (ds_exprX (dx_appX 4 (dx_popAt (dp_var 3) (dg_i (r := 0) (de_op op_mod sp_intC (de_var 6) (dcb sp_lenA (pe_callB call_lenA (by rfl) T.f_len boot_len (da_cons (de_var 3) da_nil)))))))))
    ds_nil rfl))))
    (ds_one (ds_ret (DE.zero (r := 1) (dcb sp_tuple (pe_callTy call_tuple_of (by rfl) T.f_tuple boot_tuple (da_cons (de_var 4) da_nil)))) rfl rfl)))))))
def N__law_wild : List Str := ["_law_script", "_law_k", "_law_m", "_law_names", "_law_spoilt", "_law_odd", "_law_day", "_law_name", "_law_other", "_law_lets", "_law_kind", "_law_one", "_law_two", "_law_way", "_law_far_here", "_law_side", "_law_at", "_law_row"]
theorem sc__law_wild : FnScope N__law_wild ["_law_script", "_law_k", "_law_m", "_law_names"] (defScope (top 121)) := ⟨rfl, rfl, rfl, by decide +kernel, rfl, by decide +kernel, by decide +kernel⟩
theorem c__law_wild (T : Top K mg cl) : Cal P w K mg base "_law_wild" 5 (spD K cl 0 d__law_wild) :=
  cal_of (Δ' := [0, 0, 0, 0, 0, 0, 0, 0, 0, 0, 0, 0, 0, 0, 0, 0, 0, 0]) T.d__law_wild sc__law_wild (fun _ _ _ _ _ _ us hl => match us, hl with | [_, _, _, _], _ => rfl) (fun f cdv A outer s H E hr =>
    (ds_cons (Δ1 := [0, 0, 0, 0, 0, 0, 0, 0, 0, 0, 0, 0, 0, 0, 0, 0, 0, 0])
    (uz (su (de_call (c__law_digits T) (hr.mono (by decide)) (by rfl) tkD (da_cons (de_var 0) (da_cons (de_var 1) (da_cons (DE.zero (r := 1) (de_lst (da_cons de_int (da_cons de_int (da_cons de_int (da_cons de_int (da_cons de_int (da_cons (de_op op_pow sp_intC de_int de_int) (da_cons de_int (da_cons de_int da_nil)))))))))) da_nil)))) (pg_tp rfl (dgs_nm 10 sc__law_wild.nd (dgs_nm 11 sc__law_wild.nd (dgs_nm 12 sc__law_wild.nd (dgs_nm 6 sc__law_wild.nd (dgs_nm 13 sc__law_wild.nd (dgs_nm 14 sc__law_wild.nd (dgs_nm 15 sc__law_wild.nd (dgs_nm 16 sc__law_wild.nd dgs_nil)))))))))))
    (ds_cons (Δ1 := [0, 0, 0, 0, 0, 0, 0, 0, 0, 0, 0, 0, 0, 0, 0, 0, 0, 0])
    (dz (sa (i := 4) sc__law_wild.nd (DE.zero (r := 1) (de_op op_addAll sp_add (DE.zero (r := 1) (de_slice (de_ix (ix_all (hu1 hr)) sp_ixA (de_var 3) (de_op op_mod sp_intC (de_var 11) (dcb sp_lenA (pe_callB call_lenA (by rfl) T.f_len boot_len (da_cons (de_var 3) da_nil))))) do_none (do_some (de_un un_neg sp_neg de_int)))) (de_ix (ix_all (hu1 hr)) sp_ixA de_str (de_op op_mod sp_intC (de_var 12) de_int))))))
    (ds_cons (Δ1 := [0, 0, 0, 0, 0, 0, 0, 0, 0, 0, 0, 0, 0, 0, 0, 0, 0, 0])
    (dz (sa (i := 5) sc__law_wild.nd (de_ix (ix_all (hu1 hr)) sp_ixA (DE.zero (r := 1) (de_lst (da_cons de_str (da_cons de_str (da_cons de_str (da_cons de_str (da_cons de_str (da_cons de_str (da_cons (de_var 4) (da_cons (de_var 4) da_nil)))))))))) (de_var 16))))
    (ds_cons (Δ1 := [0, 0, 0, 0, 0, 0, 0, 0, 0, 0, 0, 0, 0, 0, 0, 0, 0, 0])
    (dz (sa (i := 6) sc__law_wild.nd (de_ix (ix_all (hu1 hr)) sp_ixA (DE.zero (r := 1) (de_lst (da_cons (de_var 6) (da_cons (de_var 6) (da_cons (de_var 6) (da_cons (de_op op_mod sp_intC (de_var 6) de_int) (da_cons de_int (da_cons (de_un un_neg sp_neg de_int) (da_cons de_int (da_cons (de_call (c__law_far T) (hr.mono (by decide)) (by rfl) tkD (da_cons (de_var 14) (da_cons (de_var 15) da_nil))) (da_cons de_int da_nil))))))))))) (de_var 13))))
    (ds_cons (Δ1 := [0, 0, 0, 0, 0, 0, 0, 0, 0, 0, 0, 0, 0, 0, 0, 0, 0, 0])
    (dz (sa (i := 7) sc__law_wild.nd (de_if (dt_cmp op_lt sp_cmp (de_var 13) de_int rfl) (de_ix (ix_all (hu1 hr)) sp_ixA (de_var 3) (de_op op_mod sp_intC (de_var 11) (dcb sp_lenA (pe_callB call_lenA (by rfl) T.f_len boot_len (da_cons (de_var 3) da_nil))))) (de_var 5))))
    (ds_cons (Δ1 := [0, 0, 0, 0, 0, 0, 0, 0, 0, 0, 0, 0, 0, 0, 0, 0, 0, 0])
    (dz (sa (i := 8) sc__law_wild.nd (de_if (dt_cmp op_ne sp_ne (de_var 13) de_int rfl) (de_ix (ix_all (hu1 hr)) sp_ixA (de_var 3) (de_op op_mod sp_intC (de_var 12) (dcb sp_lenA (pe_callB call_lenA (by rfl) T.f_len boot_len (da_cons (de_var 3) da_nil))))) (de_var 5))))
    (ds_cons (Δ1 := [0, 0, 0, 0, 0, 0, 0, 0, 0, 0, 0, 0, 0, 0, 0, 0, 0, 0])
    (ds_if (dt_w (dw_or (dt_cmp op_eq sp_eq (de_var 10) de_int rfl) (dw_or1 (dt_cmp (op_eqD (hu64 hr)) sp_deq (de_ix (ix_all (hu1 hr)) sp_ixA (de_var 2) de_str) (DE.zero (r := 1) (de_lst da_nil)) rfl))))
    (ds_one (ds_ret (DE.zero (r := 1) (de_tup (da_cons de_str (da_cons (de_var 7) da_nil)))) rfl rfl))
    ds_nil rfl)
    (ds_cons (Δ1 := [0, 0, 0, 0, 0, 0, 0, 0, 0, 0, 0, 0, 0, 0, 0, 0, 0, 0])
    (ds_if (dt_cmp op_lt sp_cmp (de_var 10) de_int rfl)
    (ds_cons (Δ1 := [0, 0, 0, 0, 0, 0, 0, 0, 0, 0, 0, 0, 0, 0, 0, 0, 0, 0])
    (dz (sa (i := 17) sc__law_wild.nd (de_call (c__law_lives_row T) (hr.mono (by decide)) (by rfl) tkD (da_cons (de_var 0) (da_cons (de_var 1) (da_cons (de_ix (ix_all (hu1 hr)) sp_ixA (de_var 2) de_str) da_nil))))))
    (ds_cons (Δ1 := [0, 0, 0, 0, 0, 0, 0, 0, 0, 0, 0, 0, 0, 0, 0, 0, 0, 0])
    (dz (sa (i := 17) sc__law_wild.nd (de_ix (ix_all (hu1 hr)) sp_ixA (DE.zero (r := 1) (de_lst (da_cons (de_var 17) (da_cons (de_var 17) (da_cons (de_var 17) (da_cons (de_var 17) (da_cons (DE.zero (r := 1) (de_op op_addAll sp_add (de_var 17) (DE.zero (r := 1) (de_slice (de_var 17) do_none (do_some de_int))))) (da_cons (DE.zero (r := 1) (de_tup da_nil)) (da_cons (DE.zero (r := 1) (dcb sp_tuple (pe_callTy call_tuple_of (by rfl) T.f_tuple boot_tuple (da_cons (DE.zero (r := 1) (de_slice (de_var 3) do_none (do_some de_int))) da_nil)))) (da_cons (DE.zero (r := 1) (de_op op_addAll sp_add (DE.zero (r := 1) (de_tup (da_cons (de_var 8) da_nil))) (de_var 17))) (da_cons (de_var 17) da_nil))))))))))) (de_var 13))))
    (ds_one (ds_ret (DE.zero (r := 1) (de_tup (da_cons de_str (da_cons (de_var 7) (da_cons (de_var 17) (da_cons (de_var 6) da_nil)))))) rfl rfl))))
    ds_nil rfl)
    (ds_cons (Δ1 := [0, 0, 0, 0, 0, 0, 0, 0, 0, 0, 0, 0, 0, 0, 0, 0, 0, 0])
    (dz (sa (i := 9) sc__law_wild.nd (DE.zero (r := 1) (de_op op_addAll sp_add (DE.zero (r := 1) (dcb sp_srt (pe_callB (call_srt rfl) (by rfl) T.f_sorted boot_sorted (da_cons (de_ix (ix_all (hu1 hr)) sp_ixA (de_var 2) de_str) da_nil)))) (DE.zero (r := 1) (de_lst (da_cons (de_var 7) da_nil)))))))
    (ds_one (ds_ret (de_if (dt_cmp op_eq sp_eq (de_var 10) de_int rfl) (DE.zero (r := 1) (de_tup (da_cons de_str (da_cons (de_ix (ix_all (hu1 hr)) sp_ixA (de_var 9) (de_op op_mod sp_intC (de_var 12) (dcb sp_lenA (pe_callB call_lenA (by rfl) T.f_len boot_len (da_cons (de_var 9) da_nil))))) (da_cons (de_var 6) da_nil))))) (DE.zero (r := 1) (de_tup (da_cons de_str (da_cons (de_ix (ix_all (hu1 hr)) sp_ixA (de_var 9) (de_op op_mod sp_intC (de_var 12) (dcb sp_lenA (pe_callB call_lenA (by rfl) T.f_len boot_len (da_cons (de_var 9) da_nil))))) (da_cons (de_var 8) da_nil)))))) rfl rfl))))))))))))
def N_law : List Str := ["_law_script", "_law_names", "_law_manor", "_law_m", "_law_size", "_law_k"]
theorem sc_law : FnScope N_law ["_law_script"] (defScope (top 122)) := ⟨rfl, rfl, rfl, by decide +kernel, rfl, by decide +kernel, by decide +kernel⟩
theorem ok_law (T : Top K mg cl) {f : Addr} {fd : FuncData} (F : FunD K "law" "law" (defArgs (top 122)) (defBody (top 122)) (defScope (top 122)) [] [] f fd) (hp : ∀ ns : List Int, ns.length ≤ 63 → ∃ ρ', b_law (scr ns 5) = .ret (.bl true) ρ') : FnOk P w K mg base (L2N.CX P w) 9 f fd ["_law_script"] (spLaw K) :=
  law_ok (cl := cl) (Δ' := [0, 0, 0, 0, 0, 0]) F sc_law rfl (fun _ _ _ _ _ _ _ => ps_set (i := 0) sc_law.nd rfl (by first | exact Or.inl rfl | exact Or.inr rfl) (pe_slice sl_list (pe_var (i := 0) rfl (by first | exact Or.inl rfl | exact Or.inr (Or.inl rfl))) po_none (po_some pe_int)) rfl (by first | exact .inl rfl | exact .inr rfl)) (fun f cdv A outer s H E hr =>
    (ds_cons (Δ1 := [0, 0, 0, 0, 0, 0])
    (dz (sa (i := 1) sc_law.nd (de_call (c__law_pool T) (hr.mono (by decide)) (by rfl) tkD (da_cons (de_var 0) (da_cons de_int da_nil)))))
    (ds_cons (Δ1 := [0, 0, 2, 0, 0, 0])
    (dz (sa (i := 2) sc_law.nd (de_make0 (c_Manor_init T) (hr.mono (by decide)) (by rfl) tkD)))
    (ds_cons (Δ1 := [0, 0, 2, 0, 0, 0])
    (dm (sa (i := 3) sc_law.nd (de_call0 (c__law_new T) (hr.mono (by decide)) (by rfl) tkD)))
    (ds_cons (Δ1 := [0, 0, 2, 0, 0, 0])
    (dm (sa (i := 4) sc_law.nd (de_ix (ix_all (hu1 hr)) sp_ixA (de_call (c__law_digits T) (hr.mono (by decide)) (by rfl) tkD (da_cons (de_var 0) (da_cons de_int (da_cons (DE.zero (r := 1) (de_lst (da_cons de_int da_nil))) da_nil)))) de_int)))
    (ds_cons (Δ1 := [0, 0, 2, 0, 0, 0])
    (fm [0, 0, 2, 0, 0, 0] (sfor psD (di_rng1 (pi_range1 (by rfl) T.f_range (da_cons (de_var 4) da_nil))) (dg_nm 5 sc_law.nd) (ds_cons (Δ1 := [0, 0, 2, 0, 0, 0])
    (ds_setX (te := fun _ _ _ => True) (n := 0) (sax (i := 3) sc_law.nd (dx_call (m := 2) (n := 2) (c__law_play T) (hr.mono (by decide)) (by rfl) tkD (dp_var 2) (dga_cons (dg_m (de_var 3)) (dga_cons (dg_m (de_call (c__law_wild T) (hr.mono (by decide)) (by rfl) tkD (da_cons (de_var 0) (da_cons (DE.zero (r := 1) (de_op op_addAll sp_add de_int (de_var 5))) (da_cons (de_var 3) (da_cons (de_var 1) da_nil)))))) dga_nil)) (la1 (la1 la0)))))
    (ds_one (ds_if (dt_w (dw_or (dt_cmp op_is' sp_is (de_var 3) de_non rfl) (dw_or1 (dt_not (dt_val (de_call (c__law_stands T) (hr.mono (by decide)) (by rfl) tkD (da_cons (de_var 2) (da_cons (de_var 3) da_nil))))))))
    (ds_one (ds_ret de_bl rfl rfl))
    ds_nil rfl)))))
    (ds_one (ds_ret (de_call (c__law_stands T) (hr.mono (by decide)) (by rfl) tkD (da_cons (de_var 2) (da_cons (de_var 3) da_nil))) rfl rfl)))))))) hp
end
end H37


namespace H37
open PySem PySem.Spec PyProof.Rows L2 DL
abbrev R : PySem.W.OpenRow := PySem.W.OpenLaw.row PySem.Challenge.rw_lifehold_k37_lives_and_holdings
def fn : List He.DefD := [⟨("_law_mix", none), "_law_mix", "_law_mix", defArgs (top 94), defBody (top 94), defScope (top 94), [], []⟩,
  ⟨("_law_raw", none), "_law_raw", "_law_raw", defArgs (top 95), defBody (top 95), defScope (top 95), [], []⟩,
  ⟨("_law_digits", none), "_law_digits", "_law_digits", defArgs (top 96), defBody (top 96), defScope (top 96), [], []⟩,
  ⟨("_law_new", none), "_law_new", "_law_new", defArgs (top 100), defBody (top 100), defScope (top 100), [], []⟩,
  ⟨("_law_bad_holding", none), "_law_bad_holding", "_law_bad_holding", defArgs (top 109), defBody (top 109), defScope (top 109), [], []⟩,
  ⟨("_law_name_ok", none), "_law_name_ok", "_law_name_ok", defArgs (top 101), defBody (top 101), defScope (top 101), [], []⟩,
  ⟨("_law_bad_let", none), "_law_bad_let", "_law_bad_let", defArgs (top 102), defBody (top 102), defScope (top 102), [], []⟩,
  ⟨("_law_bad", none), "_law_bad", "_law_bad", defArgs (top 112), defBody (top 112), defScope (top 112), [], []⟩,
  ⟨("_law_copy", none), "_law_copy", "_law_copy", defArgs (top 116), defBody (top 116), defScope (top 116), [], []⟩,
  ⟨("_law_done", none), "_law_done", "_law_done", defArgs (top 117), defBody (top 117), defScope (top 117), [], []⟩,
  ⟨("_law_same", none), "_law_same", "_law_same", defArgs (top 118), defBody (top 118), defScope (top 118), [], []⟩,
  ⟨("is_day", none), "is_day", "is_day", defArgs (top 26), defBody (top 26), defScope (top 26), [], []⟩,
  ⟨("need_holding", none), "need_holding", "need_holding", defArgs (top 68), defBody (top 68), defScope (top 68), [], []⟩,
  ⟨("need_open", none), "need_open", "need_open", defArgs (top 69), defBody (top 69), defScope (top 69), [], []⟩,
  ⟨("need_day", none), "need_day", "need_day", defArgs (top 27), defBody (top 27), defScope (top 27), [], []⟩,
  ⟨("need_life", none), "need_life", "need_life", defArgs (top 66), defBody (top 66), defScope (top 66), [], []⟩,
  ⟨("need_lives", none), "need_lives", "need_lives", defArgs (top 67), defBody (top 67), defScope (top 67), [], []⟩,
  ⟨("need_name", none), "need_name", "need_name", defArgs (top 64), defBody (top 64), defScope (top 64), [], []⟩,
  ⟨("need_room", none), "need_room", "need_room", defArgs (top 65), defBody (top 65), defScope (top 65), [], []⟩,
  ⟨("room_for_holding", none), "room_for_holding", "room_for_holding", defArgs (top 73), defBody (top 73), defScope (top 73), [], []⟩,
  ⟨("room_for_life", none), "room_for_life", "room_for_life", defArgs (top 72), defBody (top 72), defScope (top 72), [], []⟩,
  ⟨("need_unlike", none), "need_unlike", "need_unlike", defArgs (top 70), defBody (top 70), defScope (top 70), [], []⟩,
  ⟨("room_in_row", none), "room_in_row", "room_in_row", defArgs (top 75), defBody (top 75), defScope (top 75), [], []⟩,
  ⟨("_law_by", none), "_law_by", "_law_by", defArgs (top 113), defBody (top 113), defScope (top 113), [], []⟩,
  ⟨("_law_kin", none), "_law_kin", "_law_kin", defArgs (top 114), defBody (top 114), defScope (top 114), [], []⟩,
  ⟨("_law_tried", none), "_law_tried", "_law_tried", defArgs (top 115), defBody (top 115), defScope (top 115), [], []⟩,
  ⟨("_law_play", none), "_law_play", "_law_play", defArgs (top 119), defBody (top 119), defScope (top 119), [], []⟩,
  ⟨("_law_pool", none), "_law_pool", "_law_pool", defArgs (top 99), defBody (top 99), defScope (top 99), [], []⟩,
  ⟨("_law_stands", none), "_law_stands", "_law_stands", defArgs (top 120), defBody (top 120), defScope (top 120), [], []⟩,
  ⟨("_law_far", none), "_law_far", "_law_far", defArgs (top 97), defBody (top 97), defScope (top 97), [], []⟩,
  ⟨("_law_lives_row", none), "_law_lives_row", "_law_lives_row", defArgs (top 98), defBody (top 98), defScope (top 98), [], []⟩,
  ⟨("_law_wild", none), "_law_wild", "_law_wild", defArgs (top 121), defBody (top 121), defScope (top 121), [], []⟩,
  ⟨("law", none), "law", "law", defArgs (top 122), defBody (top 122), defScope (top 122), [], []⟩,
  ⟨("Manor", some "__init__"), "__init__", "Manor.__init__", defArgs (inC (top 92) 0), defBody (inC (top 92) 0), defScope (inC (top 92) 0), [], []⟩,
  ⟨("Manor", some "state"), "state", "Manor.state", defArgs (inC (top 92) 4), defBody (inC (top 92) 4), defScope (inC (top 92) 4), [], []⟩,
  ⟨("Manor", some "note"), "note", "Manor.note", defArgs (inC (top 92) 6), defBody (inC (top 92) 6), defScope (inC (top 92) 6), [], []⟩,
  ⟨("Manor", some "give_up"), "give_up", "Manor.give_up", defArgs (inC (top 92) 11), defBody (inC (top 92) 11), defScope (inC (top 92) 11), [], []⟩,
  ⟨("Manor", some "let"), "let", "Manor.let", defArgs (inC (top 92) 8), defBody (inC (top 92) 8), defScope (inC (top 92) 8), [], []⟩,
  ⟨("Manor", some "life"), "life", "Manor.life", defArgs (inC (top 92) 7), defBody (inC (top 92) 7), defScope (inC (top 92) 7), [], []⟩,
  ⟨("Manor", some "put_in"), "put_in", "Manor.put_in", defArgs (inC (top 92) 9), defBody (inC (top 92) 9), defScope (inC (top 92) 9), [], []⟩,
  ⟨("Manor", some "do"), "do", "Manor.do", defArgs (inC (top 92) 18), defBody (inC (top 92) 18), defScope (inC (top 92) 18), [], []⟩,
  ⟨("Manor", some "__len__"), "__len__", "Manor.__len__", defArgs (inC (top 92) 2), defBody (inC (top 92) 2), defScope (inC (top 92) 2), [], []⟩,
  ⟨("Manor", some "coming"), "coming", "Manor.coming", defArgs (inC (top 92) 28), defBody (inC (top 92) 28), defScope (inC (top 92) 28), [], []⟩,
  ⟨("Manor", some "holdings"), "holdings", "Manor.holdings", defArgs (inC (top 92) 24), defBody (inC (top 92) 24), defScope (inC (top 92) 24), [], []⟩,
  ⟨("Manor", some "lives"), "lives", "Manor.lives", defArgs (inC (top 92) 23), defBody (inC (top 92) 23), defScope (inC (top 92) 23), [], []⟩,
  ⟨("Manor", some "presentments"), "presentments", "Manor.presentments", defArgs (inC (top 92) 27), defBody (inC (top 92) 27), defScope (inC (top 92) 27), [], []⟩,
  ⟨("Manor", some "row_of"), "row_of", "Manor.row_of", defArgs (inC (top 92) 25), defBody (inC (top 92) 25), defScope (inC (top 92) 25), [], []⟩,
  ⟨("Manor", some "term"), "term", "Manor.term", defArgs (inC (top 92) 26), defBody (inC (top 92) 26), defScope (inC (top 92) 26), [], []⟩]
def fa : List He.Fa := [.glo "_law_mix", .glo "_law_raw", .glo "_law_digits", .glo "_law_new", .glo "_law_bad_holding", .glo "_law_name_ok", .glo "_law_bad_let", .glo "_law_bad", .glo "_law_copy", .glo "_law_done", .glo "_law_same", .glo "is_day", .glo "need_holding", .glo "need_open", .glo "need_day", .glo "need_life", .glo "need_lives", .glo "need_name", .glo "need_room", .glo "room_for_holding", .glo "room_for_life", .glo "need_unlike", .glo "room_in_row", .glo "_law_by", .glo "_law_kin", .glo "_law_tried", .glo "_law_play", .glo "_law_pool", .glo "_law_stands", .glo "_law_far", .glo "_law_lives_row", .glo "_law_wild", .glo "law", .glo "Manor", .glo "HoldError", .glo "Missing", .glo "BadDay", .glo "BadCount", .glo "BadTie", .glo "CantBe", .glo "BadRow", .glo "BadName", .glo "Taken", .glo "Full", .glo "Twice", .glo "GivenUp", .glo "Held", .glo "Idle", .glo "Against", .glo "BadText", .glo "NoLife", .glo "NoHolding", .glo "NoPresentment", .glo "NoPlace", .glo "Nothing", .free "LookupError", .free "ValueError", .free "all", .free "bool", .free "dict", .free "int", .free "isinstance", .free "len", .free "list", .free "range", .free "set", .free "sorted", .free "str", .free "tuple", .free "zip", .int "LAST_DAY" 9999, .str "LETTERS" "abcdefghijklmnopqrstuvwxyz", .int "LONGEST" 8, .int "MOST_HOLDINGS" 8, .int "MOST_IN_ROW" 4, .int "MOST_LIVES" 10, .cls "Manor", .mkr "Manor", .noat "Manor" "ahead", .noat "Manor" "behind", .noat "Manor" "folk", .noat "Manor" "fresh", .noat "Manor" "lets", .noat "Manor" "stands", .meth "Manor" "state", .meth "Manor" "note", .meth "Manor" "give_up", .meth "Manor" "let", .meth "Manor" "life", .meth "Manor" "put_in", .meth "Manor" "do", .meth "Manor" "__len__", .meth "Manor" "coming", .meth "Manor" "holdings", .meth "Manor" "lives", .meth "Manor" "presentments", .meth "Manor" "row_of", .meth "Manor" "term"]
def clN : List PySem.Str := ["Manor", "HoldError", "Missing", "BadDay", "BadCount", "BadTie", "CantBe", "BadRow", "BadName", "Taken", "Full", "Twice", "GivenUp", "Held", "Idle", "Against", "BadText", "NoLife", "NoHolding", "NoPresentment", "NoPlace", "Nothing"]
def cl (K : PySem.W.Frag) (c : Nat) : Addr := He.ga K (clN.getD c "")
def exR (K : PySem.W.Frag) : Bool := ([3, 8, 7, 10, 12, 9, 11] : List Nat).all (fun c => exfB K (cl K c) veB "ValueError.__new__") && ([18, 17] : List Nat).all (fun c => exfB K (cl K c) leB "LookupError.__new__")
def exE (K : PySem.W.Frag) : Bool := rsd.all fun c => excB K (cl K c)
def exK (K : PySem.W.Frag) : Bool := rsd.all fun c => (List.range 22).all fun d => Nat.beq d 0 || decide (PySem.W.kitOne K (.ref (cl K c)) (.ref (cl K d)) = some (sb c d))
def ex_ValueError (K : PySem.W.Frag) : Bool := rsd.all fun c => decide (PySem.W.kitOne K (.ref (cl K c)) (.type "ValueError") = some (s_ValueError c))
def ex_LookupError (K : PySem.W.Frag) : Bool := rsd.all fun c => decide (PySem.W.kitOne K (.ref (cl K c)) (.type "LookupError") = some (s_LookupError c))
def exS (K : PySem.W.Frag) : Bool := rsd.all fun c => [1, 2].all fun d => decide (PySem.W.exmOne K (.ref (cl K c)) (.ref (cl K d)) = some (sb c d))
def ex (K : PySem.W.Frag) : Bool := exR K && (exE K && (exK K && (ex_ValueError K && (ex_LookupError K && exS K))))
def as : List Addr := [3, 1026, 1025, 1033, 1032, 1040, 1039, 1066, 1065, 1119, 1118, 1071, 1070, 1076, 1075, 1138, 1137, 1164, 1163, 1171, 1170, 1176, 1175, 296, 295, 541, 540, 548, 547, 303, 302, 527, 526, 534, 533, 513, 512, 520, 519, 576, 575, 569, 568, 555, 554, 590, 589, 1145, 1144, 1150, 1149, 1157, 1156, 1183, 1182, 1059, 1058, 1188, 1187, 1047, 1046, 1054, 1053, 1195, 1194, 1202, 1201, 1015, 1014, 31, 30, 44, 43, 57, 56, 69, 68, 81, 80, 93, 92, 105, 104, 117, 116, 129, 128, 141, 140, 153, 152, 165, 164, 177, 176, 189, 188, 208, 207, 227, 226, 239, 238, 251, 250, 263, 262, 275, 274, 287, 286, 716, 715, 744, 743, 758, 757, 793, 792, 772, 771, 765, 764, 779, 778, 843, 842, 730, 729, 911, 910, 885, 884, 878, 877, 904, 903, 892, 891, 899, 898]
abbrev AlA : Type := He.AlD × Bool
def obsA (g : Addr → Option Obj) : AlA := (He.obsD fa fn (He.frG g as), ex (He.frG g as))
def SaysA (K : PySem.W.Frag) : Prop := He.SaysD fa fn K ∧ ex K = true
def hk : PySem.W.Hook where
  α := AlA
  obs := fun s => obsA s.heap.get?
  val := fun _ => (He.valD fn, true)
  says := fun _ h => ∃ K : PySem.W.Frag, K.In h ∧ SaysA K
  of := fun _ _ e => ⟨_, He.frG_in, congrArg (fun z : AlA => z.1) e, congrArg (fun z : AlA => z.2) e⟩
  keeps := fun _ _ _ ⟨K, hK, c⟩ k => ⟨K, PySem.W.Frag.In.keeps hK k, c⟩
def ob (s : PySem.W.SharedT) : hk.α := obsA (HandSHeadRun.getT s)
theorem ob_eq (s : PySem.W.SharedT) : ob s = hk.obs s.abs := by
  have e : HandSHeadRun.getT s = s.abs.heap.get? := funext (HandSHeadRun.getT_eq s)
  show obsA (HandSHeadRun.getT s) = obsA s.abs.heap.get?
  rw [e]
def loose : List PySem.Str := [PySem.Str.ofString "_wall", PySem.Str.ofString "HoldError", PySem.Str.ofString "Missing", PySem.Str.ofString "BadDay", PySem.Str.ofString "BadCount", PySem.Str.ofString "BadTie", PySem.Str.ofString "CantBe", PySem.Str.ofString "BadRow", PySem.Str.ofString "BadName", PySem.Str.ofString "Taken", PySem.Str.ofString "Full", PySem.Str.ofString "Twice", PySem.Str.ofString "GivenUp", PySem.Str.ofString "Held", PySem.Str.ofString "Idle", PySem.Str.ofString "Against", PySem.Str.ofString "BadText", PySem.Str.ofString "NoLife", PySem.Str.ofString "NoHolding", PySem.Str.ofString "NoPresentment", PySem.Str.ofString "NoPlace", PySem.Str.ofString "Nothing", PySem.Str.ofString "LAST_DAY", PySem.Str.ofString "END_OF_DAYS", PySem.Str.ofString "is_day", PySem.Str.ofString "need_day", PySem.Str.ofString "need_run", PySem.Str.ofString "Span", PySem.Str.ofString "day_text", PySem.Str.ofString "span_or_none", PySem.Str.ofString "BEGINNING", PySem.Str.ofString "MOST_LIVES", PySem.Str.ofString "MOST_TIES", PySem.Str.ofString "is_tie", PySem.Str.ofString "need_many", PySem.Str.ofString "need_tie", PySem.Str.ofString "need_ties", PySem.Str.ofString "MOST_IN_ROW", PySem.Str.ofString "FALLEN_IN", PySem.Str.ofString "need_row", PySem.Str.ofString "need_in", PySem.Str.ofString "first_table", PySem.Str.ofString "tightened", PySem.Str.ofString "table_of", PySem.Str.ofString "is_held", PySem.Str.ofString "need_table", PySem.Str.ofString "thinned", PySem.Str.ofString "gone_by", PySem.Str.ofString "holding_ties", PySem.Str.ofString "table_with", PySem.Str.ofString "holders", PySem.Str.ofString "need_asked", PySem.Str.ofString "may_hold", PySem.Str.ofString "LETTERS", PySem.Str.ofString "LONGEST", PySem.Str.ofString "MOST_HOLDINGS", PySem.Str.ofString "MOST_STANDING", PySem.Str.ofString "need_name", PySem.Str.ofString "need_room", PySem.Str.ofString "need_life", PySem.Str.ofString "need_lives", PySem.Str.ofString "need_holding", PySem.Str.ofString "need_open", PySem.Str.ofString "need_unlike", PySem.Str.ofString "need_presentment", PySem.Str.ofString "room_for_life", PySem.Str.ofString "room_for_holding", PySem.Str.ofString "room_for_presentment", PySem.Str.ofString "room_in_row", PySem.Str.ofString "LENGTHS", PySem.Str.ofString "PAIRS", PySem.Str.ofString "lives_in", PySem.Str.ofString "need_form", PySem.Str.ofString "need_numbers", PySem.Str.ofString "days_in", PySem.Str.ofString "ties_of", PySem.Str.ofString "Asked", PySem.Str.ofString "days_of", PySem.Str.ofString "sure_days", PySem.Str.ofString "fewest_days", PySem.Str.ofString "most_days", PySem.Str.ofString "NOBODY", PySem.Str.ofString "Manor", PySem.Str.ofString "_law_mix", PySem.Str.ofString "_law_raw", PySem.Str.ofString "_law_digits", PySem.Str.ofString "_law_far", PySem.Str.ofString "_law_lives_row", PySem.Str.ofString "_law_pool", PySem.Str.ofString "_law_new", PySem.Str.ofString "_law_name_ok", PySem.Str.ofString "_law_bad_let", PySem.Str.ofString "_law_said_ties", PySem.Str.ofString "_law_ties_in", PySem.Str.ofString "_law_kept", PySem.Str.ofString "_law_early", PySem.Str.ofString "_law_late", PySem.Str.ofString "_law_holds_surely", PySem.Str.ofString "_law_bad_holding", PySem.Str.ofString "_law_said_bad", PySem.Str.ofString "_law_bad_saying", PySem.Str.ofString "_law_bad", PySem.Str.ofString "_law_by", PySem.Str.ofString "_law_kin", PySem.Str.ofString "_law_tried", PySem.Str.ofString "_law_copy", PySem.Str.ofString "_law_done", PySem.Str.ofString "_law_same", PySem.Str.ofString "_law_play", PySem.Str.ofString "_law_stands", PySem.Str.ofString "_law_wild"]
def q : PySem.Program := PySem.W.view R.prog [122]
noncomputable abbrev E (w : World) (os : OsState) : Option PySem.W.SharedT := HandSHeadRun.endF (HandSHeadRun.stepQ (HandSHeadRun.denQ HandSHeadRun.tabQ) R.prog w) 11000 R.prog w os
theorem run_looks_false (w : World) (os : OsState) : (fun w : World => (E w os).map (fun s => HandSHeadRun.looksF R.prog (PySem.W.boot_heap w.params) s.abs) = some (true)) (w.withFollow "special-get-raises" false) := by kernel_rfl
theorem run_looks_true (w : World) (os : OsState) : (fun w : World => (E w os).map (fun s => HandSHeadRun.looksF R.prog (PySem.W.boot_heap w.params) s.abs) = some (true)) (w.withFollow "special-get-raises" true) := by kernel_rfl
theorem run_seen_false (w : World) (os : OsState) : (fun w : World => (E w os).map (fun s => HandSHeadRun.seenQ q loose (importedModules R.prog.main.body) (fun s => PySem.W.xlAt q [] s && PySem.W.recOk R.toRowW.records s) s.abs) = some (PySem.W.openGood q loose)) (w.withFollow "special-get-raises" false) := by kernel_rfl
theorem run_seen_true (w : World) (os : OsState) : (fun w : World => (E w os).map (fun s => HandSHeadRun.seenQ q loose (importedModules R.prog.main.body) (fun s => PySem.W.xlAt q [] s && PySem.W.recOk R.toRowW.records s) s.abs) = some (PySem.W.openGood q loose)) (w.withFollow "special-get-raises" true) := by kernel_rfl
theorem run_facts_false (w : World) (os : OsState) : (fun w : World => (E w os).map (fun s => ob s) = some (hk.val w)) (w.withFollow "special-get-raises" false) := by kernel_rfl
theorem run_facts_true (w : World) (os : OsState) : (fun w : World => (E w os).map (fun s => ob s) = some (hk.val w)) (w.withFollow "special-get-raises" true) := by kernel_rfl
theorem run (w : World) : HandSHeadRun.RunEq R q hk ob 11000 loose w := by
  intro os
  have h1 : (E w os).map (fun s => HandSHeadRun.looksF R.prog (PySem.W.boot_heap w.params) s.abs) = some true := PySem.W.byRow2 "special-get-raises" (P := fun w => (E w os).map (fun s => HandSHeadRun.looksF R.prog (PySem.W.boot_heap w.params) s.abs) = some true) (fun w => run_looks_false w os) (fun w => run_looks_true w os) w
  have h2 : (E w os).map (fun s => HandSHeadRun.seenQ q loose (importedModules R.prog.main.body) (fun s => PySem.W.xlAt q [] s && PySem.W.recOk R.toRowW.records s) s.abs) = some (PySem.W.openGood q loose) := PySem.W.byRow2 "special-get-raises" (P := fun w => (E w os).map (fun s => HandSHeadRun.seenQ q loose (importedModules R.prog.main.body) (fun s => PySem.W.xlAt q [] s && PySem.W.recOk R.toRowW.records s) s.abs) = some (PySem.W.openGood q loose)) (fun w => run_seen_false w os) (fun w => run_seen_true w os) w
  have h3 : (E w os).map (fun s => ob s) = some (hk.val w) := PySem.W.byRow2 "special-get-raises" (P := fun w => (E w os).map (fun s => ob s) = some (hk.val w)) (fun w => run_facts_false w os) (fun w => run_facts_true w os) w
  show (E w os).map _ = _
  cases e : E w os with
  | none => rw [e] at h1; cases h1
  | some s =>
    rw [e] at h1 h2 h3
    simp only [Option.map_some, Option.some.injEq] at h1 h2 h3 ⊢
    rw [h1, h2, h3]
theorem all2 {f : Nat → Bool} {l : List Nat} {c : Nat} (h : l.all f = true) (m : c ∈ l) : f c = true := List.all_eq_true.mp h c m
theorem facts {K : PySem.W.Frag} {h : Heap} {mg : Str → Option Value} (X : K.In h) (G : h.Ns mainGlobals mg) (c : SaysA K) : Top K mg (cl K) := by
  obtain ⟨c, e⟩ := c
  obtain ⟨eR, e⟩ := Bool.and_eq_true_iff.mp e
  obtain ⟨eE, e⟩ := Bool.and_eq_true_iff.mp e
  obtain ⟨eK, e⟩ := Bool.and_eq_true_iff.mp e
  obtain ⟨eV, e⟩ := Bool.and_eq_true_iff.mp e
  obtain ⟨eL, eS⟩ := Bool.and_eq_true_iff.mp e
  obtain ⟨eR1, eR2⟩ := Bool.and_eq_true_iff.mp eR
  exact {
    d__law_mix := by
      obtain ⟨fd, F⟩ := c.def_ 0 rfl
      exact ⟨_, fd, F, He.glo_ok X G (c.fact 0 rfl)⟩
    d__law_raw := by
      obtain ⟨fd, F⟩ := c.def_ 1 rfl
      exact ⟨_, fd, F, He.glo_ok X G (c.fact 1 rfl)⟩
    d__law_digits := by
      obtain ⟨fd, F⟩ := c.def_ 2 rfl
      exact ⟨_, fd, F, He.glo_ok X G (c.fact 2 rfl)⟩
    d__law_new := by
      obtain ⟨fd, F⟩ := c.def_ 3 rfl
      exact ⟨_, fd, F, He.glo_ok X G (c.fact 3 rfl)⟩
    d__law_bad_holding := by
      obtain ⟨fd, F⟩ := c.def_ 4 rfl
      exact ⟨_, fd, F, He.glo_ok X G (c.fact 4 rfl)⟩
    d__law_name_ok := by
      obtain ⟨fd, F⟩ := c.def_ 5 rfl
      exact ⟨_, fd, F, He.glo_ok X G (c.fact 5 rfl)⟩
    d__law_bad_let := by
      obtain ⟨fd, F⟩ := c.def_ 6 rfl
      exact ⟨_, fd, F, He.glo_ok X G (c.fact 6 rfl)⟩
    d__law_bad := by
      obtain ⟨fd, F⟩ := c.def_ 7 rfl
      exact ⟨_, fd, F, He.glo_ok X G (c.fact 7 rfl)⟩
    d__law_copy := by
      obtain ⟨fd, F⟩ := c.def_ 8 rfl
      exact ⟨_, fd, F, He.glo_ok X G (c.fact 8 rfl)⟩
    d__law_done := by
      obtain ⟨fd, F⟩ := c.def_ 9 rfl
      exact ⟨_, fd, F, He.glo_ok X G (c.fact 9 rfl)⟩
    d__law_same := by
      obtain ⟨fd, F⟩ := c.def_ 10 rfl
      exact ⟨_, fd, F, He.glo_ok X G (c.fact 10 rfl)⟩
    d_is_day := by
      obtain ⟨fd, F⟩ := c.def_ 11 rfl
      exact ⟨_, fd, F, He.glo_ok X G (c.fact 11 rfl)⟩
    d_need_holding := by
      obtain ⟨fd, F⟩ := c.def_ 12 rfl
      exact ⟨_, fd, F, He.glo_ok X G (c.fact 12 rfl)⟩
    d_need_open := by
      obtain ⟨fd, F⟩ := c.def_ 13 rfl
      exact ⟨_, fd, F, He.glo_ok X G (c.fact 13 rfl)⟩
    d_need_day := by
      obtain ⟨fd, F⟩ := c.def_ 14 rfl
      exact ⟨_, fd, F, He.glo_ok X G (c.fact 14 rfl)⟩
    d_need_life := by
      obtain ⟨fd, F⟩ := c.def_ 15 rfl
      exact ⟨_, fd, F, He.glo_ok X G (c.fact 15 rfl)⟩
    d_need_lives := by
      obtain ⟨fd, F⟩ := c.def_ 16 rfl
      exact ⟨_, fd, F, He.glo_ok X G (c.fact 16 rfl)⟩
    d_need_name := by
      obtain ⟨fd, F⟩ := c.def_ 17 rfl
      exact ⟨_, fd, F, He.glo_ok X G (c.fact 17 rfl)⟩
    d_need_room := by
      obtain ⟨fd, F⟩ := c.def_ 18 rfl
      exact ⟨_, fd, F, He.glo_ok X G (c.fact 18 rfl)⟩
    d_room_for_holding := by
      obtain ⟨fd, F⟩ := c.def_ 19 rfl
      exact ⟨_, fd, F, He.glo_ok X G (c.fact 19 rfl)⟩
    d_room_for_life := by
      obtain ⟨fd, F⟩ := c.def_ 20 rfl
      exact ⟨_, fd, F, He.glo_ok X G (c.fact 20 rfl)⟩
    d_need_unlike := by
      obtain ⟨fd, F⟩ := c.def_ 21 rfl
      exact ⟨_, fd, F, He.glo_ok X G (c.fact 21 rfl)⟩
    d_room_in_row := by
      obtain ⟨fd, F⟩ := c.def_ 22 rfl
      exact ⟨_, fd, F, He.glo_ok X G (c.fact 22 rfl)⟩
    d__law_by := by
      obtain ⟨fd, F⟩ := c.def_ 23 rfl
      exact ⟨_, fd, F, He.glo_ok X G (c.fact 23 rfl)⟩
    d__law_kin := by
      obtain ⟨fd, F⟩ := c.def_ 24 rfl
      exact ⟨_, fd, F, He.glo_ok X G (c.fact 24 rfl)⟩
    d__law_tried := by
      obtain ⟨fd, F⟩ := c.def_ 25 rfl
      exact ⟨_, fd, F, He.glo_ok X G (c.fact 25 rfl)⟩
    d__law_play := by
      obtain ⟨fd, F⟩ := c.def_ 26 rfl
      exact ⟨_, fd, F, He.glo_ok X G (c.fact 26 rfl)⟩
    d__law_pool := by
      obtain ⟨fd, F⟩ := c.def_ 27 rfl
      exact ⟨_, fd, F, He.glo_ok X G (c.fact 27 rfl)⟩
    d__law_stands := by
      obtain ⟨fd, F⟩ := c.def_ 28 rfl
      exact ⟨_, fd, F, He.glo_ok X G (c.fact 28 rfl)⟩
    d__law_far := by
      obtain ⟨fd, F⟩ := c.def_ 29 rfl
      exact ⟨_, fd, F, He.glo_ok X G (c.fact 29 rfl)⟩
    d__law_lives_row := by
      obtain ⟨fd, F⟩ := c.def_ 30 rfl
      exact ⟨_, fd, F, He.glo_ok X G (c.fact 30 rfl)⟩
    d__law_wild := by
      obtain ⟨fd, F⟩ := c.def_ 31 rfl
      exact ⟨_, fd, F, He.glo_ok X G (c.fact 31 rfl)⟩
    d_Manor___init__ := by
      obtain ⟨fd, F⟩ := c.def_ 33 rfl
      exact ⟨_, fd, F, He.mkr_ok (c.fact 77 rfl), He.glo_ok X G (c.fact 33 rfl)⟩
    d_Manor_state := by
      obtain ⟨fd, F⟩ := c.def_ 34 rfl
      exact ⟨_, fd, F, He.meth_ok (c.fact 84 rfl)⟩
    d_Manor_note := by
      obtain ⟨fd, F⟩ := c.def_ 35 rfl
      exact ⟨_, fd, F, He.meth_ok (c.fact 85 rfl)⟩
    d_Manor_give_up := by
      obtain ⟨fd, F⟩ := c.def_ 36 rfl
      exact ⟨_, fd, F, He.meth_ok (c.fact 86 rfl)⟩
    d_Manor_let := by
      obtain ⟨fd, F⟩ := c.def_ 37 rfl
      exact ⟨_, fd, F, He.meth_ok (c.fact 87 rfl)⟩
    d_Manor_life := by
      obtain ⟨fd, F⟩ := c.def_ 38 rfl
      exact ⟨_, fd, F, He.meth_ok (c.fact 88 rfl)⟩
    d_Manor_put_in := by
      obtain ⟨fd, F⟩ := c.def_ 39 rfl
      exact ⟨_, fd, F, He.meth_ok (c.fact 89 rfl)⟩
    d_Manor_do := by
      obtain ⟨fd, F⟩ := c.def_ 40 rfl
      exact ⟨_, fd, F, He.meth_ok (c.fact 90 rfl)⟩
    d_Manor___len__ := by
      obtain ⟨fd, F⟩ := c.def_ 41 rfl
      exact ⟨_, fd, F, He.meth_ok (c.fact 91 rfl)⟩
    d_Manor_coming := by
      obtain ⟨fd, F⟩ := c.def_ 42 rfl
      exact ⟨_, fd, F, He.meth_ok (c.fact 92 rfl)⟩
    d_Manor_holdings := by
      obtain ⟨fd, F⟩ := c.def_ 43 rfl
      exact ⟨_, fd, F, He.meth_ok (c.fact 93 rfl)⟩
    d_Manor_lives := by
      obtain ⟨fd, F⟩ := c.def_ 44 rfl
      exact ⟨_, fd, F, He.meth_ok (c.fact 94 rfl)⟩
    d_Manor_presentments := by
      obtain ⟨fd, F⟩ := c.def_ 45 rfl
      exact ⟨_, fd, F, He.meth_ok (c.fact 95 rfl)⟩
    d_Manor_row_of := by
      obtain ⟨fd, F⟩ := c.def_ 46 rfl
      exact ⟨_, fd, F, He.meth_ok (c.fact 96 rfl)⟩
    d_Manor_term := by
      obtain ⟨fd, F⟩ := c.def_ 47 rfl
      exact ⟨_, fd, F, He.meth_ok (c.fact 97 rfl)⟩
    cls := He.cls_ok (c.fact 76 rfl)
    na_ahead := He.noat_ok (c.fact 78 rfl)
    na_behind := He.noat_ok (c.fact 79 rfl)
    na_folk := He.noat_ok (c.fact 80 rfl)
    na_fresh := He.noat_ok (c.fact 81 rfl)
    na_lets := He.noat_ok (c.fact 82 rfl)
    na_stands := He.noat_ok (c.fact 83 rfl)
    f_LookupError := He.free_ok X G (c.fact 55 rfl)
    f_ValueError := He.free_ok X G (c.fact 56 rfl)
    f_all := He.free_ok X G (c.fact 57 rfl)
    f_bool := He.free_ok X G (c.fact 58 rfl)
    f_dict := He.free_ok X G (c.fact 59 rfl)
    f_int := He.free_ok X G (c.fact 60 rfl)
    f_isinstance := He.free_ok X G (c.fact 61 rfl)
    f_len := He.free_ok X G (c.fact 62 rfl)
    f_list := He.free_ok X G (c.fact 63 rfl)
    f_range := He.free_ok X G (c.fact 64 rfl)
    f_set := He.free_ok X G (c.fact 65 rfl)
    f_sorted := He.free_ok X G (c.fact 66 rfl)
    f_str := He.free_ok X G (c.fact 67 rfl)
    f_tuple := He.free_ok X G (c.fact 68 rfl)
    f_zip := He.free_ok X G (c.fact 69 rfl)
    x_LAST_DAY := He.int_ok X G (c.fact 70 rfl)
    x_LETTERS := He.str_ok X G (c.fact 71 rfl)
    x_LONGEST := He.int_ok X G (c.fact 72 rfl)
    x_MOST_HOLDINGS := He.int_ok X G (c.fact 73 rfl)
    x_MOST_IN_ROW := He.int_ok X G (c.fact 74 rfl)
    x_MOST_LIVES := He.int_ok X G (c.fact 75 rfl)
    e_BadDay := exf_of (He.glo_ok X G (c.fact 36 rfl)) (all2 eR1 (c := 3) (by decide))
    e_BadName := exf_of (He.glo_ok X G (c.fact 41 rfl)) (all2 eR1 (c := 8) (by decide))
    e_BadRow := exf_of (He.glo_ok X G (c.fact 40 rfl)) (all2 eR1 (c := 7) (by decide))
    e_Full := exf_of (He.glo_ok X G (c.fact 43 rfl)) (all2 eR1 (c := 10) (by decide))
    e_GivenUp := exf_of (He.glo_ok X G (c.fact 45 rfl)) (all2 eR1 (c := 12) (by decide))
    e_NoHolding := exf_of (He.glo_ok X G (c.fact 51 rfl)) (all2 eR2 (c := 18) (by decide))
    e_NoLife := exf_of (He.glo_ok X G (c.fact 50 rfl)) (all2 eR2 (c := 17) (by decide))
    e_Taken := exf_of (He.glo_ok X G (c.fact 42 rfl)) (all2 eR1 (c := 9) (by decide))
    e_Twice := exf_of (He.glo_ok X G (c.fact 44 rfl)) (all2 eR1 (c := 11) (by decide))
    g_HoldError := He.glo_ok X G (c.fact 34 rfl)
    g_Missing := He.glo_ok X G (c.fact 35 rfl)
    g_BadDay := He.glo_ok X G (c.fact 36 rfl)
    g_BadCount := He.glo_ok X G (c.fact 37 rfl)
    g_BadTie := He.glo_ok X G (c.fact 38 rfl)
    g_CantBe := He.glo_ok X G (c.fact 39 rfl)
    g_BadRow := He.glo_ok X G (c.fact 40 rfl)
    g_BadName := He.glo_ok X G (c.fact 41 rfl)
    g_Taken := He.glo_ok X G (c.fact 42 rfl)
    g_Full := He.glo_ok X G (c.fact 43 rfl)
    g_Twice := He.glo_ok X G (c.fact 44 rfl)
    g_GivenUp := He.glo_ok X G (c.fact 45 rfl)
    g_Held := He.glo_ok X G (c.fact 46 rfl)
    g_Idle := He.glo_ok X G (c.fact 47 rfl)
    g_Against := He.glo_ok X G (c.fact 48 rfl)
    g_BadText := He.glo_ok X G (c.fact 49 rfl)
    g_NoLife := He.glo_ok X G (c.fact 50 rfl)
    g_NoHolding := He.glo_ok X G (c.fact 51 rfl)
    g_NoPresentment := He.glo_ok X G (c.fact 52 rfl)
    g_NoPlace := He.glo_ok X G (c.fact 53 rfl)
    g_Nothing := He.glo_ok X G (c.fact 54 rfl)
    exc := fun c hc => exc_of (all2 (f := fun c => excB K (cl K c)) eE (List.contains_iff_mem.mp hc))
    kit := fun c hc d hd => by
      have h := of_decide_eq_true hd
      have h1 := all2 (f := fun d => Nat.beq d 0 || decide (PySem.W.kitOne K (.ref (cl K c)) (.ref (cl K d)) = some (sb c d))) (all2 eK (List.contains_iff_mem.mp hc)) h.1
      rcases Bool.or_eq_true_iff.mp h1 with z | z
      · exact absurd (Nat.eq_of_beq_eq_true z) h.2
      · exact of_decide_eq_true z
    kit_ValueError := fun c hc => of_decide_eq_true (all2 (f := fun c => decide (PySem.W.kitOne K (.ref (cl K c)) (.type "ValueError") = some (s_ValueError c))) eV (List.contains_iff_mem.mp hc))
    kit_LookupError := fun c hc => of_decide_eq_true (all2 (f := fun c => decide (PySem.W.kitOne K (.ref (cl K c)) (.type "LookupError") = some (s_LookupError c))) eL (List.contains_iff_mem.mp hc))
    sub := fun a b v hv => by
      unfold isub at hv
      by_cases z : rsd.contains a = true ∧ [1, 2].contains b = true
      · rw [if_pos z] at hv
        cases hv
        exact of_decide_eq_true (all2 (f := fun d => decide (PySem.W.exmOne K (.ref (cl K a)) (.ref (cl K d)) = some (sb a d))) (all2 eS (List.contains_iff_mem.mp z.1)) (List.contains_iff_mem.mp z.2))
      · rw [if_neg z] at hv
        cases hv }
end H37
open PySem PySem.W PySem.Calls PyProof.Rows
theorem PySem.Challenge.cw_lifehold_k37_lives_and_holdings_holds : PySem.Challenge.rw_lifehold_k37_lives_and_holdings.Holds := by
  w_on; o_law
  refine HandSHeadRun.head_any (r := OpenLaw.row PySem.Challenge.rw_lifehold_k37_lives_and_holdings) (q := view (OpenLaw.row PySem.Challenge.rw_lifehold_k37_lives_and_holdings).prog [122]) (H := H37.hk) (ob := H37.ob) (M := 11000) (loose := H37.loose)
    (d := HandSHeadRun.topDef (OpenLaw.row PySem.Challenge.rw_lifehold_k37_lives_and_holdings).prog 122) (kwd := []) H37.ob_eq
    (by kernel_rfl) (fun s => by kernel_rfl) H37.run (by kernel_rfl) (by kernel_rfl) (by kernel_rfl) (by rfl) (by first | assumption | decide +kernel) (by decide +kernel) ⟨rfl, rfl, rfl, rfl, rfl, by decide +kernel⟩ ?hw ?hc
  case hw => w_witness2
  case hc =>
    refine L2.walk_ofE (l := PySem.Challenge.rw_lifehold_k37_lives_and_holdings) (n := 63) (k := 9) (x := "_law_script") (CX := L2.CX0) rfl (by decide) (by kernel_rfl) ⟨rfl, by decide, by decide⟩ ?F (fun _ _ _ _ z => z)
    intro w mg fa h Y G hmg0
    obtain ⟨K, KX, c⟩ := Y
    have hmg : mg ("law" : PySem.Str) = some (.ref fa) := by
      have e : (HandSHeadRun.topDef (OpenLaw.row PySem.Challenge.rw_lifehold_k37_lives_and_holdings).prog 122).name = ("law" : PySem.Str) := by kernel_rfl
      rw [← e]
      exact hmg0
    obtain ⟨fd, F⟩ := c.1.def_ 32 rfl
    have e := hmg.symm.trans (He.glo_ok KX G (c.1.fact 32 rfl))
    cases e
    have b := L2.FunD.bindsA (ps := ["_law_script"]) F fun _ _ _ _ _ _ us hl => match us, hl with | [_], _ => rfl
    exact ⟨K, fd, DL.spLaw K, KX, fun s v => b s [v] rfl, fun H a ns hl _ hS => ⟨a, ns, rfl, hS, hl, fun _ => rfl⟩, fun base _ _ => DL.law0 (H37.ok_law (H37.facts KX G c) F (fun ns hn => H37.law_ok37 ns hn))⟩

