import PyProof.Rows.All
import Wide.All
import OpenK.AllK
import Wide.FinOn
import HandS.ForMost
import HandS.ForExc
import HandS.IsInst
import HandS.TupAny
import HandS.Wide
import HandS.Style
import HandS.More
import HandS.Deep
import HandS.Defaults
import HandS.Head0
import HandS.Head1
import HandS.Head2
import HandS.HeadEnd
import HandS.HeadHook1
import HandS.HeadHook2
import HandS.HeadHook3
import HandS.HeadHook4
import PySem.Challenge.RW_oneheadeach_k75_signing_sayings
set_option Elab.async false
set_option linter.all false
set_option maxRecDepth 100000
set_option maxHeartbeats 1000000
/-! DL1: pure data D, values R, a store of mutable boxes S; how they are held by the layer's heap. -/
namespace DL
open PySem PySem.Spec PyProof.Rows L2

inductive At where
  | non | bl (b : Bool) | int (i : Int) | str (s : Str)
  deriving DecidableEq
def At.v : At → V
  | .non => .non
  | .bl b => .bl b
  | .int i => .int i
  | .str s => .str s
/-- the kinds of boxes -/
inductive Kd where
  | tup | lst | lck | obj (c : Nat) | dct (ks : List Key)
/-- pure data -/
inductive D where
  | lf (x : At) | box (k : Kd) (xs : List D)
/-- a value: pure data, or a place in the store -/
inductive R where
  | d (x : D) | loc (l : Nat)
/-- what stands in the store -/
inductive Ob where
  | box (k : Kd) (rs : List R) | dead
abbrev Sto := List Ob
abbrev Env := List (Option R)
structure Exn where
  c : Nat
  xs : List D
/-- the classes: where they stand, the names of their fields -/
structure DC where
  adr : Nat → Addr
  names : Nat → List Str
/-- what a run gives -/
inductive Out (ε α : Type) where
  | ok (a : α) (S : Sto) | exc (e : ε) (S : Sto) | bad

abbrev D.non : D := .lf .non
abbrev D.bl (b : Bool) : D := .lf (.bl b)
abbrev D.int (i : Int) : D := .lf (.int i)
abbrev D.str (s : Str) : D := .lf (.str s)
abbrev D.tup (xs : List D) : D := .box .tup xs
abbrev D.lst (xs : List D) : D := .box .lst xs
abbrev R.non : R := .d .non
abbrev R.bl (b : Bool) : R := .d (.bl b)
abbrev R.int (i : Int) : R := .d (.int i)
abbrev R.str (s : Str) : R := .d (.str s)
abbrev R.tup (xs : List D) : R := .d (.tup xs)
abbrev R.lst (xs : List D) : R := .d (.lst xs)

/-- what the written part says of a tuple, a list, a dict -/
abbrev KTup (K : PySem.W.Frag) (a : Addr) (xs : List V) : Prop :=
  ∃ (o : Obj) (its : Array Value) (n : Nat), K.lookup a = some o ∧ o.cls = .type "tuple" ∧ o.data = .seq its n ∧ its.size ≤ sizeLine ∧ Vals xs its.toList
abbrev KLst (K : PySem.W.Frag) (a : Addr) (xs : List V) : Prop :=
  ∃ (o : Obj) (its : Array Value) (n : Nat), K.lookup a = some o ∧ o.cls = .type "list" ∧ o.dict = none ∧ o.data = .seq its n ∧ its.size ≤ sizeLine ∧ Vals xs its.toList
section
variable (K : PySem.W.Frag) (C : DC)
def BoxAt (fz : Addr → Prop) (H : Hp) (a : Addr) : Kd → List V → Prop
  | .tup, vs => (fz a ∧ H a = some (.tup vs)) ∨ KTup K a vs
  | .lst, vs => fz a ∧ H a = some (.lst vs)
  | .lck, vs => (fz a ∧ Rd H a (.lst vs)) ∨ KLst K a vs
  | .obj c, vs => fz a ∧ ∃ dx, H a = some (.ins (C.adr c) dx ((C.names c).zip vs))
  | .dct ks, vs => fz a ∧ ks.length = vs.length ∧ H a = some (.dK (ks.zip vs))
mutual
def Rel (fz : Addr → Prop) (H : Hp) : D → V → Prop
  | .lf x, v => v = x.v
  | .box k xs, v => ∃ a vs, v = .ref a ∧ BoxAt K C fz H a k vs ∧ Rels fz H xs vs
def Rels (fz : Addr → Prop) (H : Hp) : List D → List V → Prop
  | [], vs => vs = []
  | x :: xs, vs => ∃ v r, vs = v :: r ∧ Rel fz H x v ∧ Rels fz H xs r
end
end
/-- a state of the layer below, with the store it holds: where the places stand, which addresses may change -/
structure Cfg where
  io : List (Option Addr)
  mu : Addr → Prop
  H : Hp
  S : Sto
section
variable (K : PySem.W.Frag) (C : DC)
abbrev fzn (mu : Addr → Prop) : Addr → Prop := fun a => ¬ mu a
def RelR (g : Cfg) : R → V → Prop
  | .d x, v => Rel K C (fzn g.mu) g.H x v
  | .loc l, v => ∃ oa, g.io[l]? = some oa ∧ ∀ a, oa = some a → v = .ref a
def RelRs (g : Cfg) : List R → List V → Prop
  | [], vs => vs = []
  | x :: xs, vs => ∃ v r, vs = v :: r ∧ RelR K C g x v ∧ RelRs g xs r
def MutAt (H : Hp) (a : Addr) : Kd → List V → Prop
  | .tup, _ => False
  | .lck, _ => False
  | .lst, vs => H a = some (.lst vs)
  | .obj c, vs => ∃ dx, H a = some (.ins (C.adr c) dx ((C.names c).zip vs))
  | .dct ks, vs => ks.length = vs.length ∧ H a = some (.dK (ks.zip vs))
def ObR (g : Cfg) : Option Addr → Ob → Prop
  | some a, .box k rs => g.mu a ∧ ∃ vs, MutAt C g.H a k vs ∧ RelRs K C g rs vs
  | none, .dead => True
  | _, _ => False
structure SoR (g : Cfg) : Prop where
  len : g.io.length = g.S.length
  inj : ∀ (i j : Nat) (a : Addr), g.io[i]? = some (some a) → g.io[j]? = some (some a) → i = j
  ob : ∀ (l : Nat) (oa : Option Addr) (o : Ob), g.io[l]? = some oa → g.S[l]? = some o → ObR K C g oa o
  live : ∀ a, g.mu a → ∃ o, g.H a = some o
end
def Clean (b : Nat) (S : Sto) : Prop := ∀ (l : Nat) (k : Kd) (rs : List R) (l' : Nat), l < b → S[l]? = some (.box k rs) → R.loc l' ∈ rs → l' < b
structure Ext (b : Nat) (g g' : Cfg) : Prop where
  ix : ∀ (l : Nat) (oa : Option Addr), g.io[l]? = some oa → g'.io[l]? = some oa ∨ g'.io[l]? = some none
  new : ∀ (l : Nat) (a : Addr), g'.io[l]? = some (some a) → g.io[l]? = some (some a) ∨ g.H a = none
  keep : ∀ (a : Addr) (o : HO), g.H a = some o → (∀ l : Nat, g.io[l]? ≠ some (some a)) → g'.H a = some o
  there : ∀ (a : Addr) (o : HO), g.H a = some o → ∃ o', g'.H a = some o'
  fz : ∀ (a : Addr) (o : HO), g.H a = some o → ¬ g.mu a → ¬ g'.mu a
  res : ∀ (a : Addr) (o : HO), g.H a = some o → g.mu a → (∀ l : Nat, g.io[l]? ≠ some (some a)) → g'.mu a
  clean : ∀ c, c ≤ b → Clean c g.S → Clean c g'.S

theorem Ext.refl {b : Nat} {g : Cfg} : Ext b g g :=
  ⟨fun _ _ e => .inl e, fun _ _ e => .inl e, fun _ _ e _ => e, fun _ o e => ⟨o, e⟩, fun _ _ _ h => h, fun _ _ _ h _ => h, fun _ _ h => h⟩
theorem Ext.trans {b : Nat} {g1 g2 g3 : Cfg} (x : Ext b g1 g2) (y : Ext b g2 g3) : Ext b g1 g3 := by
  have nix : ∀ a o, g1.H a = some o → (∀ l : Nat, g1.io[l]? ≠ some (some a)) → ∀ l : Nat, g2.io[l]? ≠ some (some a) := fun a o e n l z => by
    rcases x.new l a z with q | q
    · exact n l q
    · rw [e] at q; cases q
  refine ⟨fun l oa e => ?_, fun l a e => ?_, fun a o e n => ?_, fun a o e => ?_, fun a o e n => ?_, fun a o e m n => ?_, fun c hc h => y.clean c hc (x.clean c hc h)⟩
  · rcases x.ix l oa e with q | q
    · exact y.ix l oa q
    · rcases y.ix l none q with z | z
      · exact .inr z
      · exact .inr z
  · rcases y.new l a e with q | q
    · exact x.new l a q
    · right
      cases z : g1.H a with
      | none => rfl
      | some o =>
        obtain ⟨o', e'⟩ := x.there a o z
        rw [q] at e'; cases e'
  · exact y.keep a o (x.keep a o e n) (nix a o e n)
  · obtain ⟨o1, e1⟩ := x.there a o e
    exact y.there a o1 e1
  · obtain ⟨o1, e1⟩ := x.there a o e
    exact y.fz a o1 e1 (x.fz a o e n)
  · have m2 := x.res a o e m n
    exact y.res a o (x.keep a o e n) m2 (nix a o e n)

/-! ### what is related stays so -/
section
variable {K : PySem.W.Frag} {C : DC}
theorem BoxAt.mono {fz fz' : Addr → Prop} {H H' : Hp} {a : Addr} {vs : List V} (h : ∀ b o, H b = some o → fz b → H' b = some o ∧ fz' b) : ∀ {k : Kd}, BoxAt K C fz H a k vs → BoxAt K C fz' H' a k vs
  | .tup, x => x.imp (fun ⟨z, e⟩ => ⟨(h _ _ e z).2, (h _ _ e z).1⟩) fun z => z
  | .lst, ⟨z, e⟩ => ⟨(h _ _ e z).2, (h _ _ e z).1⟩
  | .lck, x => x.imp (fun ⟨z, e⟩ => by
      rcases e with e | ⟨o, e⟩
      · exact ⟨(h _ _ e z).2, .inl (h _ _ e z).1⟩
      · exact ⟨(h _ _ e z).2, .inr ⟨o, (h _ _ e z).1⟩⟩) fun z => z
  | .obj _, ⟨z, dx, e⟩ => ⟨(h _ _ e z).2, dx, (h _ _ e z).1⟩
  | .dct _, ⟨z, l, e⟩ => ⟨(h _ _ e z).2, l, (h _ _ e z).1⟩
mutual
theorem Rel.mono {fz fz' : Addr → Prop} {H H' : Hp} (h : ∀ b o, H b = some o → fz b → H' b = some o ∧ fz' b) : ∀ (d : D) {v : V}, Rel K C fz H d v → Rel K C fz' H' d v
  | .lf x, v, e => by
    simp only [Rel] at e ⊢
    exact e
  | .box k xs, v, e => by
    simp only [Rel] at e ⊢
    obtain ⟨a, vs, e1, e2, e3⟩ := e
    exact ⟨a, vs, e1, e2.mono h, Rels.mono h xs e3⟩
theorem Rels.mono {fz fz' : Addr → Prop} {H H' : Hp} (h : ∀ b o, H b = some o → fz b → H' b = some o ∧ fz' b) : ∀ (ds : List D) {vs : List V}, Rels K C fz H ds vs → Rels K C fz' H' ds vs
  | [], vs, e => by
    simp only [Rels] at e ⊢
    exact e
  | x :: xs, vs, e => by
    simp only [Rels] at e ⊢
    obtain ⟨v, r, e1, e2, e3⟩ := e
    exact ⟨v, r, e1, Rel.mono h x e2, Rels.mono h xs e3⟩
end
/-- what a step of the state keeps of frozen data -/
theorem Ext.kf {b : Nat} {g g' : Cfg} (x : Ext b g g') (live : ∀ (l : Nat) (a : Addr), g.io[l]? = some (some a) → g.mu a) : ∀ a o, g.H a = some o → fzn g.mu a → g'.H a = some o ∧ fzn g'.mu a := fun a o e z =>
  ⟨x.keep a o e fun l q => z (live l a q), x.fz a o e z⟩
theorem SoR.iomu {g : Cfg} (s : SoR K C g) : ∀ (l : Nat) (a : Addr), g.io[l]? = some (some a) → g.mu a := fun l a e => by
  have hl : l < g.S.length := by rw [← s.len]; exact (List.getElem?_eq_some_iff.mp e).1
  have h := s.ob l (some a) g.S[l] e (List.getElem?_eq_getElem hl)
  cases q : g.S[l] with
  | dead => rw [q] at h; exact h.elim
  | box k rs => rw [q] at h; exact h.1
/-- what values lean on -/
def Kp (g g' : Cfg) : Prop := (∀ (l : Nat) (oa : Option Addr), g.io[l]? = some oa → g'.io[l]? = some oa ∨ g'.io[l]? = some none) ∧ ∀ (a : Addr) (o : HO), g.H a = some o → fzn g.mu a → g'.H a = some o ∧ fzn g'.mu a
theorem Ext.kp {b : Nat} {g g' : Cfg} (x : Ext b g g') (s : SoR K C g) : Kp g g' := ⟨x.ix, x.kf s.iomu⟩
theorem Kp.rel {g g' : Cfg} (x : Kp g g') : ∀ {r : R} {v : V}, RelR K C g r v → RelR K C g' r v
  | .d d, v, e => Rel.mono x.2 d e
  | .loc l, v, ⟨oa, e1, e2⟩ => by
    rcases x.1 l oa e1 with q | q
    · exact ⟨oa, q, e2⟩
    · exact ⟨none, q, fun a z => by cases z⟩
theorem Kp.rels {g g' : Cfg} (x : Kp g g') : ∀ {rs : List R} {vs : List V}, RelRs K C g rs vs → RelRs K C g' rs vs
  | [], _, e => e
  | _ :: _, _, ⟨v, r, e1, e2, e3⟩ => ⟨v, r, e1, x.rel e2, x.rels e3⟩
theorem RelR.mono {b : Nat} {g g' : Cfg} (s : SoR K C g) (x : Ext b g g') : ∀ {r : R} {v : V}, RelR K C g r v → RelR K C g' r v
  | .d d, v, e => Rel.mono (x.kf s.iomu) d e
  | .loc l, v, ⟨oa, e1, e2⟩ => by
    rcases x.ix l oa e1 with q | q
    · exact ⟨oa, q, e2⟩
    · exact ⟨none, q, fun a z => by cases z⟩
theorem RelRs.mono {b : Nat} {g g' : Cfg} (s : SoR K C g) (x : Ext b g g') : ∀ {rs : List R} {vs : List V}, RelRs K C g rs vs → RelRs K C g' rs vs
  | [], _, e => e
  | _ :: _, _, ⟨v, r, e1, e2, e3⟩ => ⟨v, r, e1, e2.mono s x, RelRs.mono s x e3⟩
theorem RelRs.len {g : Cfg} : ∀ {rs : List R} {vs : List V}, RelRs K C g rs vs → rs.length = vs.length
  | [], _, e => by rw [show _ = [] from e]; rfl
  | _ :: _, _, ⟨v, r, e1, e2, e3⟩ => by rw [e1, List.length_cons, List.length_cons, e3.len]
theorem Rels.len {fz : Addr → Prop} {H : Hp} : ∀ (ds : List D) {vs : List V}, Rels K C fz H ds vs → ds.length = vs.length
  | [], vs, e => by
    simp only [Rels] at e
    rw [e]; rfl
  | x :: xs, vs, e => by
    simp only [Rels] at e
    obtain ⟨v, r, e1, e2, e3⟩ := e
    rw [e1, List.length_cons, List.length_cons, Rels.len xs e3]
theorem RelRs.of_rels {g : Cfg} : ∀ (ds : List D) {vs : List V}, Rels K C (fzn g.mu) g.H ds vs → RelRs K C g (ds.map .d) vs
  | [], vs, e => by
    simp only [Rels] at e
    exact e
  | x :: xs, vs, e => by
    simp only [Rels] at e
    obtain ⟨v, r, e1, e2, e3⟩ := e
    exact ⟨v, r, e1, e2, RelRs.of_rels xs e3⟩
theorem RelRs.to_rels {g : Cfg} : ∀ (ds : List D) {vs : List V}, RelRs K C g (ds.map .d) vs → Rels K C (fzn g.mu) g.H ds vs
  | [], vs, e => by
    simp only [Rels]
    exact e
  | x :: xs, vs, e => by
    simp only [Rels]
    obtain ⟨v, r, e1, e2, e3⟩ := e
    exact ⟨v, r, e1, e2, RelRs.to_rels xs e3⟩
theorem RelRs.get {g : Cfg} : ∀ {rs : List R} {vs : List V} {i : Nat} {r : R}, RelRs K C g rs vs → rs[i]? = some r → ∃ v, vs[i]? = some v ∧ RelR K C g r v
  | [], _, _, _, _, e => by simp at e
  | x :: xs, _, 0, r, ⟨v, t, e1, e2, _⟩, e => by
    rw [List.getElem?_cons_zero] at e
    cases e
    exact ⟨v, by rw [e1]; rfl, e2⟩
  | x :: xs, _, i + 1, r, ⟨v, t, e1, _, e3⟩, e => by
    rw [List.getElem?_cons_succ] at e
    obtain ⟨u, q1, q2⟩ := RelRs.get e3 e
    exact ⟨u, by rw [e1, List.getElem?_cons_succ]; exact q1, q2⟩
theorem RelRs.append {g : Cfg} : ∀ {rs ss : List R} {vs us : List V}, RelRs K C g rs vs → RelRs K C g ss us → RelRs K C g (rs ++ ss) (vs ++ us)
  | [], _, _, _, e, q => by rw [show _ = [] from e]; exact q
  | _ :: _, _, _, _, ⟨v, r, e1, e2, e3⟩, q => ⟨v, _, by rw [e1]; rfl, e2, RelRs.append e3 q⟩
theorem RelRs.one {g : Cfg} {r : R} {v : V} (h : RelR K C g r v) : RelRs K C g [r] [v] := ⟨v, [], rfl, h, rfl⟩
theorem RelRs.drop {g : Cfg} : ∀ (n : Nat) {rs : List R} {vs : List V}, RelRs K C g rs vs → RelRs K C g (rs.drop n) (vs.drop n)
  | 0, _, _, e => e
  | _ + 1, [], _, e => by rw [show _ = [] from e]; rfl
  | n + 1, _ :: _, _, ⟨v, r, e1, e2, e3⟩ => by rw [e1]; exact RelRs.drop n e3
theorem RelRs.take {g : Cfg} : ∀ (n : Nat) {rs : List R} {vs : List V}, RelRs K C g rs vs → RelRs K C g (rs.take n) (vs.take n)
  | 0, _, _, e => rfl
  | _ + 1, [], _, e => by rw [show _ = [] from e]; rfl
  | n + 1, _ :: _, _, ⟨v, r, e1, e2, e3⟩ => by rw [e1]; exact ⟨v, _, rfl, e2, RelRs.take n e3⟩
theorem RelRs.set {g : Cfg} {r : R} {v : V} (h : RelR K C g r v) : ∀ (n : Nat) {rs : List R} {vs : List V}, RelRs K C g rs vs → RelRs K C g (rs.set n r) (vs.set n v)
  | _, [], _, e => by rw [show _ = [] from e]; rfl
  | 0, _ :: _, _, ⟨u, t, e1, e2, e3⟩ => by rw [e1]; exact ⟨v, _, rfl, h, e3⟩
  | n + 1, _ :: _, _, ⟨u, t, e1, e2, e3⟩ => by rw [e1]; exact ⟨u, _, rfl, e2, RelRs.set h n e3⟩
theorem RelRs.eraseIdx {g : Cfg} : ∀ (n : Nat) {rs : List R} {vs : List V}, RelRs K C g rs vs → RelRs K C g (rs.eraseIdx n) (vs.eraseIdx n)
  | _, [], _, e => by rw [show _ = [] from e]; rfl
  | 0, _ :: _, _, ⟨u, t, e1, e2, e3⟩ => by rw [e1]; exact e3
  | n + 1, _ :: _, _, ⟨u, t, e1, e2, e3⟩ => by rw [e1]; exact ⟨u, _, rfl, e2, RelRs.eraseIdx n e3⟩
end
end DL

set_option maxHeartbeats 1000000
/-! DL2: runs as readings; names, constants, operators, displays. -/
namespace DL
open PySem PySem.Spec PyProof.Rows L2

abbrev ME := Nat → Env → Sto → Out Exn R
abbrev MT := Nat → Env → Sto → Out Exn Bool
abbrev MA := Nat → Env → Sto → Out Exn (List R)
inductive Fl where
  | nx (e : Env) | rt (r : R) | bk (e : Env) | ct (e : Env)
abbrev MS := Nat → Env → Sto → Out (Exn × Env) Fl

def Out.bind {ε α β : Type} (o : Out ε α) (f : α → Sto → Out ε β) : Out ε β :=
  match o with
  | .ok a S => f a S
  | .exc e S => .exc e S
  | .bad => .bad
theorem Out.bind_assoc {ε α β γ : Type} (o : Out ε α) (f : α → Sto → Out ε β) (h : β → Sto → Out ε γ) : (o.bind f).bind h = o.bind fun a S => (f a S).bind h := by
  cases o <;> rfl
def Out.ofO {ε α : Type} : Option (α × Sto) → Out ε α
  | some (a, S) => .ok a S
  | none => .bad

section
variable (K : PySem.W.Frag) (C : DC)
structure EnvR (g : Cfg) (σ : L2.St) (ρ : Env) : Prop where
  len : ρ.length = σ.length
  at_ : ∀ (i : Nat) (r : R), ρ[i]? = some (some r) → ∃ v, σ[i]? = some (some v) ∧ RelR K C g r v
/-- a good state, with the frame's base -/
structure Gd (b : Nat) (g : Cfg) : Prop where
  so : SoR K C g
  cl : Clean b g.S
  le : b ≤ g.S.length
def ExR (g : Cfg) (e : Exn) (od : Option Addr) : Prop :=
  match e.xs, od with
  | [], none => True
  | _ :: _, some d => ∃ vs, g.H d = some (.xd ((C.names e.c).zip vs)) ∧ Rels K C (fzn g.mu) g.H e.xs vs
  | _, _ => False
def OkE (W : WX) (b : Nat) (σ : L2.St) (g : Cfg) {α : Type} (o : Out Exn α) (k : α → Cfg → Prop) : Prop :=
  match o with
  | .ok a S' => ∀ g', g'.S = S' → Ext b g g' → Gd K C b g' → k a g'
  | .exc e S' => ∀ g' od, g'.S = S' → Ext b g g' → Gd K C b g' → ExR K C g' e od → W (.ref (C.adr e.c)) od σ g'.H
  | .bad => False
def OkO (b : Nat) (g : Cfg) {α : Type} (o : Option (α × Sto)) (k : α → Cfg → Prop) : Prop :=
  match o with
  | some (a, S') => ∀ g', g'.S = S' → Ext b g g' → Gd K C b g' → k a g'
  | none => False
def liftE (W : WX) (m : ME) : TE := fun σ H Q => ∃ b g ρ, g.H = H ∧ Gd K C b g ∧ EnvR K C g σ ρ ∧ OkE K C W b σ g (m b ρ g.S) fun r g' => ∀ v, RelR K C g' r v → Q v g'.H
def liftT (W : WX) (m : MT) : TT := fun σ H Q => ∃ b g ρ, g.H = H ∧ Gd K C b g ∧ EnvR K C g σ ρ ∧ OkE K C W b σ g (m b ρ g.S) fun r g' => Q r g'.H
def liftA (W : WX) (m : MA) : TA := fun σ H Q => ∃ b g ρ, g.H = H ∧ Gd K C b g ∧ EnvR K C g σ ρ ∧ OkE K C W b σ g (m b ρ g.S) fun rs g' => ∀ vs, RelRs K C g' rs vs → Q vs g'.H
def liftO (f : R → R → Sto → Option (R × Sto)) : R2 := fun x y H Q => ∃ b g r1 r2, g.H = H ∧ Gd K C b g ∧ RelR K C g r1 x ∧ RelR K C g r2 y ∧ OkO K C b g (f r1 r2 g.S) fun r g' => ∀ v, RelR K C g' r v → Q v g'.H
def liftC (f : Nat → List R → Sto → Option (R × Sto)) : List V → Hp → VK → Prop := fun xs H Q => ∃ b g rs, g.H = H ∧ Gd K C b g ∧ RelRs K C g rs xs ∧ OkO K C b g (f b rs g.S) fun r g' => ∀ v, RelR K C g' r v → Q v g'.H
end
abbrev DE (X : Cx) (C : DC) (W : WX) (e : Expr) (m : ME) : Prop := PE X e (liftE X.K C W m)
abbrev DT (X : Cx) (C : DC) (W : WX) (e : Expr) (m : MT) : Prop := PT X e (liftT X.K C W m)
abbrev DA (X : Cx) (C : DC) (W : WX) (es : List Expr) (m : MA) : Prop := PA X es (liftA X.K C W m)

section
variable {K : PySem.W.Frag} {C : DC} {W : WX} {b : Nat} {σ : L2.St} {g : Cfg}
theorem OkE.mono {α : Type} {o : Out Exn α} {k k' : α → Cfg → Prop} (h : OkE K C W b σ g o k) (hk : ∀ a g', Ext b g g' → Gd K C b g' → k a g' → k' a g') : OkE K C W b σ g o k' := by
  cases o with
  | ok a S => exact fun g' e x s => hk a g' x s (h g' e x s)
  | exc e S => exact h
  | bad => exact h
theorem OkE.bind {α β : Type} {o : Out Exn α} {f : α → Sto → Out Exn β} {k : β → Cfg → Prop} (h : OkE K C W b σ g (o.bind f) k) : OkE K C W b σ g o fun a g1 => OkE K C W b σ g1 (f a g1.S) k := by
  cases o with
  | bad => exact h
  | exc e S => exact h
  | ok a S =>
    intro g1 e1 x1 s1
    subst e1
    have h' : OkE K C W b σ g (f a g1.S) k := h
    show OkE K C W b σ g1 (f a g1.S) k
    cases q : f a g1.S with
    | bad => rw [q] at h'; exact h'
    | exc e S => rw [q] at h'; exact fun g' od e1 x s r => h' g' od e1 (x1.trans x) s r
    | ok c S => rw [q] at h'; exact fun g' e1 x s => h' g' e1 (x1.trans x) s
theorem OkO.of {α : Type} {o : Option (α × Sto)} {k : α → Cfg → Prop} (h : OkE K C W b σ g (Out.ofO o) k) : OkO K C b g o k := by
  cases o with
  | none => exact h
  | some p => exact h
theorem OkO.mono {α : Type} {o : Option (α × Sto)} {k k' : α → Cfg → Prop} (h : OkO K C b g o k) (hk : ∀ a g', Ext b g g' → Gd K C b g' → k a g' → k' a g') : OkO K C b g o k' := by
  cases o with
  | none => exact h
  | some p => exact fun g' e x s => hk p.1 g' x s (h g' e x s)
theorem EnvR.mono {ρ : Env} {g' : Cfg} (s : SoR K C g) (x : Ext b g g') (h : EnvR K C g σ ρ) : EnvR K C g' σ ρ :=
  ⟨h.len, fun i r e => let ⟨v, e1, e2⟩ := h.at_ i r e; ⟨v, e1, e2.mono s x⟩⟩
theorem EnvR.set {ρ : Env} {i : Nat} {r : R} {v : V} (h : EnvR K C g σ ρ) (q : RelR K C g r v) : EnvR K C g (σ.set i (some v)) (ρ.set i (some r)) := by
  refine ⟨by rw [List.length_set, List.length_set]; exact h.len, fun j r' e => ?_⟩
  by_cases hj : i = j
  · subst hj
    have hi : i < ρ.length := by
      have := (List.getElem?_eq_some_iff.mp e).1
      rw [List.length_set] at this
      exact this
    rw [List.getElem?_set_self hi] at e
    cases e
    exact ⟨v, List.getElem?_set_self (by rw [← h.len]; exact hi), q⟩
  · rw [List.getElem?_set_ne hj] at e ⊢
    exact h.at_ j r' e
end

section
variable {X : Cx}
theorem weaken {e : Expr} {t t' : TE} (h : PE X e t) (w : ∀ σ H Q, t' σ H Q → t σ H Q) : PE X e t' := ⟨fun pins s σ H Q I q => h.run pins s σ H Q I (w σ H Q q)⟩
theorem weakenT {e : Expr} {t t' : TT} (h : PT X e t) (w : ∀ σ H Q, t' σ H Q → t σ H Q) : PT X e t' := ⟨fun pins s σ H Q I q => h.run pins s σ H Q I (w σ H Q q)⟩
theorem weakenW {e : Expr} {t t' : TT} (h : PW X e t) (w : ∀ σ H Q, t' σ H Q → t σ H Q) : PW X e t' := ⟨fun wh pins s σ H Q I q => h.run wh pins s σ H Q I (w σ H Q q)⟩
theorem weakenA {e : List Expr} {t t' : TA} (h : PA X e t) (w : ∀ σ H Q, t' σ H Q → t σ H Q) : PA X e t' := ⟨fun pos pins s σ H Q I q => h.run pos pins s σ H Q I (w σ H Q q)⟩
theorem weakenR {f : Value → Value → Sem Value} {r r' : R2} (h : OpR X f r) (w : ∀ x y H Q, r' x y H Q → r x y H Q) : OpR X f r' := fun pins s σ H x y v u Q I rx ry q => h pins s σ H x y v u Q I rx ry (w x y H Q q)
theorem orR {f : Value → Value → Sem Value} {r r' : R2} (h : OpR X f r) (h' : OpR X f r') : OpR X f fun x y H Q => r x y H Q ∨ r' x y H Q := fun pins s σ H x y v u Q I rx ry q =>
  q.elim (h pins s σ H x y v u Q I rx ry) (h' pins s σ H x y v u Q I rx ry)
variable {C : DC} {W : WX}

/-! ### names and constants -/
def mVar (i : Nat) : ME := fun _ ρ S => match ρ[i]? with
  | some (some r) => .ok r S
  | _ => .bad
def mC (x : At) : ME := fun _ _ S => .ok (.d (.lf x)) S
theorem dv (i : Nat) {x : Str} {pos : Pos} (hN : X.N[i]? = some x := by rfl) (hv : Vis X.env.scope x := by first | exact Or.inl rfl | exact Or.inr (Or.inl rfl) | exact Or.inr (Or.inr rfl)) (hd : (x == ("__debug__" : Str)) = false := by decide)
    (hcd : (x == ("__classdict__" : Str)) = false := by decide) : DE X C W (.Name x pos) (mVar i) := by
  refine weaken (pe_var hN hv hd hcd) fun σ H Q h => ?_
  obtain ⟨b, g, ρ, rfl, s, r, h⟩ := h
  unfold mVar at h
  split at h
  · rename_i r' e
    obtain ⟨v, e1, e2⟩ := r.at_ i r' e
    exact ⟨v, e1, h g rfl .refl s v e2⟩
  · exact h.elim
theorem de_c {e : Expr} {x : At} (h : PE X e (tC x.v)) : DE X C W e (mC x) := by
  refine weaken h fun σ H Q h => ?_
  obtain ⟨b, g, ρ, rfl, s, r, h⟩ := h
  exact h g rfl .refl s x.v (by simp only [RelR, Rel])
theorem de_int {i j pos} : DE X C W (.Constant (.int i) j pos) (mC (.int i)) := de_c pe_int
theorem de_bl {i j pos} : DE X C W (.Constant (.bool i) j pos) (mC (.bl i)) := de_c pe_bl
theorem de_non {j pos} : DE X C W (.Constant .none j pos) (mC .non) := de_c pe_non
theorem de_str {i j pos} : DE X C W (.Constant (.str i) j pos) (mC (.str i)) := de_c pe_str
/-- a module's constant -/
theorem de_glob {x : Str} {a : At} {u : Value} {pos : Pos} (hg : Gl X x) (hm : X.mg x = some u) (r : RelV a.v u) (hd : (x == ("__debug__" : Str)) = false := by decide) : DE X C W (.Name x pos) (mC a) := de_c (pe_glob hg hm r hd)

/-! ### two-place operators -/
def mBin (f : R → R → Sto → Option (R × Sto)) (ma mb : ME) : ME := fun b ρ S => (ma b ρ S).bind fun x S1 => (mb b ρ S1).bind fun y S2 => .ofO (f x y S2)
variable {a c : Expr} {ma mb mc : ME} {pos : Pos}
theorem bin_lift {K : PySem.W.Frag} {f : R → R → Sto → Option (R × Sto)} {σ : L2.St} {H : Hp} {Q : VK} (h : liftE K C W (mBin f ma mb) σ H Q) : tOp (liftO K C f) (liftE K C W ma) (liftE K C W mb) σ H Q := by
  obtain ⟨b, g, ρ, rfl, s, r, h⟩ := h
  refine ⟨b, g, ρ, rfl, s, r, h.bind.mono fun x g1 x1 s1 h1 v rv => ?_⟩
  refine ⟨b, g1, ρ, rfl, s1, r.mono s.so x1, h1.bind.mono fun y g2 x2 s2 h2 u ru => ?_⟩
  exact ⟨b, g2, x, y, rfl, s2, rv.mono s1.so x2, ru, .of h2⟩
theorem de_op {op : Operator} {f : R → R → Sto → Option (R × Sto)} (ho : OpR X (binaryOp op) (liftO X.K C f)) (ha : DE X C W a ma) (hb : DE X C W c mb) : DE X C W (.BinOp a op c pos) (mBin f ma mb) :=
  weaken (pe_op ho ha hb) fun _ _ _ h => bin_lift h
theorem de_cmp {op : CmpOp} {f : R → R → Sto → Option (R × Sto)} (ho : OpR X (compareOp op) (liftO X.K C f)) (ha : DE X C W a ma) (hb : DE X C W c mb) (hm : behindInMarks op c = false := by first | rfl | exact nomark _) :
    DE X C W (.Compare a [op] [c] pos) (mBin f ma mb) := weaken (pe_cmpR ho ha hb hm) fun _ _ _ h => bin_lift h
/-- the bool that a value is -/
def mB (m : ME) : MT := fun b ρ S => (m b ρ S).bind fun x S1 => match x with
  | .d (.lf (.bl k)) => .ok k S1
  | _ => .bad
theorem test_lift {K : PySem.W.Frag} {m : ME} {σ : L2.St} {H : Hp} {Q : Bool → Hp → Prop} (h : liftT K C W (mB m) σ H Q) : liftE K C W m σ H fun x H' => ∃ k, x = .bl k ∧ Q k H' := by
  obtain ⟨b, g, ρ, rfl, s, r, h⟩ := h
  refine ⟨b, g, ρ, rfl, s, r, h.bind.mono fun x g1 x1 s1 h1 v rv => ?_⟩
  split at h1
  · rename_i k
    simp only [RelR, Rel] at rv
    exact ⟨k, rv, h1 g1 rfl .refl s1⟩
  · exact h1.elim
theorem dt_cmp {op : CmpOp} {f : R → R → Sto → Option (R × Sto)} (ho : OpR X (compareOp op) (liftO X.K C f)) (ha : DE X C W a ma) (hb : DE X C W c mb) (hm : behindInMarks op c = false := by first | rfl | exact nomark _) :
    DT X C W (.Compare a [op] [c] pos) (mB (mBin f ma mb)) := weakenT (pt_cmpR ho ha hb hm) fun _ _ _ h => by
  obtain ⟨b, g, ρ, e, s, r, h⟩ := test_lift h
  exact bin_lift ⟨b, g, ρ, e, s, r, h⟩
/-- a value that is a bool, as a test -/
theorem dt_val {e : Expr} {m : ME} (h : DE X C W e m) (he : ∀ whole, isTrue e X.env whole = (do let v ← whole; standAt e.pos; holding [v] (truthy v)) := by intro _; rfl) : DT X C W e (mB m) :=
  weakenT (pt_val h he) fun _ _ _ h => test_lift h
/-! ### and, or, not -/
def mNot (t : MT) : MT := fun b ρ S => (t b ρ S).bind fun k S1 => .ok (!k) S1
def mAnd (t u : MT) : MT := fun b ρ S => (t b ρ S).bind fun k S1 => if k = true then u b ρ S1 else .ok false S1
def mOr (t u : MT) : MT := fun b ρ S => (t b ρ S).bind fun k S1 => if k = true then .ok true S1 else u b ρ S1
abbrev DW (X : Cx) (C : DC) (W : WX) (e : Expr) (m : MT) : Prop := PW X e (liftT X.K C W m)
variable {t u : MT} {rest : List Expr}
theorem dt_not (h : DT X C W a t) : DT X C W (.UnaryOp .Not a pos) (mNot t) := weakenT (pt_not h) fun σ H Q h => by
  obtain ⟨b, g, ρ, rfl, s, r, h⟩ := h
  exact ⟨b, g, ρ, rfl, s, r, h.bind.mono fun k g1 x1 s1 h1 => h1 g1 rfl .refl s1⟩
theorem dw_and1 (h : DT X C W a t) : DW X C W (.BoolOp .And [a] pos) t := pw_and1 h
theorem dw_or1 (h : DT X C W a t) : DW X C W (.BoolOp .Or [a] pos) t := pw_or1 h
theorem dw_and (ha : DT X C W a t) (hb : DW X C W (.BoolOp .And (c :: rest) pos) u) : DW X C W (.BoolOp .And (a :: c :: rest) pos) (mAnd t u) := weakenW (pw_and ha hb) fun σ H Q h => by
  obtain ⟨b, g, ρ, rfl, s, r, h⟩ := h
  refine ⟨b, g, ρ, rfl, s, r, h.bind.mono fun k g1 x1 s1 h1 => ?_⟩
  cases k with
  | true => exact iteT ⟨b, g1, ρ, rfl, s1, r.mono s.so x1, h1⟩
  | false => exact iteF (h1 g1 rfl .refl s1)
theorem dw_or (ha : DT X C W a t) (hb : DW X C W (.BoolOp .Or (c :: rest) pos) u) : DW X C W (.BoolOp .Or (a :: c :: rest) pos) (mOr t u) := weakenW (pw_or ha hb) fun σ H Q h => by
  obtain ⟨b, g, ρ, rfl, s, r, h⟩ := h
  refine ⟨b, g, ρ, rfl, s, r, h.bind.mono fun k g1 x1 s1 h1 => ?_⟩
  cases k with
  | true => exact iteT (h1 g1 rfl .refl s1)
  | false => exact iteF ⟨b, g1, ρ, rfl, s1, r.mono s.so x1, h1⟩
theorem dw_t (h : DW X C W a t) : DT X C W a t := h.pt
/-- .. as values (all but the last bools) -/
def mAndV (ma mb : ME) : ME := fun b ρ S => (ma b ρ S).bind fun x S1 => match x with
  | .d (.lf (.bl true)) => mb b ρ S1
  | .d (.lf (.bl false)) => .ok (.bl false) S1
  | _ => .bad
def mOrV (ma mb : ME) : ME := fun b ρ S => (ma b ρ S).bind fun x S1 => match x with
  | .d (.lf (.bl true)) => .ok (.bl true) S1
  | .d (.lf (.bl false)) => mb b ρ S1
  | _ => .bad
def mNotV (ma : ME) : ME := fun b ρ S => (ma b ρ S).bind fun x S1 => match x with
  | .d (.lf (.bl k)) => .ok (.bl (!k)) S1
  | _ => .bad
theorem rel_bl {K : PySem.W.Frag} {g : Cfg} {k : Bool} {v : V} : RelR K C g (.d (.lf (.bl k))) v ↔ v = .bl k := by simp only [RelR, Rel, At.v]
theorem de_one {op} (h : DE X C W a ma) : DE X C W (.BoolOp op [a] pos) ma := pe_one h
theorem de_and (ha : DE X C W a ma) (hb : DE X C W (.BoolOp .And (c :: rest) pos) mb) : DE X C W (.BoolOp .And (a :: c :: rest) pos) (mAndV ma mb) := weaken (pe_and ha hb) fun σ H Q h => by
  obtain ⟨b, g, ρ, rfl, s, r, h⟩ := h
  refine ⟨b, g, ρ, rfl, s, r, h.bind.mono fun x g1 x1 s1 h1 v rv => ?_⟩
  split at h1
  · exact ⟨true, rel_bl.mp rv, iteT ⟨b, g1, ρ, rfl, s1, r.mono s.so x1, h1⟩⟩
  · exact ⟨false, rel_bl.mp rv, iteF (h1 g1 rfl .refl s1 _ (rel_bl.mpr rfl))⟩
  · exact h1.elim
theorem de_or (ha : DE X C W a ma) (hb : DE X C W (.BoolOp .Or (c :: rest) pos) mb) : DE X C W (.BoolOp .Or (a :: c :: rest) pos) (mOrV ma mb) := weaken (pe_or ha hb) fun σ H Q h => by
  obtain ⟨b, g, ρ, rfl, s, r, h⟩ := h
  refine ⟨b, g, ρ, rfl, s, r, h.bind.mono fun x g1 x1 s1 h1 v rv => ?_⟩
  split at h1
  · exact ⟨true, rel_bl.mp rv, iteT (h1 g1 rfl .refl s1 _ (rel_bl.mpr rfl))⟩
  · exact ⟨false, rel_bl.mp rv, iteF ⟨b, g1, ρ, rfl, s1, r.mono s.so x1, h1⟩⟩
  · exact h1.elim
theorem de_not (ha : DE X C W a ma) : DE X C W (.UnaryOp .Not a pos) (mNotV ma) := weaken (pe_not ha) fun σ H Q h => by
  obtain ⟨b, g, ρ, rfl, s, r, h⟩ := h
  refine ⟨b, g, ρ, rfl, s, r, h.bind.mono fun x g1 x1 s1 h1 v rv => ?_⟩
  split at h1
  · rename_i k
    exact ⟨k, rel_bl.mp rv, h1 g1 rfl .refl s1 _ (rel_bl.mpr rfl)⟩
  · exact h1.elim
/-- a if t else b -/
def mIf (t : MT) (ma mb : ME) : ME := fun b ρ S => (t b ρ S).bind fun k S1 => if k = true then ma b ρ S1 else mb b ρ S1
theorem de_ifExp {e : Expr} (hc : DT X C W e t) (ha : DE X C W a ma) (hb : DE X C W c mb) : DE X C W (.IfExp e a c pos) (mIf t ma mb) := weaken (pe_ifExp hc ha hb) fun σ H Q h => by
  obtain ⟨b, g, ρ, rfl, s, r, h⟩ := h
  refine ⟨b, g, ρ, rfl, s, r, h.bind.mono fun k g1 x1 s1 h1 => ?_⟩
  cases k with
  | true => exact iteT ⟨b, g1, ρ, rfl, s1, r.mono s.so x1, h1⟩
  | false => exact iteF ⟨b, g1, ρ, rfl, s1, r.mono s.so x1, h1⟩

/-! ### argument lists -/
def mNil : MA := fun _ _ S => .ok [] S
def mCons (ma : ME) (mr : MA) : MA := fun b ρ S => (ma b ρ S).bind fun x S1 => (mr b ρ S1).bind fun xs S2 => .ok (x :: xs) S2
theorem da_nil : DA X C W [] mNil := weakenA pa_nil fun σ H Q h => by
  obtain ⟨b, g, ρ, rfl, s, r, h⟩ := h
  exact h g rfl .refl s [] rfl
theorem da_cons {es : List Expr} {mr : MA} (ha : DE X C W a ma) (hr : DA X C W es mr) (hs : starEach (a :: es) X.env = (false, eval a X.env) :: starEach es X.env := by rfl) : DA X C W (a :: es) (mCons ma mr) :=
  weakenA (pa_cons ha hr hs) fun σ H Q h => by
    obtain ⟨b, g, ρ, rfl, s, r, h⟩ := h
    refine ⟨b, g, ρ, rfl, s, r, h.bind.mono fun x g1 x1 s1 h1 v rv => ?_⟩
    refine ⟨b, g1, ρ, rfl, s1, r.mono s.so x1, h1.bind.mono fun xs g2 x2 s2 h2 vs rvs => ?_⟩
    exact h2 g2 rfl .refl s2 (v :: vs) ⟨v, vs, rfl, rv.mono s1.so x2, rvs⟩
end
end DL

set_option maxHeartbeats 1000000
/-! DL3: new objects, operators, subscripts, built-ins on data. -/
namespace DL
open PySem PySem.Spec PyProof.Rows L2

/-! ### a new object -/
def Cfg.up (g : Cfg) (p : Addr) (o : HO) : Cfg := { g with H := upd g.H p o }
section
variable {K : PySem.W.Frag} {C : DC} {b : Nat} {g : Cfg} {p : Addr} {o : HO}
theorem Gd.notmu (s : Gd K C b g) (hp : g.H p = none) : ¬ g.mu p := fun m => by
  obtain ⟨o, e⟩ := s.so.live p m
  rw [hp] at e; cases e
theorem Gd.notio (s : Gd K C b g) (hp : g.H p = none) (l : Nat) : g.io[l]? ≠ some (some p) := fun e => s.notmu hp (s.so.iomu l p e)
theorem Ext.up (hp : g.H p = none) : Ext b g (g.up p o) :=
  ⟨fun _ _ e => .inl e, fun _ _ e => .inl e, fun a u e _ => by
    show upd g.H p o a = some u
    rw [upd_ne (ne_of_none e hp)]; exact e, fun a u e => ⟨u, by
    show upd g.H p o a = some u
    rw [upd_ne (ne_of_none e hp)]; exact e⟩, fun _ _ _ h => h, fun _ _ _ h _ => h, fun _ _ h => h⟩
theorem MutAt.up {H : Hp} {a : Addr} {vs : List V} (hp : H p = none) : ∀ {k : Kd}, MutAt C H a k vs → MutAt C (upd H p o) a k vs
  | .lst, e => by
    show upd H p o a = _
    rw [upd_ne (ne_of_none e hp)]; exact e
  | .obj c, ⟨dx, e⟩ => ⟨dx, by rw [upd_ne (ne_of_none e hp)]; exact e⟩
  | .dct ks, ⟨l, e⟩ => ⟨l, by rw [upd_ne (ne_of_none e hp)]; exact e⟩
theorem ObR.up (s : SoR K C g) (hp : g.H p = none) : ∀ {oa : Option Addr} {ob : Ob}, ObR K C g oa ob → ObR K C (g.up p o) oa ob
  | some a, .box k rs, ⟨m, vs, e1, e2⟩ => ⟨m, vs, e1.up hp, e2.mono s (Ext.up (b := 0) hp)⟩
  | none, .dead, _ => True.intro
  | some _, .dead, h => h
  | none, .box _ _, h => h
theorem Gd.up (s : Gd K C b g) (hp : g.H p = none) : Gd K C b (g.up p o) := by
  refine ⟨⟨s.so.len, s.so.inj, fun l oa ob e1 e2 => (s.so.ob l oa ob e1 e2).up s.so hp, fun a m => ?_⟩, s.cl, s.le⟩
  obtain ⟨u, e⟩ := s.so.live a m
  exact ⟨u, by
    show upd g.H p o a = some u
    rw [upd_ne (ne_of_none e hp)]; exact e⟩
/-- a new box of the store -/
def Cfg.mk' (g : Cfg) (p : Addr) (o : HO) (ob : Ob) : Cfg := { io := g.io ++ [some p], mu := fun a => a = p ∨ g.mu a, H := upd g.H p o, S := g.S ++ [ob] }
theorem Ext.mk' (s : Gd K C b g) (hp : g.H p = none) {ob : Ob} : Ext b g (g.mk' p o ob) := by
  refine ⟨fun l oa e => .inl ?_, fun l a e => ?_, fun a u e _ => ?_, fun a u e => ⟨u, ?_⟩, fun a u e h => ?_, fun a u e h _ => .inr h, fun c hc h => ?_⟩
  · show (g.io ++ [some p])[l]? = some oa
    rw [List.getElem?_append_left (List.getElem?_eq_some_iff.mp e).1]; exact e
  · have e : (g.io ++ [some p])[l]? = some (some a) := e
    by_cases hl : l < g.io.length
    · rw [List.getElem?_append_left hl] at e; exact .inl e
    · rw [List.getElem?_append_right (by omega)] at e
      have e' := List.mem_of_getElem? e
      rw [List.mem_singleton] at e'
      cases e'
      exact .inr hp
  · show upd g.H p o a = some u
    rw [upd_ne (ne_of_none e hp)]; exact e
  · show upd g.H p o a = some u
    rw [upd_ne (ne_of_none e hp)]; exact e
  · rintro (z | z)
    · subst z; rw [hp] at e; cases e
    · exact h z
  · intro l k rs l' hl e hm
    have e : (g.S ++ [ob])[l]? = some (.box k rs) := e
    rw [List.getElem?_append_left (by have := s.le; omega)] at e
    exact h l k rs l' hl e hm
theorem Gd.mk' (s : Gd K C b g) (hp : g.H p = none) {k : Kd} {rs : List R} {vs : List V} (hm : MutAt C (upd g.H p o) p k vs) (rr : RelRs K C g rs vs) : Gd K C b (g.mk' p o (.box k rs)) := by
  have x := Ext.mk' (o := o) s hp (ob := .box k rs)
  refine ⟨⟨?_, fun i j a e1 e2 => ?_, fun l oa ob e1 e2 => ?_, fun a m => ?_⟩, x.clean b (Nat.le_refl _) s.cl, ?_⟩
  · show (g.io ++ [some p]).length = (g.S ++ [Ob.box k rs]).length
    rw [List.length_append, List.length_append, s.so.len]; rfl
  · have e1 : (g.io ++ [some p])[i]? = some (some a) := e1
    have e2 : (g.io ++ [some p])[j]? = some (some a) := e2
    have hi : i < g.io.length + 1 := by have := (List.getElem?_eq_some_iff.mp e1).1; simpa using this
    have hj : j < g.io.length + 1 := by have := (List.getElem?_eq_some_iff.mp e2).1; simpa using this
    by_cases h1 : i < g.io.length
    · rw [List.getElem?_append_left h1] at e1
      by_cases h2 : j < g.io.length
      · rw [List.getElem?_append_left h2] at e2
        exact s.so.inj i j a e1 e2
      · rw [List.getElem?_append_right (by omega)] at e2
        have e' := List.mem_of_getElem? e2
        rw [List.mem_singleton] at e'
        cases e'
        exact absurd e1 (s.notio hp i)
    · by_cases h2 : j < g.io.length
      · rw [List.getElem?_append_left h2] at e2
        rw [List.getElem?_append_right (by omega)] at e1
        have e' := List.mem_of_getElem? e1
        rw [List.mem_singleton] at e'
        cases e'
        exact absurd e2 (s.notio hp j)
      · omega
  · have e1 : (g.io ++ [some p])[l]? = some oa := e1
    have e2 : (g.S ++ [Ob.box k rs])[l]? = some ob := e2
    by_cases hl : l < g.io.length
    · rw [List.getElem?_append_left hl] at e1
      rw [List.getElem?_append_left (by rw [← s.so.len]; exact hl)] at e2
      have h := s.so.ob l oa ob e1 e2
      cases oa with
      | none => cases ob with
        | dead => exact True.intro
        | box _ _ => exact h
      | some a => cases ob with
        | dead => exact h
        | box k' rs' =>
          obtain ⟨m, vs', e3, e4⟩ := h
          exact ⟨.inr m, vs', e3.up hp, e4.mono s.so x⟩
    · rw [List.getElem?_append_right (by omega)] at e1
      rw [List.getElem?_append_right (by rw [← s.so.len]; omega)] at e2
      have e1' := List.mem_of_getElem? e1
      have e2' := List.mem_of_getElem? e2
      rw [List.mem_singleton] at e1' e2'
      cases e1'; cases e2'
      exact ⟨.inl rfl, vs, hm, rr.mono s.so x⟩
  · rcases m with m | m
    · subst m
      exact ⟨o, upd_same⟩
    · obtain ⟨u, e⟩ := s.so.live a m
      exact ⟨u, by
        show upd g.H p o a = some u
        rw [upd_ne (ne_of_none e hp)]; exact e⟩
  · show b ≤ (g.S ++ [Ob.box k rs]).length
    rw [List.length_append]; have := s.le; omega
end

/-! ### a new list, a new tuple -/
def unD : List R → Option (List D)
  | [] => some []
  | .d x :: r => (unD r).map (x :: ·)
  | .loc _ :: _ => none
theorem unD_map : ∀ ds : List D, unD (ds.map .d) = some ds
  | [] => rfl
  | x :: r => by
    show (unD (r.map .d)).map (x :: ·) = _
    rw [unD_map r]; rfl
theorem unD_eq : ∀ {rs : List R} {ds : List D}, unD rs = some ds → rs = ds.map .d
  | [], ds, e => by cases e; rfl
  | .d x :: r, ds, e => by
    have e : (unD r).map (x :: ·) = some ds := e
    cases q : unD r with
    | none => rw [q] at e; cases e
    | some y =>
      rw [q] at e
      cases e
      rw [unD_eq q]; rfl
  | .loc _ :: _, _, e => nomatch e
/-- a new list: a box of the store (m), or pure data -/
def newL (m : Bool) (rs : List R) (S : Sto) : Option (R × Sto) :=
  if m = true then some (.loc S.length, S ++ [.box .lst rs]) else (unD rs).map fun ds => (.lst ds, S)
def newT (rs : List R) (S : Sto) : Option (R × Sto) := (unD rs).map fun ds => (.tup ds, S)
section
variable {K : PySem.W.Frag} {C : DC} {b : Nat} {g : Cfg} {p : Addr} {Q : VK} {rs : List R} {vs : List V}
theorem newL_ok {m : Bool} (s : Gd K C b g) (rr : RelRs K C g rs vs) (h : OkO K C b g (newL m rs g.S) fun r g' => ∀ v, RelR K C g' r v → Q v g'.H) (hp : g.H p = none) : Q (.ref p) (upd g.H p (.lst vs)) := by
  unfold newL at h
  cases m with
  | true =>
    rw [if_pos rfl] at h
    refine h (g.mk' p (.lst vs) (.box .lst rs)) rfl (Ext.mk' s hp) (s.mk' hp (show upd g.H p _ p = _ from upd_same) rr) (.ref p) ⟨some p, ?_, fun a e => by cases e; rfl⟩
    show (g.io ++ [some p])[g.S.length]? = some (some p)
    rw [← s.so.len, List.getElem?_append_right (Nat.le_refl _), Nat.sub_self]; rfl
  | false =>
    rw [if_neg Bool.false_ne_true] at h
    cases q : unD rs with
    | none => rw [q] at h; exact h.elim
    | some ds =>
      rw [q] at h
      have e := unD_eq q
      subst e
      refine h (g.up p (.lst vs)) rfl (Ext.up hp) (s.up hp) (.ref p) ?_
      simp only [RelR, Rel]
      refine ⟨p, vs, rfl, ⟨s.notmu hp, upd_same⟩, ?_⟩
      exact RelRs.to_rels ds (rr.mono s.so (Ext.up (b := b) (o := .lst vs) hp))
theorem newT_ok (s : Gd K C b g) (rr : RelRs K C g rs vs) (h : OkO K C b g (newT rs g.S) fun r g' => ∀ v, RelR K C g' r v → Q v g'.H) (hp : g.H p = none) : Q (.ref p) (upd g.H p (.tup vs)) := by
  unfold newT at h
  cases q : unD rs with
  | none => rw [q] at h; exact h.elim
  | some ds =>
    rw [q] at h
    have e := unD_eq q
    subst e
    refine h (g.up p (.tup vs)) rfl (Ext.up hp) (s.up hp) (.ref p) ?_
    simp only [RelR, Rel]
    refine ⟨p, vs, rfl, .inl ⟨s.notmu hp, upd_same⟩, ?_⟩
    exact RelRs.to_rels ds (rr.mono s.so (Ext.up (b := b) (o := .tup vs) hp))
/-- the same object again -/
theorem same_ok {r : R} {v : V} (s : Gd K C b g) (rr : RelR K C g r v) (h : OkO K C b g (some (r, g.S)) fun r g' => ∀ v, RelR K C g' r v → Q v g'.H) : Q v g.H := h g rfl .refl s v rr
end

/-! ### what lists and tuples hold -/
def viewL (r : R) (S : Sto) : Option (List R) :=
  match r with
  | .d (.box .lst ds) => some (ds.map .d)
  | .d (.box .lck ds) => some (ds.map .d)
  | .loc l => match S[l]? with
    | some (.box .lst rs) => some rs
    | _ => none
  | _ => none
/-- .. of a list that stands by itself -/
def viewM (r : R) (S : Sto) : Option (List R) :=
  match r with
  | .d (.box .lst ds) => some (ds.map .d)
  | .loc l => match S[l]? with
    | some (.box .lst rs) => some rs
    | _ => none
  | _ => none
def viewT (r : R) : Option (List D) :=
  match r with
  | .d (.box .tup ds) => some ds
  | _ => none
def viewQ (r : R) (S : Sto) : Option (List R) :=
  match r with
  | .d (.box .tup ds) => some (ds.map .d)
  | _ => viewL r S
section
variable {K : PySem.W.Frag} {C : DC} {b : Nat} {g : Cfg}
theorem SoR.box {l : Nat} {k : Kd} {rs : List R} {v : V} (s : SoR K C g) (e : g.S[l]? = some (.box k rs)) (r : RelR K C g (.loc l) v) : ∃ a vs, v = .ref a ∧ g.io[l]? = some (some a) ∧ g.mu a ∧ MutAt C g.H a k vs ∧ RelRs K C g rs vs := by
  obtain ⟨oa, e1, e2⟩ := r
  have h := s.ob l oa _ e1 e
  cases oa with
  | none => exact h.elim
  | some a =>
    obtain ⟨m, vs, e3, e4⟩ := h
    exact ⟨a, vs, e2 a rfl, e1, m, e3, e4⟩
theorem viewM_ok {r : R} {rs : List R} {v : V} (s : SoR K C g) (e : viewM r g.S = some rs) (rr : RelR K C g r v) : ∃ a vs, v = .ref a ∧ g.H a = some (.lst vs) ∧ RelRs K C g rs vs := by
  unfold viewM at e
  split at e
  · cases e
    simp only [RelR, Rel] at rr
    obtain ⟨a, vs, e1, ⟨_, e2⟩, e3⟩ := rr
    exact ⟨a, vs, e1, e2, .of_rels _ e3⟩
  · split at e
    · rename_i q
      cases e
      obtain ⟨a, vs, e1, _, _, e2, e3⟩ := s.box q rr
      exact ⟨a, vs, e1, e2, e3⟩
    · cases e
  · cases e
theorem viewL_ok {r : R} {rs : List R} {v : V} (s : SoR K C g) (e : viewL r g.S = some rs) (rr : RelR K C g r v) : ∃ a vs, v = .ref a ∧ SqL K g.H a vs ∧ RelRs K C g rs vs := by
  unfold viewL at e
  split at e
  · cases e
    simp only [RelR, Rel] at rr
    obtain ⟨a, vs, e1, ⟨_, e2⟩, e3⟩ := rr
    exact ⟨a, vs, e1, .of e2, .of_rels _ e3⟩
  · cases e
    simp only [RelR, Rel] at rr
    obtain ⟨a, vs, e1, e2, e3⟩ := rr
    exact ⟨a, vs, e1, e2.imp (fun z => z.2) fun z => z, .of_rels _ e3⟩
  · split at e
    · rename_i q
      cases e
      obtain ⟨a, vs, e1, _, _, e2, e3⟩ := s.box q rr
      exact ⟨a, vs, e1, .of e2, e3⟩
    · cases e
  · cases e
theorem viewT_ok {r : R} {ds : List D} {v : V} (e : viewT r = some ds) (rr : RelR K C g r v) : ∃ a vs, v = .ref a ∧ SqT K g.H a vs ∧ Rels K C (fzn g.mu) g.H ds vs := by
  unfold viewT at e
  split at e
  · cases e
    simp only [RelR, Rel] at rr
    obtain ⟨a, vs, e1, e2, e3⟩ := rr
    exact ⟨a, vs, e1, e2.imp (fun z => .inl z.2) fun z => z, e3⟩
  · cases e
theorem viewQ_ok {r : R} {rs : List R} {v : V} (s : SoR K C g) (e : viewQ r g.S = some rs) (rr : RelR K C g r v) : ∃ a vs, v = .ref a ∧ (SqL K g.H a vs ∨ SqT K g.H a vs) ∧ RelRs K C g rs vs := by
  unfold viewQ at e
  split at e
  · cases e
    obtain ⟨a, vs, e1, e2, e3⟩ := viewT_ok (K := K) (C := C) (g := g) (ds := _) rfl rr
    exact ⟨a, vs, e1, .inr e2, .of_rels _ e3⟩
  · obtain ⟨a, vs, e1, e2, e3⟩ := viewL_ok s e rr
    exact ⟨a, vs, e1, .inl e2, e3⟩
theorem rel_int {i : Int} {v : V} : RelR K C g (.d (.lf (.int i))) v ↔ v = .int i := by simp only [RelR, Rel, At.v]
theorem rel_str {i : Str} {v : V} : RelR K C g (.d (.lf (.str i))) v ↔ v = .str i := by simp only [RelR, Rel, At.v]
theorem rel_non {v : V} : RelR K C g (.d (.lf .non)) v ↔ v = .non := by simp only [RelR, Rel, At.v]
theorem rel_lf {x : At} {v : V} : RelR K C g (.d (.lf x)) v ↔ v = x.v := by simp only [RelR, Rel]
end
/-! ### displays -/
def mLst (m : Bool) (ma : MA) : ME := fun b ρ S => (ma b ρ S).bind fun rs S1 => if rs.length ≤ sizeLine then .ofO (newL m rs S1) else .bad
def mTup (ma : MA) : ME := fun b ρ S => (ma b ρ S).bind fun rs S1 => if rs.length ≤ sizeLine then .ofO (newT rs S1) else .bad
section
variable {X : Cx} {C : DC} {W : WX} {es : List Expr} {ma : MA} {pos : Pos}
theorem de_lst (m : Bool) (h : DA X C W es ma) : DE X C W (.List es pos) (mLst m ma) := weaken (pe_lst h) fun σ H Q h => by
  obtain ⟨b, g, ρ, rfl, s, r, h⟩ := h
  refine ⟨b, g, ρ, rfl, s, r, h.bind.mono fun rs g1 x1 s1 h1 vs rr => ?_⟩
  split at h1
  · rename_i hz
    exact ⟨by rw [← rr.len]; exact hz, fun p hp => newL_ok s1 rr (OkO.of h1) hp⟩
  · exact h1.elim
theorem de_tup {x1} (h : DA X C W es ma) : DE X C W (.Tuple es x1 pos) (mTup ma) := weaken (pe_tup h) fun σ H Q h => by
  obtain ⟨b, g, ρ, rfl, s, r, h⟩ := h
  refine ⟨b, g, ρ, rfl, s, r, h.bind.mono fun rs g1 x1 s1 h1 vs rr => ?_⟩
  split at h1
  · rename_i hz
    exact ⟨by rw [← rr.len]; exact hz, fun p hp => newT_ok s1 rr (OkO.of h1) hp⟩
  · exact h1.elim
end

/-! ### operators -/
abbrev F2 := R → R → Sto → Option (R × Sto)
def addO (m : Bool) : F2 := fun x y S => match x, y with
  | .d (.lf (.int i)), .d (.lf (.int j)) => some (.int (i + j), S)
  | .d (.lf (.str i)), .d (.lf (.str j)) => if i.length + j.length ≤ sizeLine then some (.str (i ++ j), S) else none
  | .d (.box .tup xs), .d (.box .tup ys) => if xs.length + ys.length ≤ sizeLine then some (.tup (xs ++ ys), S) else none
  | x, y => match viewM x S, viewM y S with
    | some rs, some ss => if rs.length + ss.length ≤ sizeLine then newL m (rs ++ ss) S else none
    | _, _ => none
def subO : F2 := fun x y S => match x, y with
  | .d (.lf (.int i)), .d (.lf (.int j)) => some (.int (i - j), S)
  | _, _ => none
def mulOk (i j : Int) : Bool := decide (i.natAbs.log2 + j.natAbs.log2 < 1000000)
theorem mulOk_ok {i j : Int} (h : mulOk i j = true) : CMulW i j := by
  unfold mulOk at h
  unfold CMulW
  exact of_decide_eq_true h
def mulO (m : Bool) : F2 := fun x y S => match x, y with
  | .d (.lf (.int i)), .d (.lf (.int j)) => if mulOk i j = true then some (.int (i * j), S) else none
  | x, .d (.lf (.int k)) => match viewM x S with
    | some rs => if -(2 ^ 63) ≤ k ∧ k < 2 ^ 63 ∧ rs.length * k.toNat ≤ sizeLine then newL m (List.replicate k.toNat rs).flatten S else none
    | none => none
  | _, _ => none
def divO : F2 := fun x y S => match x, y with
  | .d (.lf (.int i)), .d (.lf (.int j)) => if 0 < j ∧ j.natAbs.log2 < 9000 then some (.int (i / j), S) else none
  | _, _ => none
def modO : F2 := fun x y S => match x, y with
  | .d (.lf (.int i)), .d (.lf (.int j)) => if 0 < j then some (.int (i % j), S) else none
  | _, _ => none
def powO : F2 := fun x y S => match x, y with
  | .d (.lf (.int i)), .d (.lf (.int j)) => if 0 ≤ j ∧ j ≤ 1000000 ∧ i.natAbs < 2 ^ 64 then some (.int (i ^ j.toNat), S) else none
  | _, _ => none
def cmpO (f : Int → Int → Bool) : F2 := fun x y S => match x, y with
  | .d (.lf (.int i)), .d (.lf (.int j)) => some (.bl (f i j), S)
  | _, _ => none
section
variable {X : Cx} {C : DC}
theorem relRs_flat {K : PySem.W.Frag} {g : Cfg} {rs : List R} {vs : List V} (r : RelRs K C g rs vs) : ∀ n : Nat, RelRs K C g (List.replicate n rs).flatten (List.replicate n vs).flatten
  | 0 => rfl
  | n + 1 => by
    rw [List.replicate_succ, List.replicate_succ, List.flatten_cons, List.flatten_cons]
    exact r.append (relRs_flat r n)
theorem o_add (m : Bool) : OpR X (binaryOp .Add) (liftO X.K C (addO m)) := by
  refine weakenR (orR op_add (orR op_add_str (orR op_catA op_cat))) fun x y H Q h => ?_
  obtain ⟨b, g, r1, r2, rfl, s, q1, q2, h⟩ := h
  unfold addO at h
  split at h
  · exact .inl ⟨_, _, rel_int.mp q1, rel_int.mp q2, same_ok s (rel_int.mpr rfl) h⟩
  · split at h
    · rename_i hz
      exact .inr (.inl ⟨_, _, rel_str.mp q1, rel_str.mp q2, hz, same_ok s (rel_str.mpr rfl) h⟩)
    · exact h.elim
  · rename_i xs ys
    split at h
    · rename_i hz
      obtain ⟨a, vs, e1, e2, e3⟩ := viewT_ok (K := X.K) (C := C) (g := g) (ds := xs) rfl q1
      obtain ⟨c, us, f1, f2, f3⟩ := viewT_ok (K := X.K) (C := C) (g := g) (ds := ys) rfl q2
      refine .inr (.inr (.inl ⟨a, c, vs, us, e1, f1, e2, f2, by rw [← e3.len, ← f3.len]; exact hz, fun z => ?_, fun _ z => ?_, fun _ _ p hp => ?_⟩))
      · subst z
        have : xs = [] := by cases xs with
          | nil => rfl
          | cons => have := e3.len; cases this
        subst this
        refine same_ok s ?_ h
        rw [← f1]; exact q2
      · subst z
        have : ys = [] := by cases ys with
          | nil => rfl
          | cons => have := f3.len; cases this
        subst this
        rw [List.append_nil] at h
        refine same_ok s ?_ h
        rw [← e1]; exact q1
      · refine newT_ok (rs := (xs ++ ys).map .d) (vs := vs ++ us) s ?_ ?_ hp
        · rw [List.map_append]
          exact (RelRs.of_rels _ e3).append (.of_rels _ f3)
        · unfold newT
          rw [unD_map]
          exact h
    · exact h.elim
  · split at h
    · rename_i rs ss e1 e2
      split at h
      · rename_i hz
        obtain ⟨a, vs, a1, a2, a3⟩ := viewM_ok s.so e1 q1
        obtain ⟨c, us, c1, c2, c3⟩ := viewM_ok s.so e2 q2
        exact .inr (.inr (.inr ⟨a, c, vs, us, a1, c1, a2, c2, by rw [← a3.len, ← c3.len]; exact hz, fun p hp => newL_ok s (a3.append c3) h hp⟩))
      · exact h.elim
    · exact h.elim
theorem o_sub : OpR X (binaryOp .Sub) (liftO X.K C subO) := by
  refine weakenR op_sub fun x y H Q h => ?_
  obtain ⟨b, g, r1, r2, rfl, s, q1, q2, h⟩ := h
  unfold subO at h
  split at h
  · exact ⟨_, _, rel_int.mp q1, rel_int.mp q2, same_ok s (rel_int.mpr rfl) h⟩
  · exact h.elim
theorem o_mul (m : Bool) : OpR X (binaryOp .Mult) (liftO X.K C (mulO m)) := by
  refine weakenR (orR op_mulW op_rep) fun x y H Q h => ?_
  obtain ⟨b, g, r1, r2, rfl, s, q1, q2, h⟩ := h
  unfold mulO at h
  split at h
  · split at h
    · rename_i hz
      exact .inl ⟨_, _, rel_int.mp q1, rel_int.mp q2, mulOk_ok hz, same_ok s (rel_int.mpr rfl) h⟩
    · exact h.elim
  · split at h
    · rename_i rs e1
      split at h
      · rename_i hz
        obtain ⟨a, vs, a1, a2, a3⟩ := viewM_ok s.so e1 q1
        exact .inr ⟨a, _, vs, a1, rel_int.mp q2, a2, hz.1, hz.2.1, by rw [← a3.len]; exact hz.2.2, fun p hp => newL_ok s (relRs_flat a3 _) h hp⟩
      · exact h.elim
    · exact h.elim
  · exact h.elim
theorem o_div : OpR X (binaryOp .FloorDiv) (liftO X.K C divO) := by
  refine weakenR op_fdivW fun x y H Q h => ?_
  obtain ⟨b, g, r1, r2, rfl, s, q1, q2, h⟩ := h
  unfold divO at h
  split at h
  · split at h
    · rename_i hz
      exact ⟨_, _, rel_int.mp q1, rel_int.mp q2, hz, same_ok s (rel_int.mpr rfl) h⟩
    · exact h.elim
  · exact h.elim
theorem o_mod : OpR X (binaryOp .Mod) (liftO X.K C modO) := by
  refine weakenR op_mod fun x y H Q h => ?_
  obtain ⟨b, g, r1, r2, rfl, s, q1, q2, h⟩ := h
  unfold modO at h
  split at h
  · split at h
    · rename_i hz
      exact ⟨_, _, rel_int.mp q1, rel_int.mp q2, hz, same_ok s (rel_int.mpr rfl) h⟩
    · exact h.elim
  · exact h.elim
theorem o_pow : OpR X (binaryOp .Pow) (liftO X.K C powO) := by
  refine weakenR op_pow fun x y H Q h => ?_
  obtain ⟨b, g, r1, r2, rfl, s, q1, q2, h⟩ := h
  unfold powO at h
  split at h
  · split at h
    · rename_i hz
      exact ⟨_, _, rel_int.mp q1, rel_int.mp q2, hz, same_ok s (rel_int.mpr rfl) h⟩
    · exact h.elim
  · exact h.elim
theorem o_cmpI {op : CmpOp} {f : Int → Int → Bool} (h : OpR X (compareOp op) (rI0 fun i j => .bl (f i j))) : OpR X (compareOp op) (liftO X.K C (cmpO f)) := by
  refine weakenR h fun x y H Q h => ?_
  obtain ⟨b, g, r1, r2, rfl, s, q1, q2, h⟩ := h
  unfold cmpO at h
  split at h
  · exact ⟨_, _, rel_int.mp q1, rel_int.mp q2, same_ok s (rel_bl.mpr rfl) h⟩
  · exact h.elim
theorem o_lt : OpR X (compareOp .Lt) (liftO X.K C (cmpO fun i j => decide (i < j))) := o_cmpI op_lt
theorem o_le : OpR X (compareOp .LtE) (liftO X.K C (cmpO fun i j => decide (i ≤ j))) := o_cmpI op_le
theorem o_gt : OpR X (compareOp .Gt) (liftO X.K C (cmpO fun i j => decide (j < i))) := o_cmpI op_gt
theorem o_ge : OpR X (compareOp .GtE) (liftO X.K C (cmpO fun i j => decide (j ≤ i))) := o_cmpI op_ge
end
end DL

set_option maxHeartbeats 1000000
/-! DL4: ==, is, in, chains, subscripts, built-ins, methods of lists. -/
namespace DL
open PySem PySem.Spec PyProof.Rows L2

/-! ### == -/
mutual
def pdD : D → Option PyData
  | .lf .non => some .none
  | .lf (.bl b) => some (.bool b)
  | .lf (.int i) => some (.int i)
  | .lf (.str s) => some (.str s)
  | .box .tup xs => (pdDs xs).map .tuple
  | .box .lst xs => (pdDs xs).map .list
  | .box .lck xs => (pdDs xs).map .list
  | .box _ _ => none
def pdDs : List D → Option (List PyData)
  | [] => some []
  | x :: xs => match pdD x, pdDs xs with
    | some d, some ds => some (d :: ds)
    | _, _ => none
end
def allO {α β : Type} (f : α → Option β) : List α → Option (List β)
  | [] => some []
  | x :: xs => match f x, allO f xs with
    | some d, some ds => some (d :: ds)
    | _, _ => none
def snap : Nat → Sto → R → Option PyData
  | _, _, .d x => pdD x
  | 0, _, .loc _ => none
  | n + 1, S, .loc l => match S[l]? with
    | some (.box .lst rs) => (allO (snap n S) rs).map .list
    | _ => none
section
variable {K : PySem.W.Frag} {C : DC} {g : Cfg}
mutual
theorem pdD_ok {fz : Addr → Prop} {H : Hp} : ∀ (d : D) {e : PyData} {v : V}, pdD d = some e → Rel K C fz H d v → Dp K H v e
  | .lf .non, e, v, h, r => by
    simp only [pdD] at h
    simp only [Rel] at r
    cases h; subst r; exact .non
  | .lf (.bl b), e, v, h, r => by
    simp only [pdD] at h
    simp only [Rel] at r
    cases h; subst r; exact .bl b
  | .lf (.int b), e, v, h, r => by
    simp only [pdD] at h
    simp only [Rel] at r
    cases h; subst r; exact .int b
  | .lf (.str b), e, v, h, r => by
    simp only [pdD] at h
    simp only [Rel] at r
    cases h; subst r; exact .str b
  | .box .tup xs, e, v, h, r => by
    simp only [pdD, Option.map_eq_some_iff] at h
    simp only [Rel] at r
    obtain ⟨ds, h1, rfl⟩ := h
    obtain ⟨a, vs, rfl, e2, e3⟩ := r
    exact .tup (xs := vs) (e2.imp (fun z => .inl z.2) fun z => z) (pdDs_ok xs h1 e3)
  | .box .lst xs, e, v, h, r => by
    simp only [pdD, Option.map_eq_some_iff] at h
    simp only [Rel] at r
    obtain ⟨ds, h1, rfl⟩ := h
    obtain ⟨a, vs, rfl, e2, e3⟩ := r
    exact .lst (.of e2.2) (pdDs_ok xs h1 e3)
  | .box .lck xs, e, v, h, r => by
    simp only [pdD, Option.map_eq_some_iff] at h
    simp only [Rel] at r
    obtain ⟨ds, h1, rfl⟩ := h
    obtain ⟨a, vs, rfl, e2, e3⟩ := r
    exact .lst (xs := vs) (e2.imp (fun z => z.2) fun z => z) (pdDs_ok xs h1 e3)
  | .box (.obj _) xs, e, v, h, r => by simp only [pdD] at h; cases h
  | .box (.dct _) xs, e, v, h, r => by simp only [pdD] at h; cases h
theorem pdDs_ok {fz : Addr → Prop} {H : Hp} : ∀ (ds : List D) {es : List PyData} {vs : List V}, pdDs ds = some es → Rels K C fz H ds vs → DpAll K H vs es
  | [], es, vs, h, r => by
    simp only [pdDs] at h
    simp only [Rels] at r
    cases h; subst r; exact .nil
  | x :: xs, es, vs, h, r => by
    simp only [pdDs] at h
    simp only [Rels] at r
    obtain ⟨v, t, rfl, r1, r2⟩ := r
    split at h
    · rename_i d ds' q1 q2
      cases h
      exact .cons (pdD_ok x q1 r1) (pdDs_ok xs q2 r2)
    · cases h
end
theorem allO_ok {n : Nat} {S : Sto} (ih : ∀ (r : R) {e : PyData} {v : V}, snap n S r = some e → RelR K C g r v → Dp K g.H v e) : ∀ (rs : List R) {es : List PyData} {vs : List V}, allO (snap n S) rs = some es → RelRs K C g rs vs → DpAll K g.H vs es
  | [], es, vs, h, r => by
    cases h
    rw [show vs = [] from r]; exact .nil
  | x :: xs, es, vs, h, r => by
    simp only [allO] at h
    obtain ⟨v, t, rfl, r1, r2⟩ := r
    split at h
    · rename_i d ds' q1 q2
      cases h
      exact .cons (ih x q1 r1) (allO_ok ih xs q2 r2)
    · cases h
theorem snap_ok (s : SoR K C g) : ∀ (n : Nat) (r : R) {e : PyData} {v : V}, snap n g.S r = some e → RelR K C g r v → Dp K g.H v e
  | 0, .d x, e, v, h, r => pdD_ok x (by simpa only [snap] using h) r
  | _ + 1, .d x, e, v, h, r => pdD_ok x (by simpa only [snap] using h) r
  | 0, .loc _, e, v, h, r => by simp only [snap] at h; cases h
  | n + 1, .loc l, e, v, h, r => by
    simp only [snap] at h
    split at h
    · rename_i rs q
      rw [Option.map_eq_some_iff] at h
      obtain ⟨ds, h1, rfl⟩ := h
      obtain ⟨a, vs, rfl, _, _, e2, e3⟩ := s.box q r
      exact .lst (.of e2) (allO_ok (fun r {e v} => snap_ok s n r (e := e) (v := v)) rs h1 e3)
    · cases h
end
def eqAt : At → At → Bool
  | .non, .non => true
  | .bl a, .bl b => decide (a = b)
  | .bl a, .int j => (if a then 1 else 0) == j
  | .int i, .bl b => i == (if b then 1 else 0)
  | .int i, .int j => decide (i = j)
  | .str x, .str y => decide (x = y)
  | _, _ => false
def eqR (x y : R) (S : Sto) : Option Bool :=
  match x, y with
  | .d (.lf a), .d (.lf b) => some (eqAt a b)
  | x, y => match snap 8 S x, snap 8 S y with
    | some d, some e => if (SeqAt.shaped d && SeqAt.shaped e) = true then some (PyData.eqv d e) else none
    | _, _ => none
def eqO : F2 := fun x y S => (eqR x y S).map fun k => (.bl k, S)
def neO : F2 := fun x y S => (eqR x y S).map fun k => (.bl (!k), S)
section
variable {X : Cx} {C : DC}
theorem eqR_leaf {a b : At} : (scal a.v b.v = true ∧ decide (a.v = b.v) = eqAt a b) ∨ ∃ d e, (∀ (K : PySem.W.Frag) (H : Hp), Dp K H a.v d ∧ Dp K H b.v e) ∧ SeqAt.shaped d = true ∧ SeqAt.shaped e = true ∧ PyData.eqv d e = eqAt a b := by
  cases a <;> cases b <;> first
    | (left; exact ⟨rfl, by simp [At.v, eqAt]⟩)
    | (left; refine ⟨rfl, ?_⟩; simp [At.v, eqAt])
    | (right; exact ⟨_, _, fun K H => ⟨.bl _, .int _⟩, rfl, rfl, by simp [PyData.eqv, eqAt]⟩)
    | (right; exact ⟨_, _, fun K H => ⟨.int _, .bl _⟩, rfl, rfl, by simp [PyData.eqv, eqAt]⟩)
theorem o_eq (hu : X.A.units + 64 < cLine) : OpR X (compareOp .Eq) (liftO X.K C eqO) := by
  refine weakenR (orR op_eq (op_eqD hu)) fun x y H Q h => ?_
  obtain ⟨b, g, r1, r2, rfl, s, q1, q2, h⟩ := h
  unfold eqO eqR at h
  split at h
  · rename_i a c
    have f : Q (.bl (eqAt a c)) g.H := same_ok s (rel_bl.mpr rfl) h
    rw [rel_lf] at q1 q2
    subst q1 q2
    rcases eqR_leaf (a := a) (b := c) with ⟨e1, e2⟩ | ⟨d, e, e0, e1, e2, e3⟩
    · exact .inl ⟨e1, by rw [e2]; exact f⟩
    · exact .inr ⟨d, e, (e0 _ _).1, (e0 _ _).2, e1, e2, by rw [e3]; exact f⟩
  · split at h
    · rename_i d e e1 e2
      split at h
      · rename_i hz
        rw [Bool.and_eq_true] at hz
        exact .inr ⟨d, e, snap_ok s.so _ _ e1 q1, snap_ok s.so _ _ e2 q2, hz.1, hz.2, same_ok s (rel_bl.mpr rfl) h⟩
      · exact h.elim
    · exact h.elim
theorem o_ne (hu : X.A.units + 64 < cLine) : OpR X (compareOp .NotEq) (liftO X.K C neO) := by
  refine weakenR (orR op_ne (op_neD hu)) fun x y H Q h => ?_
  obtain ⟨b, g, r1, r2, rfl, s, q1, q2, h⟩ := h
  unfold neO eqR at h
  split at h
  · rename_i a c
    have f : Q (.bl (!eqAt a c)) g.H := same_ok s (rel_bl.mpr rfl) h
    rw [rel_lf] at q1 q2
    subst q1 q2
    rcases eqR_leaf (a := a) (b := c) with ⟨e1, e2⟩ | ⟨d, e, e0, e1, e2, e3⟩
    · exact .inl ⟨e1, by rw [e2]; exact f⟩
    · exact .inr ⟨d, e, (e0 _ _).1, (e0 _ _).2, e1, e2, by rw [e3]; exact f⟩
  · split at h
    · rename_i d e e1 e2
      split at h
      · rename_i hz
        rw [Bool.and_eq_true] at hz
        exact .inr ⟨d, e, snap_ok s.so _ _ e1 q1, snap_ok s.so _ _ e2 q2, hz.1, hz.2, same_ok s (rel_bl.mpr rfl) h⟩
      · exact h.elim
    · exact h.elim

/-! ### is -/
theorem op_isK : OpR X (compareOp .Is) fun x y H Q => ∃ k, y = .bl k ∧ Q (.bl (decide (x = .bl k))) H := by
  intro pins s σ H x y v u Q I rx ry h
  obtain ⟨k, rfl, q⟩ := h
  cases ry
  cases x with
  | non => cases rx; exact wpAny_pure ⟨.bl _, H, I, rfl, q⟩
  | bl j => cases rx; exact wpAny_pure ⟨.bl _, H, I, by cases j <;> cases k <;> rfl, q⟩
  | int _ => obtain ⟨t, rfl⟩ := rx; exact wpAny_pure ⟨.bl _, H, I, rfl, q⟩
  | str _ => obtain ⟨t, rfl⟩ := rx; exact wpAny_pure ⟨.bl _, H, I, rfl, q⟩
  | byt _ => obtain ⟨t, rfl⟩ := rx; exact wpAny_pure ⟨.bl _, H, I, rfl, q⟩
  | flt _ => obtain ⟨t, rfl⟩ := rx; exact wpAny_pure ⟨.bl _, H, I, rfl, q⟩
  | ref _ => cases rx; exact wpAny_pure ⟨.bl _, H, I, rfl, q⟩
  | ty _ => cases rx; exact wpAny_pure ⟨.bl _, H, I, rfl, q⟩
theorem op_isnotK : OpR X (compareOp .IsNot) fun x y H Q => ∃ k, y = .bl k ∧ Q (.bl (!decide (x = .bl k))) H := by
  intro pins s σ H x y v u Q I rx ry h
  obtain ⟨k, rfl, q⟩ := h
  cases ry
  cases x with
  | non => cases rx; exact wpAny_pure ⟨.bl _, H, I, rfl, q⟩
  | bl j => cases rx; exact wpAny_pure ⟨.bl _, H, I, by cases j <;> cases k <;> rfl, q⟩
  | int _ => obtain ⟨t, rfl⟩ := rx; exact wpAny_pure ⟨.bl _, H, I, rfl, q⟩
  | str _ => obtain ⟨t, rfl⟩ := rx; exact wpAny_pure ⟨.bl _, H, I, rfl, q⟩
  | byt _ => obtain ⟨t, rfl⟩ := rx; exact wpAny_pure ⟨.bl _, H, I, rfl, q⟩
  | flt _ => obtain ⟨t, rfl⟩ := rx; exact wpAny_pure ⟨.bl _, H, I, rfl, q⟩
  | ref _ => cases rx; exact wpAny_pure ⟨.bl _, H, I, rfl, q⟩
  | ty _ => cases rx; exact wpAny_pure ⟨.bl _, H, I, rfl, q⟩
/-- x is the leaf y (None, True, False) -/
def isLf (x : R) (y : At) (S : Sto) : Option Bool :=
  match x with
  | .d (.lf a) => some (match a, y with
    | .non, .non => true
    | .bl j, .bl k => decide (j = k)
    | _, _ => false)
  | .d (.box _ _) => some false
  | .loc l => match S[l]? with
    | some (.box _ _) => some false
    | _ => none
def isO : F2 := fun x y S => match y with
  | .d (.lf .non) => (isLf x .non S).map fun k => (.bl k, S)
  | .d (.lf (.bl j)) => (isLf x (.bl j) S).map fun k => (.bl k, S)
  | _ => none
def isNotO : F2 := fun x y S => match y with
  | .d (.lf .non) => (isLf x .non S).map fun k => (.bl (!k), S)
  | .d (.lf (.bl j)) => (isLf x (.bl j) S).map fun k => (.bl (!k), S)
  | _ => none
theorem isLf_ok {K : PySem.W.Frag} {g : Cfg} {x : R} {y : At} {k : Bool} {v : V} (s : SoR K C g) (hy : y = .non ∨ ∃ j, y = .bl j) (e : isLf x y g.S = some k) (r : RelR K C g x v) : decide (v = y.v) = k := by
  unfold isLf at e
  split at e
  · rename_i a
    cases e
    rw [rel_lf] at r
    subst r
    rcases hy with rfl | ⟨j, rfl⟩ <;> cases a <;> simp [At.v]
  · cases e
    simp only [RelR, Rel] at r
    obtain ⟨a, vs, rfl, _⟩ := r
    rcases hy with rfl | ⟨j, rfl⟩ <;> simp [At.v]
  · split at e
    · rename_i q
      cases e
      obtain ⟨a, vs, rfl, _⟩ := s.box q r
      rcases hy with rfl | ⟨j, rfl⟩ <;> simp [At.v]
    · cases e
theorem o_is : OpR X (compareOp .Is) (liftO X.K C isO) := by
  refine weakenR (orR op_isN op_isK) fun x y H Q h => ?_
  obtain ⟨b, g, r1, r2, rfl, s, q1, q2, h⟩ := h
  unfold isO at h
  split at h
  · cases e : isLf r1 .non g.S with
    | none => rw [e] at h; exact h.elim
    | some k =>
      rw [e] at h
      refine .inl ⟨rel_non.mp q2, ?_⟩
      rw [show decide (x = .non) = k from isLf_ok s.so (.inl rfl) e q1]
      exact same_ok s (rel_bl.mpr rfl) h
  · rename_i j
    cases e : isLf r1 (.bl j) g.S with
    | none => rw [e] at h; exact h.elim
    | some k =>
      rw [e] at h
      refine .inr ⟨j, rel_bl.mp q2, ?_⟩
      rw [show decide (x = .bl j) = k from isLf_ok s.so (.inr ⟨j, rfl⟩) e q1]
      exact same_ok s (rel_bl.mpr rfl) h
  · exact h.elim
theorem o_isNot : OpR X (compareOp .IsNot) (liftO X.K C isNotO) := by
  refine weakenR (orR op_notN op_isnotK) fun x y H Q h => ?_
  obtain ⟨b, g, r1, r2, rfl, s, q1, q2, h⟩ := h
  unfold isNotO at h
  split at h
  · cases e : isLf r1 .non g.S with
    | none => rw [e] at h; exact h.elim
    | some k =>
      rw [e] at h
      refine .inl ⟨rel_non.mp q2, ?_⟩
      rw [show decide (x = .non) = k from isLf_ok s.so (.inl rfl) e q1]
      exact same_ok s (rel_bl.mpr rfl) h
  · rename_i j
    cases e : isLf r1 (.bl j) g.S with
    | none => rw [e] at h; exact h.elim
    | some k =>
      rw [e] at h
      refine .inr ⟨j, rel_bl.mp q2, ?_⟩
      rw [show decide (x = .bl j) = k from isLf_ok s.so (.inr ⟨j, rfl⟩) e q1]
      exact same_ok s (rel_bl.mpr rfl) h
  · exact h.elim

/-! ### in -/
def leaves : List R → Option (List At)
  | [] => some []
  | .d (.lf a) :: r => (leaves r).map (a :: ·)
  | _ :: _ => none
/-- one text in another -/
def inS (z w : Str) : Bool := match z.cps.toList with
  | [c] => decide (c ∈ w.cps.toList)
  | _ => !(Builtin.Str.occurrences w z 0 w.length 1).isEmpty
def inR (x y : R) (S : Sto) : Option Bool :=
  match x, y with
  | .d (.lf (.str z)), .d (.lf (.str w)) => some (inS z w)
  | .d (.lf a), y => match viewQ y S with
    | some rs => (leaves rs).map fun as => as.any fun c => eqAt c a
    | none => none
  | _, _ => none
def inO : F2 := fun x y S => (inR x y S).map fun k => (.bl k, S)
def notInO : F2 := fun x y S => (inR x y S).map fun k => (.bl (!k), S)
theorem leaves_ok {K : PySem.W.Frag} {g : Cfg} {a : At} : ∀ {rs : List R} {vs : List V} {as : List At}, leaves rs = some as → RelRs K C g rs vs → vs.all flatV = true ∧ inV a.v vs = as.any fun c => eqAt c a
  | [], vs, as, h, r => by
    cases h
    rw [show vs = [] from r]; exact ⟨rfl, rfl⟩
  | .d (.lf c) :: rs, vs, as, h, r => by
    simp only [leaves, Option.map_eq_some_iff] at h
    obtain ⟨bs, h1, rfl⟩ := h
    obtain ⟨v, t, rfl, r1, r2⟩ := r
    rw [rel_lf] at r1
    subst r1
    obtain ⟨i1, i2⟩ := leaves_ok (a := a) h1 r2
    refine ⟨?_, ?_⟩
    · rw [List.all_cons, i1, Bool.and_true]; cases c <;> rfl
    · show (eqV c.v a.v || inV a.v t) = _
      rw [i2, List.any_cons]
      congr 1
      cases c <;> cases a <;> first
        | rfl
        | (simp [eqV, At.v, eqAt]; done)
        | (rename_i x y; by_cases h : x = y <;> simp [eqV, At.v, eqAt, h])
  | .d (.box _ _) :: _, _, _, h, _ => nomatch h
  | .loc _ :: _, _, _, h, _ => nomatch h
theorem flat_At (a : At) : flatV a.v = true := by cases a <;> rfl
theorem in_core {K : PySem.W.Frag} {x y : V} {g : Cfg} {r1 r2 : R} {k : Bool} (s : SoR K C g) (q1 : RelR K C g r1 x) (q2 : RelR K C g r2 y) (h : inR r1 r2 g.S = some k) :
    (∃ (c : Nat) (z : Str), x = .str ⟨#[c]⟩ ∧ y = .str z ∧ decide (c ∈ z.cps.toList) = k) ∨ (∃ i j, x = .str i ∧ y = .str j ∧ (!(Builtin.Str.occurrences j i 0 j.length 1).isEmpty) = k) ∨
    ∃ p xs, y = .ref p ∧ (SqL K g.H p xs ∨ SqT K g.H p xs) ∧ flatV x = true ∧ xs.all flatV = true ∧ inV x xs = k := by
  unfold inR at h
  split at h
  · rename_i z w
    cases h
    unfold inS
    split
    · rename_i c e
      have e' : z = ⟨#[c]⟩ := by
        cases z with
        | mk a =>
          have : a = #[c] := by
            apply Array.toList_inj.mp
            exact e
          rw [this]
      subst e'
      exact .inl ⟨_, _, rel_str.mp q1, rel_str.mp q2, rfl⟩
    · exact .inr (.inl ⟨_, _, rel_str.mp q1, rel_str.mp q2, rfl⟩)
  · split at h
    · rename_i rs e
      rw [Option.map_eq_some_iff] at h
      obtain ⟨as, e2, rfl⟩ := h
      rw [rel_lf] at q1
      subst q1
      obtain ⟨p, vs, rfl, e3, e4⟩ := viewQ_ok s e q2
      exact .inr (.inr ⟨p, vs, rfl, e3, flat_At _, (leaves_ok (a := .non) e2 e4).1, (leaves_ok e2 e4).2⟩)
    · cases h
  · cases h
theorem o_in : OpR X (compareOp .In) (liftO X.K C inO) := by
  refine weakenR (orR op_in_sign (orR op_in_str op_in_seq)) fun x y H Q h => ?_
  obtain ⟨b, g, r1, r2, rfl, s, q1, q2, h⟩ := h
  unfold inO at h
  cases e : inR r1 r2 g.S with
  | none => rw [e] at h; exact h.elim
  | some k =>
    rw [e] at h
    have f : Q (.bl k) g.H := same_ok s (rel_bl.mpr rfl) h
    rcases in_core s.so q1 q2 e with ⟨c, z, rfl, rfl, rfl⟩ | ⟨i, j, rfl, rfl, rfl⟩ | ⟨p, xs, rfl, e1, e2, e3, rfl⟩
    · exact .inl ⟨c, z, rfl, rfl, f⟩
    · exact .inr (.inl ⟨i, j, rfl, rfl, f⟩)
    · exact .inr (.inr ⟨p, xs, rfl, e1, e2, e3, f⟩)
theorem o_notIn : OpR X (compareOp .NotIn) (liftO X.K C notInO) := by
  refine weakenR (orR op_notIn_sign (orR op_notIn_str op_notIn_seq)) fun x y H Q h => ?_
  obtain ⟨b, g, r1, r2, rfl, s, q1, q2, h⟩ := h
  unfold notInO at h
  cases e : inR r1 r2 g.S with
  | none => rw [e] at h; exact h.elim
  | some k =>
    rw [e] at h
    have f : Q (.bl (!k)) g.H := same_ok s (rel_bl.mpr rfl) h
    rcases in_core s.so q1 q2 e with ⟨c, z, rfl, rfl, rfl⟩ | ⟨i, j, rfl, rfl, rfl⟩ | ⟨p, xs, rfl, e1, e2, e3, rfl⟩
    · exact .inl ⟨c, z, rfl, rfl, f⟩
    · exact .inr (.inl ⟨i, j, rfl, rfl, f⟩)
    · exact .inr (.inr ⟨p, xs, rfl, e1, e2, e3, f⟩)
end

/-! ### chains -/
section
variable {X : Cx} {C : DC} {W : WX} {a c e : Expr} {ma mb mc : ME} {pos : Pos}
def mChain (f f' : F2) (ma mb mc : ME) : ME := fun b ρ S => (ma b ρ S).bind fun x S1 => (mb b ρ S1).bind fun y S2 => (Out.ofO (f x y S2)).bind fun z S3 => match z with
  | .d (.lf (.bl true)) => (mc b ρ S3).bind fun w S4 => .ofO (f' y w S4)
  | .d (.lf (.bl false)) => .ok (.bl false) S3
  | _ => .bad
theorem chain_lift {K : PySem.W.Frag} {f f' : F2} {σ : L2.St} {H : Hp} {Q : VK} (h : liftE K C W (mChain f f' ma mb mc) σ H Q) : tChain (liftO K C f) (liftO K C f') (liftE K C W ma) (liftE K C W mb) (liftE K C W mc) σ H Q := by
  obtain ⟨b, g, ρ, rfl, s, r, h⟩ := h
  refine ⟨b, g, ρ, rfl, s, r, h.bind.mono fun x g1 x1 s1 h1 v rv => ?_⟩
  refine ⟨b, g1, ρ, rfl, s1, r.mono s.so x1, h1.bind.mono fun y g2 x2 s2 h2 u ru => ?_⟩
  refine ⟨b, g2, x, y, rfl, s2, rv.mono s1.so x2, ru, (OkO.of h2.bind).mono fun z g3 x3 s3 h3 t rt => ?_⟩
  split at h3
  · refine ⟨true, rel_bl.mp rt, iteT ⟨b, g3, ρ, rfl, s3, (r.mono s.so (x1.trans x2)).mono s2.so x3, h3.bind.mono fun w g4 x4 s4 h4 q rq => ?_⟩⟩
    exact ⟨b, g4, y, w, rfl, s4, (ru.mono s2.so x3).mono s3.so x4, rq, .of h4⟩
  · exact ⟨false, rel_bl.mp rt, iteF (h3 g3 rfl .refl s3 _ (rel_bl.mpr rfl))⟩
  · exact h3.elim
theorem de_chain {op op' : CmpOp} {f f' : F2} (ho : OpR X (compareOp op) (liftO X.K C f)) (ho' : OpR X (compareOp op') (liftO X.K C f')) (ha : DE X C W a ma) (hb : DE X C W c mb) (hc : DE X C W e mc)
    (hm : lastMarks [op, op'] [c, e] = false := by with_unfolding_all rfl) : DE X C W (.Compare a [op, op'] [c, e] pos) (mChain f f' ma mb mc) := weaken (pe_chain ho ho' ha hb hc hm) fun _ _ _ h => chain_lift h
theorem dt_chain {op op' : CmpOp} {f f' : F2} (ho : OpR X (compareOp op) (liftO X.K C f)) (ho' : OpR X (compareOp op') (liftO X.K C f')) (ha : DE X C W a ma) (hb : DE X C W c mb) (hc : DE X C W e mc)
    (hm : lastMarks [op, op'] [c, e] = false := by with_unfolding_all rfl) : DT X C W (.Compare a [op, op'] [c, e] pos) (mB (mChain f f' ma mb mc)) := weakenT (pt_chain ho ho' ha hb hc hm) fun _ _ _ h => by
  obtain ⟨b, g, ρ, e, s, r, h⟩ := test_lift h
  exact chain_lift ⟨b, g, ρ, e, s, r, h⟩

/-! ### subscripts -/
def getO : F2 := fun x y S => match x, y with
  | .d (.box .tup ds), .d (.lf (.int i)) => (atI ds i).map fun d => (.d d, S)
  | .d (.lf (.str z)), .d (.lf (.int i)) => if z.length ≤ sizeLine then (atI z.cps.toList i).map fun c => (.str ⟨#[c]⟩, S) else none
  | x, .d (.lf (.int i)) => match viewL x S with
    | some rs => (atI rs i).map fun r => (r, S)
    | none => none
  | _, _ => none
theorem orIx {r r' : R2} (h : IxR X r) (h' : IxR X r') : IxR X fun x y H Q => r x y H Q ∨ r' x y H Q := fun va sl pins s σ H x y v u Q I rx ry q =>
  q.elim (h va sl pins s σ H x y v u Q I rx ry) (h' va sl pins s σ H x y v u Q I rx ry)
theorem weakenI {r r' : R2} (h : IxR X r) (w : ∀ x y H Q, r' x y H Q → r x y H Q) : IxR X r' := fun va sl pins s σ H x y v u Q I rx ry q => h va sl pins s σ H x y v u Q I rx ry (w x y H Q q)
theorem atI_rel {K : PySem.W.Frag} {g : Cfg} {rs : List R} {vs : List V} {i : Int} {r : R} (q : RelRs K C g rs vs) (e : atI rs i = some r) : ∃ v, atI vs i = some v ∧ RelR K C g r v := by
  unfold atI at e ⊢
  rw [Option.bind_eq_some_iff] at e
  obtain ⟨j, e1, e2⟩ := e
  obtain ⟨v, e3, e4⟩ := q.get e2
  exact ⟨v, by rw [← q.len, e1]; exact e3, e4⟩
theorem atI_map {ds : List D} {i : Int} {d : D} (e : atI ds i = some d) : atI (ds.map R.d) i = some (.d d) := by
  unfold atI at e ⊢
  rw [Option.bind_eq_some_iff] at e
  obtain ⟨j, e1, e2⟩ := e
  rw [List.length_map, e1]
  show (ds.map R.d)[j]? = _
  rw [List.getElem?_map, e2]; rfl
theorem i_get : IxR X (liftO X.K C getO) := by
  refine weakenI (orIx ix_tup (orIx ix_str ix_list)) fun x y H Q h => ?_
  obtain ⟨b, g, r1, r2, rfl, s, q1, q2, h⟩ := h
  unfold getO at h
  split at h
  · rename_i ds i
    cases e : atI ds i with
    | none => rw [e] at h; exact h.elim
    | some d =>
      rw [e] at h
      obtain ⟨a, vs, e1, e2, e3⟩ := viewT_ok (K := X.K) (C := C) (g := g) (ds := ds) rfl q1
      obtain ⟨v, e4, e5⟩ := atI_rel (RelRs.of_rels _ e3) (atI_map e)
      exact .inl ⟨a, vs, i, v, e1, rel_int.mp q2, e2, e4, same_ok s e5 h⟩
  · rename_i z i
    split at h
    · rename_i hz
      cases e : atI z.cps.toList i with
      | none => rw [e] at h; exact h.elim
      | some c =>
        rw [e] at h
        exact .inr (.inl ⟨z, i, c, rel_str.mp q1, rel_int.mp q2, hz, e, same_ok s (rel_str.mpr rfl) h⟩)
    · exact h.elim
  · split at h
    · rename_i i _ _ _ rs e1
      cases e : atI rs i with
      | none => rw [e] at h; exact h.elim
      | some r =>
        rw [e] at h
        obtain ⟨a, vs, e2, e3, e4⟩ := viewL_ok s.so e1 q1
        obtain ⟨v, e5, e6⟩ := atI_rel e4 e
        exact .inr (.inr ⟨a, vs, i, v, e2, rel_int.mp q2, e3, e5, same_ok s e6 h⟩)
    · exact h.elim
  · exact h.elim
theorem de_get {f : F2} (hr : IxR X (liftO X.K C f)) (ha : DE X C W a ma) (hb : DE X C W c mb) (hs : PlainIx c := by exact fun _ _ => rfl) : DE X C W (.Subscript a c pos) (mBin f ma mb) := weaken (pe_ix hr ha hb hs) fun _ _ _ h => bin_lift h
end
end DL

set_option maxHeartbeats 1000000
/-! DL5: built-in calls, changes of the store. -/
namespace DL
open PySem PySem.Spec PyProof.Rows L2

/-! ### a box is changed -/
section
variable {K : PySem.W.Frag} {C : DC} {b : Nat} {g : Cfg}
def Cfg.put (g : Cfg) (l : Nat) (a : Addr) (o : HO) (ob : Ob) : Cfg := { g with H := upd g.H a o, S := g.S.set l ob }
/-- what may be laid into the box at l -/
def fits (b l : Nat) : R → Bool
  | .d _ => true
  | .loc l' => decide (b ≤ l)
theorem put_ok {l : Nat} {a : Addr} {o : HO} {k k' : Kd} {rs0 rs : List R} {vs : List V} (s : Gd K C b g) (hl : g.S[l]? = some (.box k rs0)) (ha : g.io[l]? = some (some a)) (hm : MutAt C (upd g.H a o) a k' vs) (rr : RelRs K C g rs vs)
    (hf : b ≤ l ∨ ∀ r ∈ rs, r ∈ rs0 ∨ ∃ x, r = .d x) : Ext b g (g.put l a o (.box k' rs)) ∧ Gd K C b (g.put l a o (.box k' rs)) := by
  have hm0 : g.mu a := s.so.iomu l a ha
  have x : Ext b g (g.put l a o (.box k' rs)) := by
    refine ⟨fun _ _ e => .inl e, fun _ _ e => .inl e, fun c u e n => ?_, fun c u e => ?_, fun _ _ _ h => h, fun _ _ _ h _ => h, fun c hc h => ?_⟩
    · show upd g.H a o c = some u
      rw [upd_ne (fun z => n l (by rw [z]; exact ha))]; exact e
    · by_cases z : c = a
      · exact ⟨o, by
          show upd g.H a o c = some o
          rw [z]; exact upd_same⟩
      · exact ⟨u, by
          show upd g.H a o c = some u
          rw [upd_ne z]; exact e⟩
    · intro j k2 rs2 l' hj e hm2
      have e : (g.S.set l (.box k' rs))[j]? = some (.box k2 rs2) := e
      by_cases z : l = j
      · subst z
        rw [List.getElem?_set_self (List.getElem?_eq_some_iff.mp hl).1] at e
        cases e
        rcases hf with hf | hf
        · omega
        · rcases hf _ hm2 with q | ⟨y, q⟩
          · exact h l k rs0 l' hj hl q
          · cases q
      · rw [List.getElem?_set_ne z] at e
        exact h j k2 rs2 l' hj e hm2
  refine ⟨x, ⟨⟨?_, s.so.inj, fun j oa ob e1 e2 => ?_, fun c m => ?_⟩, x.clean b (Nat.le_refl _) s.cl, ?_⟩⟩
  · show g.io.length = (g.S.set l _).length
    rw [List.length_set]; exact s.so.len
  · have e2 : (g.S.set l (.box k' rs))[j]? = some ob := e2
    by_cases z : l = j
    · subst z
      rw [List.getElem?_set_self (List.getElem?_eq_some_iff.mp hl).1] at e2
      have e1 : g.io[l]? = some oa := e1
      rw [ha] at e1
      cases e1; cases e2
      exact ⟨hm0, vs, hm, rr.mono s.so x⟩
    · rw [List.getElem?_set_ne z] at e2
      have h := s.so.ob j oa ob e1 e2
      cases oa with
      | none => cases ob with
        | dead => exact True.intro
        | box _ _ => exact h
      | some c => cases ob with
        | dead => exact h
        | box k2 rs2 =>
          obtain ⟨m, us, e3, e4⟩ := h
          have nc : c ≠ a := fun q => z (s.so.inj l j a ha (q ▸ e1))
          refine ⟨m, us, ?_, e4.mono s.so x⟩
          cases k2 with
          | tup => exact e3.elim
          | lck => exact e3.elim
          | lst =>
            show upd g.H a o c = _
            rw [upd_ne nc]; exact e3
          | obj _ =>
            obtain ⟨dx, q2⟩ := e3
            exact ⟨dx, by
              show upd g.H a o c = _
              rw [upd_ne nc]; exact q2⟩
          | dct _ =>
            obtain ⟨q1, q2⟩ := e3
            exact ⟨q1, by
              show upd g.H a o c = _
              rw [upd_ne nc]; exact q2⟩
  · obtain ⟨u, e⟩ := s.so.live c m
    exact x.there c u e
  · show b ≤ (g.S.set l _).length
    rw [List.length_set]; exact s.le
end

/-! ### a place is given up: what stood there is pure data from now on -/
def frzL (f : Sto → R → Option (D × Sto)) : Sto → List R → Option (List D × Sto)
  | S, [] => some ([], S)
  | S, r :: rs => match f S r with
    | some (d, S1) => match frzL f S1 rs with
      | some (ds, S2) => some (d :: ds, S2)
      | none => none
    | none => none
def frzR : Nat → Sto → R → Option (D × Sto)
  | _, S, .d x => some (x, S)
  | 0, _, .loc _ => none
  | n + 1, S, .loc l => match S[l]? with
    | some (.box k rs) => match frzL (frzR n) (S.set l .dead) rs with
      | some (ds, S2) => some (.box k ds, S2)
      | none => none
    | _ => none
section
variable {K : PySem.W.Frag} {C : DC} {b : Nat} {g : Cfg}
def Cfg.kill (g : Cfg) (l : Nat) (a : Addr) : Cfg := { g with io := g.io.set l none, mu := fun x => g.mu x ∧ x ≠ a, S := g.S.set l .dead }
theorem kill_ok {l : Nat} {a : Addr} (s : SoR K C g) (ha : g.io[l]? = some (some a)) : Ext b g (g.kill l a) ∧ SoR K C (g.kill l a) := by
  have hl : l < g.io.length := (List.getElem?_eq_some_iff.mp ha).1
  have x : Ext b g (g.kill l a) := by
    refine ⟨fun j oa e => ?_, fun j c e => ?_, fun _ _ e _ => e, fun c u e => ⟨u, e⟩, fun _ _ _ h z => h z.1, fun c u e h n => ⟨h, fun z => n l (z ▸ ha)⟩, fun c hc h => ?_⟩
    · by_cases z : l = j
      · subst z
        exact .inr (List.getElem?_set_self hl)
      · left
        show (g.io.set l none)[j]? = some oa
        rw [List.getElem?_set_ne z]; exact e
    · have e : (g.io.set l none)[j]? = some (some c) := e
      by_cases z : l = j
      · subst z
        rw [List.getElem?_set_self hl] at e
        cases e
      · rw [List.getElem?_set_ne z] at e
        exact .inl e
    · intro j k2 rs2 l' hj e hm2
      have e : (g.S.set l .dead)[j]? = some (.box k2 rs2) := e
      by_cases z : l = j
      · subst z
        rw [List.getElem?_set_self (by rw [← s.len]; exact hl)] at e
        cases e
      · rw [List.getElem?_set_ne z] at e
        exact h j k2 rs2 l' hj e hm2
  refine ⟨x, ⟨?_, fun i j c e1 e2 => ?_, fun j oa ob e1 e2 => ?_, fun c m => s.live c m.1⟩⟩
  · show (g.io.set l none).length = (g.S.set l _).length
    rw [List.length_set, List.length_set]; exact s.len
  · rcases x.new i c e1 with q1 | q1
    · rcases x.new j c e2 with q2 | q2
      · exact s.inj i j c q1 q2
      · obtain ⟨o, e⟩ := s.live c (s.iomu i c q1)
        rw [q2] at e; cases e
    · have : g.mu c := by
        have e1 : (g.io.set l none)[i]? = some (some c) := e1
        by_cases z : l = i
        · subst z
          rw [List.getElem?_set_self hl] at e1; cases e1
        · rw [List.getElem?_set_ne z] at e1
          exact s.iomu i c e1
      obtain ⟨o, e⟩ := s.live c this
      rw [q1] at e; cases e
  · have e1 : (g.io.set l none)[j]? = some oa := e1
    have e2 : (g.S.set l .dead)[j]? = some ob := e2
    by_cases z : l = j
    · subst z
      rw [List.getElem?_set_self hl] at e1
      rw [List.getElem?_set_self (by rw [← s.len]; exact hl)] at e2
      cases e1; cases e2
      exact True.intro
    · rw [List.getElem?_set_ne z] at e1 e2
      have h := s.ob j oa ob e1 e2
      cases oa with
      | none => cases ob with
        | dead => exact True.intro
        | box _ _ => exact h
      | some c => cases ob with
        | dead => exact h
        | box k2 rs2 =>
          obtain ⟨m, us, e3, e4⟩ := h
          exact ⟨⟨m, fun q => z (s.inj l j a ha (q ▸ e1))⟩, us, e3, e4.mono s x⟩
def FrzOk (K : PySem.W.Frag) (C : DC) (b : Nat) (g g' : Cfg) : Prop := g'.H = g.H ∧ Ext b g g' ∧ SoR K C g' ∧ g'.io.length = g.io.length
theorem frzL_ok {n : Nat} (ih : ∀ {g : Cfg} {r : R} {d : D} {S' : Sto} {v : V}, SoR K C g → frzR n g.S r = some (d, S') → RelR K C g r v → ∃ g', g'.S = S' ∧ FrzOk K C b g g' ∧ Rel K C (fzn g'.mu) g'.H d v) :
    ∀ {rs : List R} {g : Cfg} {ds : List D} {S' : Sto} {vs : List V}, SoR K C g → frzL (frzR n) g.S rs = some (ds, S') → RelRs K C g rs vs → ∃ g', g'.S = S' ∧ FrzOk K C b g g' ∧ Rels K C (fzn g'.mu) g'.H ds vs
  | [], g, ds, S', vs, s, h, r => by
    simp only [frzL, Option.some.injEq, Prod.mk.injEq] at h
    obtain ⟨rfl, rfl⟩ := h
    exact ⟨g, rfl, ⟨rfl, .refl, s, rfl⟩, by simp only [Rels]; exact r⟩
  | x :: xs, g, ds, S', vs, s, h, r => by
    simp only [frzL] at h
    obtain ⟨v, t, rfl, r1, r2⟩ := r
    split at h
    · rename_i d S1 e1
      obtain ⟨g1, rfl, ⟨h1, x1, s1, n1⟩, q1⟩ := ih s e1 r1
      split at h
      · rename_i ds2 S2 e2
        simp only [Option.some.injEq, Prod.mk.injEq] at h
        obtain ⟨rfl, rfl⟩ := h
        obtain ⟨g2, rfl, ⟨h2, x2, s2, n2⟩, q2⟩ := frzL_ok ih s1 e2 (r2.mono s x1)
        refine ⟨g2, rfl, ⟨h2.trans h1, x1.trans x2, s2, n2.trans n1⟩, ?_⟩
        simp only [Rels]
        exact ⟨v, t, rfl, Rel.mono (x2.kf s1.iomu) d q1, q2⟩
      · cases h
    · cases h
theorem frzR_ok : ∀ (n : Nat) {g : Cfg} {r : R} {d : D} {S' : Sto} {v : V}, SoR K C g → frzR n g.S r = some (d, S') → RelR K C g r v → ∃ g', g'.S = S' ∧ FrzOk K C b g g' ∧ Rel K C (fzn g'.mu) g'.H d v
  | n, g, .d x, d, S', v, s, h, r => by
    have h : some (x, g.S) = some (d, S') := by cases n <;> exact h
    cases h
    exact ⟨g, rfl, ⟨rfl, .refl, s, rfl⟩, r⟩
  | 0, g, .loc l, d, S', v, s, h, r => by simp only [frzR] at h; cases h
  | n + 1, g, .loc l, d, S', v, s, h, r => by
    simp only [frzR] at h
    split at h
    · rename_i k rs e
      split at h
      · rename_i ds S2 e2
        simp only [Option.some.injEq, Prod.mk.injEq] at h
        obtain ⟨rfl, rfl⟩ := h
        obtain ⟨a, vs, rfl, ha, hm, ma, rr⟩ := s.box e r
        obtain ⟨x1, s1⟩ := kill_ok (b := b) s ha
        obtain ⟨g2, rfl, ⟨h2, x2, s2, n2⟩, q2⟩ := frzL_ok (fun {g r d S' v} => frzR_ok n (g := g) (r := r) (d := d) (S' := S') (v := v)) (g := g.kill l a) s1 e2 (rr.mono s x1)
        have h2' : g2.H = g.H := h2
        refine ⟨g2, rfl, ⟨h2', x1.trans x2, s2, n2.trans ?_⟩, ?_⟩
        · show (g.io.set l none).length = g.io.length
          rw [List.length_set]
        · obtain ⟨o, eo⟩ := s.live a hm
          have nm : ¬ g2.mu a := x2.fz a o eo fun z => z.2 rfl
          simp only [Rel]
          refine ⟨a, vs, rfl, ?_, q2⟩
          cases k with
          | tup => exact ma.elim
          | lck => exact ma.elim
          | lst => exact ⟨nm, by rw [h2']; exact ma⟩
          | obj _ =>
            obtain ⟨dx, e⟩ := ma
            exact ⟨nm, dx, by rw [h2']; exact e⟩
          | dct _ =>
            obtain ⟨q, e⟩ := ma
            exact ⟨nm, q, by rw [h2']; exact e⟩
      · cases h
    · cases h
end
/-- the value, from now on pure data -/
def mFrz (m : ME) : ME := fun b ρ S => (m b ρ S).bind fun r S1 => match frzR 8 S1 r with
  | some (d, S2) => .ok (.d d) S2
  | none => .bad
theorem Ext.lele {K : PySem.W.Frag} {C : DC} {b : Nat} {g g' : Cfg} (x : Ext b g g') (s : SoR K C g) (s' : SoR K C g') : g.S.length ≤ g'.S.length := by
  rw [← s.len, ← s'.len]
  cases h : g.io.length with
  | zero => exact Nat.zero_le _
  | succ n =>
    have hl : n < g.io.length := by omega
    rcases x.ix n g.io[n] (List.getElem?_eq_getElem hl) with q | q
    · have := (List.getElem?_eq_some_iff.mp q).1; omega
    · have := (List.getElem?_eq_some_iff.mp q).1; omega
theorem de_frz {X : Cx} {C : DC} {W : WX} {e : Expr} {m : ME} (h : DE X C W e m) : DE X C W e (mFrz m) := weaken h fun σ H Q h => by
  obtain ⟨b, g, ρ, rfl, s, r, h⟩ := h
  refine ⟨b, g, ρ, rfl, s, r, h.bind.mono fun x g1 x1 s1 h1 v rv => ?_⟩
  split at h1
  · rename_i d S2 e
    obtain ⟨g2, rfl, ⟨h2, x2, s2, n2⟩, q2⟩ := frzR_ok (b := b) 8 s1.so e rv
    have := h1 g2 rfl x2 ⟨s2, x2.clean b (Nat.le_refl _) s1.cl, by have := x2.lele s1.so s2; have := s1.le; omega⟩ v q2
    rw [h2] at this
    exact this
  · exact h1.elim

/-! ### built-in functions -/
abbrev FC := Nat → List R → Sto → Option (R × Sto)
def mCall (f : FC) (ma : MA) : ME := fun b ρ S => (ma b ρ S).bind fun rs S1 => .ofO (f b rs S1)
theorem weakenC {X : Cx} {f : Value} {r r' : List V → Hp → VK → Prop} (h : CallR X f r) (w : ∀ xs H Q, r' xs H Q → r xs H Q) : CallR X f r' := fun pins s σ H xs us Q I rx q => h pins s σ H xs us Q I rx (w xs H Q q)
section
variable {X : Cx} {C : DC} {W : WX} {e : Expr} {es : List Expr} {ma : MA} {x : Str} {id T : String} {f : FC} {p pos : Pos}
theorem call_lift {K : PySem.W.Frag} {σ : L2.St} {H : Hp} {Q : VK} (h : liftE K C W (mCall f ma) σ H Q) : tCB (liftC K C f) (liftA K C W ma) σ H Q := by
  obtain ⟨b, g, ρ, rfl, s, r, h⟩ := h
  exact ⟨b, g, ρ, rfl, s, r, h.bind.mono fun rs g1 x1 s1 h1 vs rv => ⟨b, g1, rs, rfl, s1, rv, .of h1⟩⟩
theorem de_callB (hc : CallR X (.builtin id) (liftC X.K C f)) (hg : Gl X x) (hm : X.mg x = none) (hv : bootBuiltins x = some (.builtin id)) (ha : DA X C W (e :: es) ma) (hn : x ≠ "__name__" := by decide) (hdb : (x == ("__debug__" : Str)) = false := by decide)
    (hs : starEach (e :: es) X.env = (false, eval e X.env) :: starEach es X.env := by rfl) (hpl : (backTo pos (starEach es X.env)).any (·.1) = false := by rfl) : DE X C W (.Call (.Name x p) (e :: es) [] pos) (mCall f ma) :=
  weaken (pe_callB hc hg hm hv ha hn hdb hs hpl) fun _ _ _ h => call_lift h
theorem de_callT (hc : CallR X (.type T) (liftC X.K C f)) (hg : Gl X x) (hm : X.mg x = none) (hv : bootBuiltins x = some (.type T)) (ha : DA X C W (e :: es) ma) (hn : x ≠ "__name__" := by decide) (hdb : (x == ("__debug__" : Str)) = false := by decide)
    (hs : starEach (e :: es) X.env = (false, eval e X.env) :: starEach es X.env := by rfl) (hpl : (backTo pos (starEach es X.env)).any (·.1) = false := by rfl) : DE X C W (.Call (.Name x p) (e :: es) [] pos) (mCall f ma) :=
  weaken (pe_callTy hc hg hm hv ha hn hdb hs hpl) fun _ _ _ h => call_lift h
end
def lenF : FC := fun _ rs S => match rs with
  | [.d (.lf (.str z))] => if z.length ≤ sizeLine then some (.int z.length, S) else none
  | [x] => (viewQ x S).map fun rs => (.int rs.length, S)
  | _ => none
def intF : FC := fun _ rs S => match rs with
  | [.d (.lf (.int i))] => some (.int i, S)
  | [.d (.lf (.bl k))] => some (.int (if k then 1 else 0), S)
  | _ => none
def tupF : FC := fun _ rs S => match rs with
  | [.d (.box .tup ds)] => some (.tup ds, S)
  | [x] => match viewL x S with
    | some rs => newT rs S
    | none => none
  | _ => none
def lstF (m : Bool) : FC := fun _ rs S => match rs with
  | [x] => match viewQ x S with
    | some rs => newL m rs S
    | none => none
  | _ => none
def maxF : FC := fun _ rs S => match rs with
  | [.d (.lf (.int i)), .d (.lf (.int j))] => some (.int (if j > i then j else i), S)
  | _ => none
def minF : FC := fun _ rs S => match rs with
  | [.d (.lf (.int i)), .d (.lf (.int j))] => some (.int (if j < i then j else i), S)
  | _ => none
section
variable {X : Cx} {C : DC}
theorem relRs_one {K : PySem.W.Frag} {g : Cfg} {r : R} {vs : List V} (h : RelRs K C g [r] vs) : ∃ v, vs = [v] ∧ RelR K C g r v := by
  obtain ⟨v, t, rfl, h1, h2⟩ := h
  rw [show t = [] from h2]
  exact ⟨v, rfl, h1⟩
theorem relRs_two {K : PySem.W.Frag} {g : Cfg} {r q : R} {vs : List V} (h : RelRs K C g [r, q] vs) : ∃ v u, vs = [v, u] ∧ RelR K C g r v ∧ RelR K C g q u := by
  obtain ⟨v, t, rfl, h1, h2⟩ := h
  obtain ⟨u, rfl, h3⟩ := relRs_one h2
  exact ⟨v, u, rfl, h1, h3⟩
theorem c_len : CallR X (.builtin "len") (liftC X.K C lenF) := by
  refine weakenC call_len fun xs H Q h => ?_
  obtain ⟨b, g, rs, rfl, s, q, h⟩ := h
  unfold lenF at h
  split at h
  · split at h
    · rename_i z hz
      obtain ⟨v, rfl, r⟩ := relRs_one q
      rw [rel_str] at r
      subst r
      exact ⟨_, _, rfl, ⟨hz, rfl⟩, same_ok s (rel_int.mpr rfl) h⟩
    · exact h.elim
  · rename_i x _
    obtain ⟨v, rfl, r⟩ := relRs_one q
    cases e : viewQ x g.S with
    | none => rw [e] at h; exact h.elim
    | some rs =>
      rw [e] at h
      obtain ⟨a, vs, rfl, e2, e3⟩ := viewQ_ok s.so e r
      exact ⟨_, rs.length, rfl, by rw [e3.len]; exact e2.imp (fun z => ⟨_, z, rfl⟩) fun z => ⟨_, z, rfl⟩, same_ok s (rel_int.mpr rfl) h⟩
  · exact h.elim
theorem c_int : CallR X (.type "int") (liftC X.K C intF) := by
  refine weakenC call_int1 fun xs H Q h => ?_
  obtain ⟨b, g, rs, rfl, s, q, h⟩ := h
  unfold intF at h
  split at h
  · obtain ⟨v, rfl, r⟩ := relRs_one q
    rw [rel_int] at r
    subst r
    exact .inl ⟨_, rfl, same_ok s (rel_int.mpr rfl) h⟩
  · obtain ⟨v, rfl, r⟩ := relRs_one q
    rw [rel_bl] at r
    subst r
    exact .inr ⟨_, rfl, same_ok s (rel_int.mpr rfl) h⟩
  · exact h.elim
theorem c_tup : CallR X (.type "tuple") (liftC X.K C tupF) := by
  refine weakenC call_tuple_of fun xs H Q h => ?_
  obtain ⟨b, g, rs, rfl, s, q, h⟩ := h
  unfold tupF at h
  split at h
  · rename_i ds
    obtain ⟨v, rfl, r⟩ := relRs_one q
    obtain ⟨a, vs, rfl, e2, e3⟩ := viewT_ok (K := X.K) (C := C) (g := g) (ds := ds) rfl r
    exact ⟨a, vs, rfl, .inr ⟨e2, same_ok s r h⟩⟩
  · obtain ⟨v, rfl, r⟩ := relRs_one q
    split at h
    · rename_i rs e
      obtain ⟨a, vs, rfl, e2, e3⟩ := viewL_ok s.so e r
      exact ⟨a, vs, rfl, .inl ⟨e2, fun p hp => newT_ok s e3 h hp⟩⟩
    · exact h.elim
  · exact h.elim
theorem c_lst (m : Bool) : CallR X (.type "list") (liftC X.K C (lstF m)) := by
  refine weakenC call_list_of fun xs H Q h => ?_
  obtain ⟨b, g, rs, rfl, s, q, h⟩ := h
  unfold lstF at h
  split at h
  · obtain ⟨v, rfl, r⟩ := relRs_one q
    split at h
    · rename_i rs e
      obtain ⟨a, vs, rfl, e2, e3⟩ := viewQ_ok s.so e r
      exact ⟨a, vs, rfl, e2, fun p hp => newL_ok s e3 h hp⟩
    · exact h.elim
  · exact h.elim
theorem c_max (hc : X.calm = true) : CallR X (.builtin "max") (liftC X.K C maxF) := by
  refine weakenC (call_max2 hc) fun xs H Q h => ?_
  obtain ⟨b, g, rs, rfl, s, q, h⟩ := h
  unfold maxF at h
  split at h
  · obtain ⟨v, u, rfl, r1, r2⟩ := relRs_two q
    rw [rel_int] at r1 r2
    subst r1 r2
    exact ⟨_, _, rfl, same_ok s (rel_int.mpr rfl) h⟩
  · exact h.elim
theorem c_min (hc : X.calm = true) : CallR X (.builtin "min") (liftC X.K C minF) := by
  refine weakenC (call_min2 hc) fun xs H Q h => ?_
  obtain ⟨b, g, rs, rfl, s, q, h⟩ := h
  unfold minF at h
  split at h
  · obtain ⟨v, u, rfl, r1, r2⟩ := relRs_two q
    rw [rel_int] at r1 r2
    subst r1 r2
    exact ⟨_, _, rfl, same_ok s (rel_int.mpr rfl) h⟩
  · exact h.elim
end

/-! ### isinstance of built-in classes -/
inductive Ty where
  | non | bl | int | str | tup | lst | dct
  deriving DecidableEq
def Ty.nm : Ty → String
  | .non => "NoneType" | .bl => "bool" | .int => "int" | .str => "str" | .tup => "tuple" | .lst => "list" | .dct => "dict"
def Ty.sub : Ty → Ty → Bool
  | .non, .non => true | .bl, .bl => true | .bl, .int => true | .int, .int => true | .str, .str => true | .tup, .tup => true | .lst, .lst => true | .dct, .dct => true
  | _, _ => false
def tyK : Kd → Option Ty
  | .tup => some .tup | .lst => some .lst | .lck => some .lst | .dct _ => some .dct | .obj _ => none
def tyR (x : R) (S : Sto) : Option Ty := match x with
  | .d (.lf .non) => some .non
  | .d (.lf (.bl _)) => some .bl
  | .d (.lf (.int _)) => some .int
  | .d (.lf (.str _)) => some .str
  | .d (.box k _) => tyK k
  | .loc l => match S[l]? with
    | some (.box k _) => tyK k
    | _ => none
theorem ty_kit : ∀ t T : Ty, T ≠ .non → kitB t.nm T.nm = some (t.sub T) := by
  intro t T h
  cases T with
  | non => exact absurd rfl h
  | _ => cases t <;> decide +kernel
theorem tyR_ok {K : PySem.W.Frag} {C : DC} {g : Cfg} {x : R} {t : Ty} {v : V} (s : SoR K C g) (e : tyR x g.S = some t) (r : RelR K C g x v) : TyX K g.H v (.type t.nm) := by
  unfold tyR at e
  split at e
  · cases e; rw [rel_non.mp r]; exact .base .non
  · cases e; rw [rel_bl.mp r]; exact .base (.bl _)
  · cases e; rw [rel_int.mp r]; exact .base (.int _)
  · cases e; rw [rel_str.mp r]; exact .base (.str _)
  · rename_i k xs
    simp only [RelR, Rel] at r
    obtain ⟨a, vs, rfl, e2, _⟩ := r
    cases k with
    | tup =>
      cases e
      rcases e2 with ⟨_, e2⟩ | ⟨o, _, _, k1, k2, _⟩
      · exact .base (.tup e2)
      · exact .kTuple k1 k2
    | lst => cases e; exact .base (.lst e2.2)
    | lck =>
      cases e
      rcases e2 with ⟨_, e2 | ⟨o, e2⟩⟩ | ⟨o, _, _, k1, k2, _⟩
      · exact .base (.lst e2)
      · exact .base (.frz e2)
      · exact .kList k1 k2
    | dct ks => cases e; exact .base (.dK e2.2.2)
    | obj _ => cases e
  · split at e
    · rename_i k rs q
      obtain ⟨a, vs, rfl, _, _, ma, _⟩ := s.box q r
      cases k with
      | tup => exact ma.elim
      | lck => exact ma.elim
      | lst => cases e; exact .base (.lst ma)
      | dct ks => cases e; exact .base (.dK ma.2)
      | obj _ => cases e
    · cases e
def mIsi (T : Ty) (m : ME) : ME := fun b ρ S => (m b ρ S).bind fun x S1 => match tyR x S1 with
  | some t => .ok (.bl (t.sub T)) S1
  | none => .bad
def mIsi2 (T U : Ty) (m : ME) : ME := fun b ρ S => (m b ρ S).bind fun x S1 => match tyR x S1 with
  | some t => .ok (.bl (t.sub T || t.sub U)) S1
  | none => .bad
section
variable {X : Cx} {C : DC} {W : WX} {e : Expr} {m : ME} {x y z : Str} {p p1 p2 p3 pos : Pos}
theorem de_isi (T : Ty) (hT : T ≠ .non := by decide) (hg : Gl X "isinstance") (hm : X.mg "isinstance" = none) (hgT : Gl X y) (hmT : X.mg y = none) (hvT : bootBuiltins y = some (.type T.nm)) (hnT : y ≠ "__name__" := by decide) (hdT : (y == ("__debug__" : Str)) = false := by decide)
    (ha : DE X C W e m) (hs : starEach [e, .Name y p1] X.env = (false, eval e X.env) :: starEach [.Name y p1] X.env := by rfl) :
    DE X C W (.Call (.Name "isinstance" p) [e, .Name y p1] [] pos) (mIsi T m) := by
  refine weaken (pe_callB (x := "isinstance") (id := "isinstance") call_isi hg hm (by decide +kernel) (pa_cons ha (pa_cons (pe_bltn (v := V.ty T.nm) hgT hmT hvT rfl hnT hdT) pa_nil) hs) (by decide) (by decide) hs) fun σ H Q h => ?_
  obtain ⟨b, g, ρ, rfl, s, r, h⟩ := h
  refine ⟨b, g, ρ, rfl, s, r, h.bind.mono fun x g1 x1 s1 h1 v rv => ?_⟩
  split at h1
  · rename_i t e1
    exact ⟨v, .ty T.nm, .type t.nm, .type T.nm, t.sub T, rfl, .ty _, tyR_ok s1.so e1 rv, kit_ty (ty_kit t T hT), h1 g1 rfl .refl s1 _ (rel_bl.mpr rfl)⟩
  · exact h1.elim
theorem de_isi2 {tk : Nat} (T U : Ty) (hT : T ≠ .non := by decide) (hU : U ≠ .non := by decide) (hg : Gl X "isinstance") (hm : X.mg "isinstance" = none) (hgT : Gl X y) (hmT : X.mg y = none) (hvT : bootBuiltins y = some (.type T.nm)) (hgU : Gl X z) (hmU : X.mg z = none) (hvU : bootBuiltins z = some (.type U.nm))
    (hnT : y ≠ "__name__" := by decide) (hdT : (y == ("__debug__" : Str)) = false := by decide) (hnU : z ≠ "__name__" := by decide) (hdU : (z == ("__debug__" : Str)) = false := by decide)
    (ha : DE X C W e m) (hs : starEach [e, .Tuple [.Name y p1, .Name z p2] tk p3] X.env = (false, eval e X.env) :: starEach [.Tuple [.Name y p1, .Name z p2] tk p3] X.env := by rfl) :
    DE X C W (.Call (.Name "isinstance" p) [e, .Tuple [.Name y p1, .Name z p2] tk p3] [] pos) (mIsi2 T U m) := by
  refine weaken (pe_callB (x := "isinstance") (id := "isinstance") call_isiT hg hm (by decide +kernel) (pa_cons ha (pa_cons (pe_tup (pa_cons (pe_bltn (v := V.ty T.nm) hgT hmT hvT rfl hnT hdT) (pa_cons (pe_bltn (v := V.ty U.nm) hgU hmU hvU rfl hnU hdU) pa_nil))) pa_nil) hs) (by decide) (by decide) hs) fun σ H Q h => ?_
  obtain ⟨b, g, ρ, rfl, s, r, h⟩ := h
  refine ⟨b, g, ρ, rfl, s, r, h.bind.mono fun x g1 x1 s1 h1 v rv => ?_⟩
  split at h1
  · rename_i t e1
    refine ⟨by show 2 ≤ sizeLine; decide, fun tp hp => ?_⟩
    have x2 : Ext b g1 (g1.up tp (.tup [V.ty T.nm, V.ty U.nm])) := Ext.up hp
    refine ⟨v, tp, [.ty T.nm, .ty U.nm], .type t.nm, [.type T.nm, .type U.nm], t.sub T || t.sub U, rfl, upd_same, .cons (.ty _) (.cons (.ty _) .nil), ?_, ?_, ?_⟩
    · exact tyR_ok (g := g1.up tp (.tup [V.ty T.nm, V.ty U.nm])) (s1.up hp).so e1 (rv.mono s1.so x2)
    · refine kitAny_cons (kit_ty (ty_kit t T hT)) (fun z => ?_) fun z => by rw [z]; rfl
      rw [z, Bool.false_or]
      refine kitAny_cons (kit_ty (ty_kit t U hU)) (fun z => ?_) fun z => z
      rw [z]; rfl
    · exact h1 (g1.up tp _) rfl x2 (s1.up hp) _ (rel_bl.mpr rfl)
  · exact h1.elim
end

/-! ### methods of lists -/
abbrev FM := Nat → R → List R → Sto → Option (R × Sto)
def isLst (x : R) (S : Sto) : Bool := (viewL x S).isSome
def mMeth (f : FM) (mo : ME) (ma : MA) : ME := fun b ρ S => (mo b ρ S).bind fun x S1 => if isLst x S1 = true then (ma b ρ S1).bind fun rs S2 => .ofO (f b x rs S2) else .bad
def liftM (K : PySem.W.Frag) (C : DC) (f : FM) : V → List V → Hp → VK → Prop := fun x xs H Q => ∃ b g r rs, g.H = H ∧ Gd K C b g ∧ RelR K C g r x ∧ RelRs K C g rs xs ∧ OkO K C b g (f b r rs g.S) fun r g' => ∀ v, RelR K C g' r v → Q v g'.H
theorem weakenMt {X : Cx} {id : String} {r r' : V → List V → Hp → VK → Prop} (h : MtR X id r) (w : ∀ x xs H Q, r' x xs H Q → r x xs H Q) : MtR X id r' := fun pins s σ H x xs v us Q I rx rxs q => h pins s σ H x xs v us Q I rx rxs (w x xs H Q q)
section
variable {X : Cx} {C : DC} {W : WX} {o e : Expr} {es : List Expr} {mo : ME} {ma : MA} {name : Str} {apos cpos : Pos} {id : String} {f : FM}
theorem isLst_ok {K : PySem.W.Frag} {g : Cfg} {x : R} {v : V} (s : SoR K C g) (e : isLst x g.S = true) (r : RelR K C g x v) : tyV K "list" v g.H := by
  unfold isLst at e
  cases q : viewL x g.S with
  | none => rw [q] at e; cases e
  | some rs =>
    obtain ⟨a, vs, rfl, e2, _⟩ := viewL_ok s q r
    exact .inl ⟨rfl, vs, e2⟩
theorem de_bm (slot : Slot "list" name id) (hty : typeOf (.builtin id) = pure (.type "method_descriptor")) (hm : MtR X id (liftM X.K C f)) (ho : DE X C W o mo) (ha : DA X C W (e :: es) ma)
    (hbase : attributeBase o name X.env (eval o X.env) = eval o X.env := by rfl)
    (hfew : ((backTo cpos (starEach (e :: es) X.env)).all (fun x => !x.1) && (backToKw cpos (keywordEach [] X.env)).all (fun x => x.1.isSome)
      && decide ((e :: es).length + ([] : List Keyword).length + (if ([] : List Keyword).isEmpty then 0 else 1) < 30)) = true := by rfl)
    (hline : (apos.endLine == cpos.line) = true := by rfl) (hs : starEach (e :: es) X.env = (false, eval e X.env) :: starEach es X.env := by rfl) (hplain : (backTo cpos (starEach es X.env)).any (·.1) = false := by rfl) :
    DE X C W (.Call (.Attribute o name apos) (e :: es) [] cpos) (mMeth f mo ma) := weaken (pe_bm PySem.F.plainAttrs_list slot hty hm ho ha hbase hfew hline hs hplain) fun σ H Q h => by
  obtain ⟨b, g, ρ, rfl, s, r, h⟩ := h
  refine ⟨b, g, ρ, rfl, s, r, h.bind.mono fun x g1 x1 s1 h1 v rv => ?_⟩
  split at h1
  · rename_i hi
    exact ⟨isLst_ok s1.so hi rv, b, g1, ρ, rfl, s1, r.mono s.so x1, h1.bind.mono fun rs g2 x2 s2 h2 vs rvs => ⟨b, g2, x, rs, rfl, s2, rv.mono s1.so x2, rvs, .of h2⟩⟩
  · exact h1.elim
theorem de_bm0 (slot : Slot "list" name id) (hty : typeOf (.builtin id) = pure (.type "method_descriptor")) (hm : MtR X id (liftM X.K C f)) (ho : DE X C W o mo)
    (hbase : attributeBase o name X.env (eval o X.env) = eval o X.env := by rfl) (hline : (apos.endLine == cpos.line) = true := by rfl) : DE X C W (.Call (.Attribute o name apos) [] [] cpos) (mMeth f mo mNil) :=
  weaken (pe_bm0 PySem.F.plainAttrs_list slot hty hm ho hbase hline) fun σ H Q h => by
    obtain ⟨b, g, ρ, rfl, s, r, h⟩ := h
    refine ⟨b, g, ρ, rfl, s, r, h.bind.mono fun x g1 x1 s1 h1 v rv => ?_⟩
    split at h1
    · rename_i hi
      exact ⟨isLst_ok s1.so hi rv, b, g1, x, [], rfl, s1, rv, rfl, .of h1⟩
    · exact h1.elim
/-- the list at l -/
def lstAt (r : R) (S : Sto) : Option (Nat × List R) := match r with
  | .loc l => match S[l]? with
    | some (.box .lst rs) => some (l, rs)
    | _ => none
  | _ => none
def appF : FM := fun b x as S => match lstAt x S, as with
  | some (l, rs), [y] => if rs.length < sizeLine ∧ fits b l y = true then some (.non, S.set l (.box .lst (rs ++ [y]))) else none
  | _, _ => none
def popF : FM := fun _ x as S => match lstAt x S, as with
  | some (l, rs), [] => match rs[rs.length - 1]? with
    | some y => some (y, S.set l (.box .lst rs.dropLast))
    | none => none
  | _, _ => none
def popAtF : FM := fun _ x as S => match lstAt x S, as with
  | some (l, rs), [.d (.lf (.int i))] => if -(2 ^ 63) ≤ i ∧ i < 2 ^ 63 then match seqIndex? i rs.length with
    | some k => match rs[k]? with
      | some y => some (y, S.set l (.box .lst (rs.eraseIdx k)))
      | none => none
    | none => none
    else none
  | _, _ => none
theorem lstAt_ok {K : PySem.W.Frag} {g : Cfg} {x : R} {l : Nat} {rs : List R} {v : V} (s : SoR K C g) (e : lstAt x g.S = some (l, rs)) (r : RelR K C g x v) :
    x = .loc l ∧ g.S[l]? = some (.box .lst rs) ∧ ∃ a vs, v = .ref a ∧ g.io[l]? = some (some a) ∧ g.H a = some (.lst vs) ∧ RelRs K C g rs vs := by
  unfold lstAt at e
  split at e
  · split at e
    · rename_i q
      cases e
      obtain ⟨a, vs, h1, h2, h3, h4, h5⟩ := s.box q r
      exact ⟨rfl, q, a, vs, h1, h2, h4, h5⟩
    · cases e
  · cases e
theorem m_append : MtR X "list.append" (liftM X.K C appF) := by
  refine weakenMt mt_append fun x xs H Q h => ?_
  obtain ⟨b, g, r, rs, rfl, s, q1, q2, h⟩ := h
  unfold appF at h
  split at h
  · rename_i l ys y e
    obtain ⟨rfl, e1, a, vs, rfl, e2, e3, e4⟩ := lstAt_ok s.so e q1
    obtain ⟨u, rfl, ru⟩ := relRs_one q2
    split at h
    · rename_i hz
      obtain ⟨x1, s1⟩ := put_ok (o := .lst (vs ++ [u])) (k' := .lst) (rs := ys ++ [y]) (vs := vs ++ [u]) s e1 e2 (show upd g.H a _ a = _ from upd_same) (e4.append (.one ru)) (by
        cases y with
        | loc l' => left; simpa [fits] using hz.2
        | d z => right; intro r hr; rcases List.mem_append.mp hr with hr | hr; exact .inl hr; exact .inr ⟨z, by simpa using hr⟩)
      exact ⟨a, vs, u, rfl, rfl, e3, by rw [← e4.len]; exact hz.1, h _ rfl x1 s1 _ (rel_non.mpr rfl)⟩
    · exact h.elim
  · exact h.elim
theorem m_pop : MtR X "list.pop" (liftM X.K C popF) := by
  refine weakenMt mt_pop fun x xs H Q h => ?_
  obtain ⟨b, g, r, rs, rfl, s, q1, q2, h⟩ := h
  unfold popF at h
  split at h
  · rename_i l ys e
    obtain ⟨rfl, e1, a, vs, rfl, e2, e3, e4⟩ := lstAt_ok s.so e q1
    split at h
    · rename_i y ey
      obtain ⟨u, eu, ru⟩ := e4.get ey
      have e5 : RelRs X.K C g ys.dropLast vs.dropLast := by
        rw [List.dropLast_eq_take, List.dropLast_eq_take, ← e4.len]; exact e4.take _
      obtain ⟨x1, s1⟩ := put_ok (o := .lst vs.dropLast) (k' := .lst) (rs := ys.dropLast) (vs := vs.dropLast) s e1 e2 (show upd g.H a _ a = _ from upd_same) e5 (.inr fun r hr => .inl (by rw [List.dropLast_eq_take] at hr; exact List.mem_of_mem_take hr))
      exact ⟨a, vs, u, rfl, q2, e3, by rw [← e4.len]; exact eu, h _ rfl x1 s1 _ (ru.mono s.so x1)⟩
    · exact h.elim
  · exact h.elim
theorem m_popAt : MtR X "list.pop" (liftM X.K C popAtF) := by
  refine weakenMt mt_popAt fun x xs H Q h => ?_
  obtain ⟨b, g, r, rs, rfl, s, q1, q2, h⟩ := h
  unfold popAtF at h
  split at h
  · rename_i l ys i e
    obtain ⟨rfl, e1, a, vs, rfl, e2, e3, e4⟩ := lstAt_ok s.so e q1
    obtain ⟨w, rfl, rw'⟩ := relRs_one q2
    rw [rel_int] at rw'
    subst rw'
    split at h
    · rename_i hz
      split at h
      · rename_i k ek
        split at h
        · rename_i y ey
          obtain ⟨u, eu, ru⟩ := e4.get ey
          obtain ⟨x1, s1⟩ := put_ok (o := .lst (vs.eraseIdx k)) (k' := .lst) (rs := ys.eraseIdx k) (vs := vs.eraseIdx k) s e1 e2 (show upd g.H a _ a = _ from upd_same) (e4.eraseIdx k) (.inr fun r hr => .inl (List.mem_of_mem_eraseIdx hr))
          exact ⟨a, vs, i, k, u, rfl, rfl, e3, hz.1, hz.2, by rw [← e4.len]; exact ek, eu, h _ rfl x1 s1 _ (ru.mono s.so x1)⟩
        · exact h.elim
      · exact h.elim
    · exact h.elim
  · exact h.elim
end
end DL

set_option maxHeartbeats 1000000
/-! DL6: statements, loops, comprehensions. -/
namespace DL
open PySem PySem.Spec PyProof.Rows L2

section
variable (K : PySem.W.Frag) (C : DC)
def FlR (g : Cfg) (σ : L2.St) (f : Fl) (E : Ends) : Prop :=
  match f with
  | .nx ρ => EnvR K C g σ ρ → E.nx σ g.H
  | .rt r => ∀ v, RelR K C g r v → E.rt v g.H
  | .bk ρ => EnvR K C g σ ρ → E.bk σ g.H
  | .ct ρ => EnvR K C g σ ρ → E.ct σ g.H
def OkS (W : WX) (b : Nat) (g : Cfg) (o : Out (Exn × Env) Fl) (E : Ends) : Prop :=
  match o with
  | .ok f S' => ∀ g' σ', g'.S = S' → Ext b g g' → Gd K C b g' → FlR K C g' σ' f E
  | .exc (e, ρ) S' => ∀ g' σ' od, g'.S = S' → Ext b g g' → Gd K C b g' → EnvR K C g' σ' ρ → ExR K C g' e od → W (.ref (C.adr e.c)) od σ' g'.H
  | .bad => False
def liftS (W : WX) (m : MS) : TS := fun E σ H => ∃ b g ρ, g.H = H ∧ Gd K C b g ∧ EnvR K C g σ ρ ∧ OkS K C W b g (m b ρ g.S) E
end
def Out.bindS {α : Type} (o : Out Exn α) (ρ : Env) (f : α → Sto → Out (Exn × Env) Fl) : Out (Exn × Env) Fl :=
  match o with
  | .ok a S => f a S
  | .exc e S => .exc (e, ρ) S
  | .bad => .bad
def mSeq (m1 m2 : MS) : MS := fun b ρ S => match m1 b ρ S with
  | .ok (.nx ρ1) S1 => m2 b ρ1 S1
  | o => o
abbrev DS (X : Cx) (C : DC) (W : WX) (st : Stmt) (m : MS) : Prop := PS X st (liftS X.K C W m)
abbrev DSs (X : Cx) (C : DC) (W : WX) (st : List Stmt) (m : MS) : Prop := PSs X st (liftS X.K C W m)

section
variable {K : PySem.W.Frag} {C : DC} {W : WX} {b : Nat} {σ : L2.St} {g g1 : Cfg} {E : Ends}
theorem OkS.move {o : Out (Exn × Env) Fl} (h : OkS K C W b g o E) (x : Ext b g g1) : OkS K C W b g1 o E := by
  cases o with
  | ok f S => exact fun g' σ' e y s => h g' σ' e (x.trans y) s
  | exc e S => exact fun g' σ' od e y s => h g' σ' od e (x.trans y) s
  | bad => exact h
theorem OkE.move {α : Type} {o : Out Exn α} {k : α → Cfg → Prop} (h : OkE K C W b σ g o k) (x : Ext b g g1) : OkE K C W b σ g1 o k := by
  cases o with
  | ok f S => exact fun g' e y s => h g' e (x.trans y) s
  | exc e S => exact fun g' od e y s => h g' od e (x.trans y) s
  | bad => exact h
theorem OkS.bindS {α : Type} {o : Out Exn α} {ρ : Env} {f : α → Sto → Out (Exn × Env) Fl} (h : OkS K C W b g (o.bindS ρ f) E) (s : SoR K C g) (r : EnvR K C g σ ρ) : OkE K C W b σ g o fun a g1 => OkS K C W b g1 (f a g1.S) E := by
  cases o with
  | bad => exact h
  | exc e S => exact fun g' od e1 x s' q => h g' σ od e1 x s' (r.mono s x) q
  | ok a S =>
    intro g1 e1 x1 s1
    subst e1
    exact OkS.move (o := f a g1.S) h x1
end
section
variable {X : Cx} {C : DC} {W : WX}
theorem weakenS {st : Stmt} {t t' : TS} (h : PS X st t) (w : ∀ D σ H, t' D σ H → t D σ H) : PS X st t' := ⟨fun pins s σ H D I q => h.run pins s σ H D I (w D σ H q)⟩
theorem weakenSs {st : List Stmt} {t t' : TS} (h : PSs X st t) (w : ∀ D σ H, t' D σ H → t D σ H) : PSs X st t' := ⟨fun pins s σ H D I q => h.run pins s σ H D I (w D σ H q)⟩
variable {st : Stmt} {rest : List Stmt} {m u : MS} {e : Expr} {me : ME} {pos : Pos}
def mSkip : MS := fun _ ρ S => .ok (.nx ρ) S
def mNever : MS := fun _ _ _ => .bad
theorem dss_nil : DSs X C W [] mSkip := weakenSs pss_nil fun E σ H h => by
  obtain ⟨b, g, ρ, rfl, s, r, h⟩ := h
  exact h g σ rfl .refl s r
theorem dss_one (h : DS X C W st m) : DSs X C W [st] m := pss_one h
theorem seq_lift {K : PySem.W.Frag} {E : Ends} {σ : L2.St} {H : Hp} (h : liftS K C W (mSeq m u) E σ H) : liftS K C W m { E with nx := liftS K C W u E } σ H := by
  obtain ⟨b, g, ρ, rfl, s, r, h⟩ := h
  refine ⟨b, g, ρ, rfl, s, r, ?_⟩
  unfold mSeq at h
  cases q : m b ρ g.S with
  | bad => rw [q] at h; exact h
  | exc e S => rw [q] at h; exact h
  | ok f S =>
    rw [q] at h
    intro g1 σ1 e1 x1 s1
    cases f with
    | rt v => exact h g1 σ1 e1 x1 s1
    | bk v => exact h g1 σ1 e1 x1 s1
    | ct v => exact h g1 σ1 e1 x1 s1
    | nx ρ1 =>
      intro r1
      subst e1
      exact ⟨b, g1, ρ1, rfl, s1, r1, OkS.move (o := u b ρ1 g1.S) h x1⟩
theorem dss_cons (h1 : DS X C W st m) (h2 : DSs X C W rest u) : DSs X C W (st :: rest) (mSeq m u) := weakenSs (pss_cons h1 h2) fun E σ H h => seq_lift h
theorem ds_pass : DS X C W (.Pass pos) mSkip := weakenS ps_pass fun E σ H h => by
  obtain ⟨b, g, ρ, rfl, s, r, h⟩ := h
  exact h g σ rfl .refl s r
theorem ds_break : DS X C W (.Break pos) (fun _ ρ S => .ok (.bk ρ) S) := weakenS ps_break fun E σ H h => by
  obtain ⟨b, g, ρ, rfl, s, r, h⟩ := h
  exact h g σ rfl .refl s r
theorem ds_cont : DS X C W (.Continue pos) (fun _ ρ S => .ok (.ct ρ) S) := weakenS ps_continue fun E σ H h => by
  obtain ⟨b, g, ρ, rfl, s, r, h⟩ := h
  exact h g σ rfl .refl s r
theorem ds_never : DS X C W st mNever := weakenS ps_never fun E σ H h => by
  obtain ⟨b, g, ρ, rfl, s, r, h⟩ := h
  exact h
theorem dss_never : DSs X C W rest mNever := weakenSs pss_never fun E σ H h => by
  obtain ⟨b, g, ρ, rfl, s, r, h⟩ := h
  exact h
def mDrop (me : ME) : MS := fun b ρ S => (me b ρ S).bindS ρ fun _ S1 => .ok (.nx ρ) S1
theorem ds_expr (h : DE X C W e me) (hs : swapsWith e none pos.line X.env = pure false := by rfl) : DS X C W (.Expr e pos) (mDrop me) := weakenS (ps_expr h hs) fun E σ H h => by
  obtain ⟨b, g, ρ, rfl, s, r, h⟩ := h
  exact ⟨b, g, ρ, rfl, s, r, (h.bindS s.so r).mono fun x g1 x1 s1 h1 v rv => h1 g1 σ rfl .refl s1 (r.mono s.so x1)⟩
def mRet (me : ME) : MS := fun b ρ S => (me b ρ S).bindS ρ fun x S1 => .ok (.rt x) S1
theorem ds_ret (h : DE X C W e me) : DS X C W (.Return (some e) pos) (mRet me) := weakenS (ps_ret h) fun E σ H h => by
  obtain ⟨b, g, ρ, rfl, s, r, h⟩ := h
  exact ⟨b, g, ρ, rfl, s, r, (h.bindS s.so r).mono fun x g1 x1 s1 h1 v rv => h1 g1 σ rfl .refl s1 v rv⟩
theorem ds_retN : DS X C W (.Return none pos) (fun _ _ S => .ok (.rt .non) S) := weakenS ps_retN fun E σ H h => by
  obtain ⟨b, g, ρ, rfl, s, r, h⟩ := h
  exact h g σ rfl .refl s _ (rel_non.mpr rfl)
def mIfS (t : MT) (m u : MS) : MS := fun b ρ S => (t b ρ S).bindS ρ fun k S1 => if k = true then m b ρ S1 else u b ρ S1
theorem ds_if {a c : List Stmt} {t : MT} (hc : DT X C W e t) (ha : DSs X C W a m) (hb : DSs X C W c u) : DS X C W (.If e a c pos) (mIfS t m u) := weakenS (ps_if hc ha hb) fun E σ H h => by
  obtain ⟨b, g, ρ, rfl, s, r, h⟩ := h
  refine ⟨b, g, ρ, rfl, s, r, (h.bindS s.so r).mono fun k g1 x1 s1 h1 => ?_⟩
  cases k with
  | true => exact iteT ⟨b, g1, ρ, rfl, s1, r.mono s.so x1, h1⟩
  | false => exact iteF ⟨b, g1, ρ, rfl, s1, r.mono s.so x1, h1⟩
def mSet (i : Nat) (me : ME) : MS := fun b ρ S => (me b ρ S).bindS ρ fun x S1 => .ok (.nx (ρ.set i (some x))) S1
theorem ds_set (i : Nat) {x : Str} {pos' : Pos} (hN : X.N.Nodup) (h : DE X C W e me) (hi : X.N[i]? = some x := by rfl) (hx : Loc X.env.scope x := by first | exact Or.inl rfl | exact Or.inr rfl) (hs : swapsWith e (some (.Name x pos')) pos.line X.env = pure false := by rfl)
    (hf : X.fn x = true ∨ X.env.scope.names.lookup x = some .local := by first | exact .inl rfl | exact .inr rfl) : DS X C W (.Assign [.Name x pos'] e pos) (mSet i me) := weakenS (ps_set (i := i) hN hi hx h hs hf) fun E σ H h => by
  obtain ⟨b, g, ρ, rfl, s, r, h⟩ := h
  exact ⟨b, g, ρ, rfl, s, r, (h.bindS s.so r).mono fun x g1 x1 s1 h1 v rv => h1 g1 _ rfl .refl s1 ((r.mono s.so x1).set rv)⟩

/-! ### targets -/
abbrev GT := R → Env → Sto → Option Env
abbrev GTs := List R → Env → Sto → Option Env
def liftG (K : PySem.W.Frag) (C : DC) (gt : GT) : TG := fun v σ H Q => ∃ b g ρ r, g.H = H ∧ Gd K C b g ∧ EnvR K C g σ ρ ∧ RelR K C g r v ∧ ∃ ρ', gt r ρ g.S = some ρ' ∧ ∀ σ', EnvR K C g σ' ρ' → Q σ' g.H
def liftGs (K : PySem.W.Frag) (C : DC) (gt : GTs) : TGs := fun vs σ H Q => ∃ b g ρ rs, g.H = H ∧ Gd K C b g ∧ EnvR K C g σ ρ ∧ RelRs K C g rs vs ∧ ∃ ρ', gt rs ρ g.S = some ρ' ∧ ∀ σ', EnvR K C g σ' ρ' → Q σ' g.H
abbrev DG (X : Cx) (C : DC) (e : Expr) (gt : GT) : Prop := PG X e (liftG X.K C gt)
abbrev DGs (X : Cx) (C : DC) (es : List Expr) (gt : GTs) : Prop := PGs X es (liftGs X.K C gt)
theorem weakenG {e : Expr} {t t' : TG} (h : PG X e t) (w : ∀ v σ H Q, t' v σ H Q → t v σ H Q) : PG X e t' := ⟨fun pins s σ H v u Q I r q => h.run pins s σ H v u Q I r (w v σ H Q q)⟩
theorem weakenGs {e : List Expr} {t t' : TGs} (h : PGs X e t) (w : ∀ v σ H Q, t' v σ H Q → t v σ H Q) : PGs X e t' := ⟨fun pins s σ H v u Q I r q => h.run pins s σ H v u Q I r (w v σ H Q q)⟩
def gN (i : Nat) : GT := fun r ρ _ => some (ρ.set i (some r))
def gsNil : GTs := fun rs ρ _ => match rs with
  | [] => some ρ
  | _ => none
def gsCons (h : GT) (t : GTs) : GTs := fun rs ρ S => match rs with
  | r :: rs => (h r ρ S).bind fun ρ1 => t rs ρ1 S
  | [] => none
def gT (n : Nat) (t : GTs) : GT := fun r ρ S => match viewT r with
  | some ds => if ds.length = n then t (ds.map .d) ρ S else none
  | none => none
theorem dg_name (i : Nat) {x : Str} (hN : X.N.Nodup) (hi : X.N[i]? = some x := by rfl) (hx : Loc X.env.scope x := by first | exact Or.inl rfl | exact Or.inr rfl) (hf : X.fn x = true ∨ X.env.scope.names.lookup x = some .local := by first | exact .inl rfl | exact .inr rfl) : DG X C (.Name x pos) (gN i) :=
  weakenG (pg_name (i := i) hN hi hx hf) fun v σ H Q h => by
    obtain ⟨b, g, ρ, r, rfl, s, q, rr, ρ', e, h⟩ := h
    cases e
    exact h _ (q.set rr)
theorem dgs_nil : DGs X C [] gsNil := weakenGs pgs_nil fun v σ H Q h => by
  obtain ⟨b, g, ρ, rs, rfl, s, q, rr, ρ', e, h⟩ := h
  cases rs with
  | nil => cases e; exact ⟨rr, h _ q⟩
  | cons => cases e
theorem dgs_cons {es : List Expr} {gh : GT} {gr : GTs} (h1 : DG X C e gh) (h2 : DGs X C es gr) (hs : (assignEach (e :: es) X.env).map (·.2) = assign e X.env :: (assignEach es X.env).map (·.2) := by rfl) : DGs X C (e :: es) (gsCons gh gr) :=
  weakenGs (pgs_cons h1 h2 hs) fun v σ H Q h => by
    obtain ⟨b, g, ρ, rs, rfl, s, q, rr, ρ', e, h⟩ := h
    cases rs with
    | nil => cases e
    | cons r rs =>
      obtain ⟨u, us, rfl, r1, r2⟩ := rr
      simp only [gsCons, Option.bind_eq_some_iff] at e
      obtain ⟨ρ1, e1, e2⟩ := e
      exact ⟨u, us, rfl, b, g, ρ, r, rfl, s, q, r1, ρ1, e1, fun σ1 q1 => ⟨b, g, ρ1, rs, rfl, s, q1, r2, ρ', e2, h⟩⟩
theorem dg_tup {es : List Expr} {k : Nat} {gr : GTs} {n : Nat} (hc : X.calm = true) (h : DGs X C es gr) (hn : (assignEach es X.env).length = n := by rfl) (hst : (assignEach es X.env).findIdx? (·.1) = none := by rfl) : DG X C (.Tuple es k pos) (gT n gr) :=
  weakenG (pg_tup hc h hn hst) fun v σ H Q h => by
    obtain ⟨b, g, ρ, r, rfl, s, q, rr, ρ', e, h⟩ := h
    unfold gT at e
    split at e
    · rename_i ds e1
      split at e
      · rename_i hl
        obtain ⟨a, vs, rfl, e2, e3⟩ := viewT_ok e1 rr
        exact ⟨a, vs, rfl, e2, by rw [← e3.len]; exact hl, b, g, ρ, ds.map .d, rfl, s, q, .of_rels _ e3, ρ', e, h⟩
      · cases e
    · cases e
def mAsg (gt : GT) (me : ME) : MS := fun b ρ S => (me b ρ S).bindS ρ fun x S1 => match gt x ρ S1 with
  | some ρ1 => .ok (.nx ρ1) S1
  | none => .bad
theorem ds_asg {tg : Expr} {gt : GT} (he : DE X C W e me) (hg : DG X C tg gt) (hs : swapsWithSole [tg] e pos.line X.env = pure false := by rfl) (hw : swappedStores [tg] e X.env = pure none := by rfl)
    (h1 : (assignEach [tg] X.env).map (·.2) = [assign tg X.env] := by rfl) : DS X C W (.Assign [tg] e pos) (mAsg gt me) := weakenS (ps_asg he hg hs hw h1) fun E σ H h => by
  obtain ⟨b, g, ρ, rfl, s, r, h⟩ := h
  refine ⟨b, g, ρ, rfl, s, r, (h.bindS s.so r).mono fun x g1 x1 s1 h1 v rv => ?_⟩
  split at h1
  · rename_i ρ1 e1
    exact ⟨b, g1, ρ, x, rfl, s1, r.mono s.so x1, rv, ρ1, e1, fun σ' q => h1 g1 σ' rfl .refl s1 q⟩
  · exact h1.elim
end

/-! ### what a loop walks -/
/-- a thing to walk: fixed items, or the list at a place -/
inductive Src where
  | fix (rs : List R) | at_ (l : Nat)
def chars (z : Str) : List R := z.cps.toList.map fun c => .str ⟨#[c]⟩
def srcOf (r : R) : Option Src := match r with
  | .d (.box .tup ds) => some (.fix (ds.map .d))
  | .d (.box .lst ds) => some (.fix (ds.map .d))
  | .d (.box .lck ds) => some (.fix (ds.map .d))
  | .d (.lf (.str z)) => some (.fix (chars z))
  | .loc l => some (.at_ l)
  | _ => none
def rangeL (lo : Int) (n : Nat) : List R := (List.range n).map fun i : Nat => .int (lo + (i : Int))
/-- item i: not there any more, an item, or no list -/
def itemAt (src : Src) (i : Nat) (S : Sto) : Option (Option R) := match src with
  | .fix rs => some rs[i]?
  | .at_ l => match S[l]? with
    | some (.box .lst rs) => some rs[i]?
    | _ => none
def fuelOf (src : Src) (S : Sto) : Nat := match src with
  | .fix rs => rs.length + 1
  | .at_ l => match S[l]? with
    | some (.box .lst rs) => rs.length + 1
    | _ => 0
def loopS (gt : GT) (body : MS) (src : Src) : Nat → Nat → MS
  | 0, _ => fun _ _ _ => .bad
  | n + 1, i => fun b ρ S => match itemAt src i S with
    | none => .bad
    | some none => .ok (.nx ρ) S
    | some (some x) => match gt x ρ S with
      | none => .bad
      | some ρ1 => match body b ρ1 S with
        | .ok (.nx ρ2) S2 => loopS gt body src n (i + 1) b ρ2 S2
        | .ok (.ct ρ2) S2 => loopS gt body src n (i + 1) b ρ2 S2
        | .ok (.bk ρ2) S2 => .ok (.nx ρ2) S2
        | o => o
def mFor (gt : GT) (me : ME) (body : MS) : MS := fun b ρ S => (me b ρ S).bindS ρ fun x S1 => match srcOf x with
  | some src => loopS gt body src (fuelOf src S1) 0 b ρ S1
  | none => .bad
def okR (i : Int) : Bool := decide (-(2 ^ 62) ≤ i) && decide (i < 2 ^ 62)
def rngOf1 (rs : List R) : Option (List R) := match rs with
  | [.d (.lf (.int j))] => if okR j = true then some (rangeL 0 j.toNat) else none
  | _ => none
def rngOf2 (rs : List R) : Option (List R) := match rs with
  | [.d (.lf (.int i)), .d (.lf (.int j))] => if (okR i && okR j) = true then some (rangeL i (j - i).toNat) else none
  | _ => none
def mForR (rng : List R → Option (List R)) (gt : GT) (ma : MA) (body : MS) : MS := fun b ρ S => (ma b ρ S).bindS ρ fun rs S1 => match rng rs with
  | some xs => loopS gt body (.fix xs) (xs.length + 1) 0 b ρ S1
  | none => .bad

section
variable {K : PySem.W.Frag} {C : DC}
/-- the source at a state: items as the iterator yields them -/
def SrcOk (K : PySem.W.Frag) (C : DC) (src : Src) (J : It) (P : Cfg → Prop) : Prop :=
  (∀ g g', P g → Kp g g' → P g') ∧
  ∀ g i, P g → SoR K C g → match itemAt src i g.S with
    | none => True
    | some none => J.stop i g.H
    | some (some x) => J.go i g.H ∧ ∀ v H', J.yld i g.H v H' → H' = g.H ∧ RelR K C g x v
theorem src_list {r : R} {src : Src} {a : Addr} (e : srcOf r = some src) (ht : viewT r = none) (hs : ∀ z, r ≠ .d (.lf (.str z))) : SrcOk K C src (Itl K a) fun g => RelR K C g r (.ref a) := by
  refine ⟨fun g g' p x => x.rel p, fun g i p s => ?_⟩
  have key : ∀ rs, viewL r g.S = some rs → itemAt src i g.S = some rs[i]? → match itemAt src i g.S with
      | none => True
      | some none => (Itl K a).stop i g.H
      | some (some x) => (Itl K a).go i g.H ∧ ∀ v H', (Itl K a).yld i g.H v H' → H' = g.H ∧ RelR K C g x v := fun rs e1 e0 => by
    obtain ⟨a', vs, e2, e3, e4⟩ := viewL_ok s e1 p
    cases e2
    rw [e0]
    cases q : rs[i]? with
    | none =>
      have h1 := List.getElem?_eq_none_iff.mp q
      exact ⟨vs, e3, by rw [← e4.len]; exact h1⟩
    | some x =>
      obtain ⟨v, e5, e6⟩ := e4.get q
      refine ⟨⟨vs, v, e3, e5⟩, fun v' H' ⟨h1, h2⟩ => ⟨h1, ?_⟩⟩
      have h3 := h2 vs e3
      rw [e5] at h3
      cases h3
      exact e6
  unfold srcOf at e
  split at e
  · cases ht
  · cases e; exact key _ rfl rfl
  · cases e; exact key _ rfl rfl
  · exact absurd rfl (hs _)
  · rename_i l
    cases e
    cases q : g.S[l]? with
    | none => simp only [itemAt, q]
    | some ob =>
      cases ob with
      | dead => simp only [itemAt, q]
      | box k rs =>
        cases k with
        | lst => exact key rs (by simp only [viewL, q]) (by simp only [itemAt, q])
        | _ => simp only [itemAt, q]
  · cases e
theorem src_tup {ds : List D} {a : Addr} : SrcOk K C (.fix (ds.map .d)) (Itt K a) fun g => RelR K C g (.d (.box .tup ds)) (.ref a) := by
  refine ⟨fun g g' p x => x.rel p, fun g i p s => ?_⟩
  obtain ⟨a', vs, e2, e3, e4⟩ := viewT_ok (K := K) (C := C) (g := g) (ds := ds) rfl p
  cases e2
  have e4 := RelRs.of_rels ds e4
  show match some (ds.map R.d)[i]? with
    | none => True
    | some none => (Itt K a).stop i g.H
    | some (some x) => (Itt K a).go i g.H ∧ ∀ v H', (Itt K a).yld i g.H v H' → H' = g.H ∧ RelR K C g x v
  cases q : (ds.map R.d)[i]? with
  | none =>
    have h1 := List.getElem?_eq_none_iff.mp q
    exact ⟨vs, e3, by rw [← e4.len]; exact h1⟩
  | some x =>
    obtain ⟨v, e5, e6⟩ := e4.get q
    refine ⟨⟨vs, v, e3, e5⟩, fun v' H' ⟨h1, h2⟩ => ⟨h1, ?_⟩⟩
    have h3 := h2 vs e3
    rw [e5] at h3
    cases h3
    exact e6
theorem src_str {z : Str} : SrcOk K C (.fix (chars z)) (Its z) fun _ => True := by
  refine ⟨fun _ _ _ _ => True.intro, fun g i _ s => ?_⟩
  show match some (chars z)[i]? with
    | none => True
    | some none => (Its z).stop i g.H
    | some (some x) => (Its z).go i g.H ∧ ∀ v H', (Its z).yld i g.H v H' → H' = g.H ∧ RelR K C g x v
  cases q : (chars z)[i]? with
  | none =>
    have h1 := List.getElem?_eq_none_iff.mp q
    show z.cps.size ≤ i
    simpa [chars] using h1
  | some x =>
    unfold chars at q
    rw [List.getElem?_map, Option.map_eq_some_iff] at q
    obtain ⟨c, q1, rfl⟩ := q
    have q2 : z.cps[i]? = some c := by rw [← Array.getElem?_toList]; exact q1
    refine ⟨?_, fun v' H' ⟨h1, c', h2, h3⟩ => ⟨h1, ?_⟩⟩
    · show i < z.cps.size
      exact (Array.getElem?_eq_some_iff.mp q2).1
    · rw [q2] at h2
      cases h2
      exact rel_str.mpr h3
theorem src_rng {lo : Int} {n : Nat} : SrcOk K C (.fix (rangeL lo n)) (Itr lo n) fun _ => True := by
  refine ⟨fun _ _ _ _ => True.intro, fun g i _ s => ?_⟩
  show match some (rangeL lo n)[i]? with
    | none => True
    | some none => (Itr lo n).stop i g.H
    | some (some x) => (Itr lo n).go i g.H ∧ ∀ v H', (Itr lo n).yld i g.H v H' → H' = g.H ∧ RelR K C g x v
  cases q : (rangeL lo n)[i]? with
  | none =>
    have h1 := List.getElem?_eq_none_iff.mp q
    show n ≤ i
    simpa [rangeL] using h1
  | some x =>
    unfold rangeL at q
    rw [List.getElem?_map, Option.map_eq_some_iff] at q
    obtain ⟨c, q1, rfl⟩ := q
    obtain ⟨q2, q3⟩ := List.getElem?_eq_some_iff.mp q1
    rw [List.getElem_range] at q3
    subst q3
    refine ⟨?_, fun v' H' ⟨h1, h2⟩ => ⟨h1, ?_⟩⟩
    · show _ < n
      simpa using q2
    · exact rel_int.mpr h2
end

section
variable {X : Cx} {C : DC} {W : WX} {tg iter : Expr} {body : List Stmt} {gt : GT} {mb : MS} {pos : Pos}
/-- the loop, once its iterator has come -/
theorem loop_ok {K : PySem.W.Frag} {src : Src} {J : It} {P : Cfg → Prop} {E : Ends} {b : Nat} {σ : L2.St} {g : Cfg} {ρ : Env} {n : Nat} (so : SrcOk K C src J P) (s : Gd K C b g) (r : EnvR K C g σ ρ) (p : P g) (h : OkS K C W b g (loopS gt mb src n 0 b ρ g.S) E) :
    ∃ Wv : Nat → Nat → L2.St → Hp → Prop, (∃ m, Wv 0 m σ g.H) ∧ ∀ i m σ H, Wv i m σ H →
      (J.stop i H ∧ E.nx σ H) ∨ (J.go i H ∧ ∃ N : L2.St → Hp → Prop, (∀ σ' H', N σ' H' → ∃ m', m' < m ∧ Wv (i + 1) m' σ' H') ∧ ∀ x H', J.yld i H x H' → liftG K C gt x σ H' fun σ2 H2 => liftS K C W mb { E with nx := N, ct := N, bk := E.nx } σ2 H2) := by
  refine ⟨fun i m σ H => ∃ g ρ, g.H = H ∧ Gd K C b g ∧ EnvR K C g σ ρ ∧ P g ∧ OkS K C W b g (loopS gt mb src m i b ρ g.S) E, ⟨n, g, ρ, rfl, s, r, p, h⟩, ?_⟩
  rintro i m σ H ⟨g, ρ, rfl, s, r, p, h⟩
  cases m with
  | zero => exact h.elim
  | succ m =>
    have hj := so.2 g i p s.so
    simp only [loopS] at h
    cases q : itemAt src i g.S with
    | none => rw [q] at h; exact h.elim
    | some o =>
      rw [q] at h hj
      cases o with
      | none => exact .inl ⟨hj, h g σ rfl .refl s r⟩
      | some x =>
        refine .inr ⟨hj.1, fun σ' H' => ∃ g ρ, g.H = H' ∧ Gd K C b g ∧ EnvR K C g σ' ρ ∧ P g ∧ OkS K C W b g (loopS gt mb src m (i + 1) b ρ g.S) E, fun σ' H' z => ⟨m, Nat.lt_succ_self _, z⟩, fun v H' hy => ?_⟩
        obtain ⟨e1, rx⟩ := hj.2 v H' hy
        subst e1
        have h : OkS K C W b g (match gt x ρ g.S with
          | none => .bad
          | some ρ1 => match mb b ρ1 g.S with
            | .ok (.nx ρ2) S2 => loopS gt mb src m (i + 1) b ρ2 S2
            | .ok (.ct ρ2) S2 => loopS gt mb src m (i + 1) b ρ2 S2
            | .ok (.bk ρ2) S2 => .ok (.nx ρ2) S2
            | o => o) E := h
        cases e2 : gt x ρ g.S with
        | none => rw [e2] at h; exact h.elim
        | some ρ1 =>
          rw [e2] at h
          refine ⟨b, g, ρ, x, rfl, s, r, rx, ρ1, e2, fun σ1 r1 => ⟨b, g, ρ1, rfl, s, r1, ?_⟩⟩
          have h : OkS K C W b g (match mb b ρ1 g.S with
            | .ok (.nx ρ2) S2 => loopS gt mb src m (i + 1) b ρ2 S2
            | .ok (.ct ρ2) S2 => loopS gt mb src m (i + 1) b ρ2 S2
            | .ok (.bk ρ2) S2 => .ok (.nx ρ2) S2
            | o => o) E := h
          cases e3 : mb b ρ1 g.S with
          | bad => rw [e3] at h; exact h
          | exc e S => rw [e3] at h; exact h
          | ok f S =>
            rw [e3] at h
            intro g1 σ2 e4 x1 s1
            cases f with
            | rt v => exact h g1 σ2 e4 x1 s1
            | bk ρ2 => exact h g1 σ2 e4 x1 s1
            | nx ρ2 =>
              intro r2
              subst e4
              exact ⟨g1, ρ2, rfl, s1, r2, so.1 g g1 p (x1.kp s.so), OkS.move (o := loopS gt mb src m (i + 1) b ρ2 g1.S) h x1⟩
            | ct ρ2 =>
              intro r2
              subst e4
              exact ⟨g1, ρ2, rfl, s1, r2, so.1 g g1 p (x1.kp s.so), OkS.move (o := loopS gt mb src m (i + 1) b ρ2 g1.S) h x1⟩
/-- what a for's iterator is asked -/
def RF (gt : TG) (tb : TS) (E : Ends) (σ : L2.St) : It → Hp → Prop := fun J H1 => ∃ Wv : Nat → Nat → L2.St → Hp → Prop, (∃ m, Wv 0 m σ H1) ∧ ∀ i m σ H, Wv i m σ H →
  (J.stop i H ∧ E.nx σ H) ∨ (J.go i H ∧ ∃ N : L2.St → Hp → Prop, (∀ σ' H', N σ' H' → ∃ m', m' < m ∧ Wv (i + 1) m' σ' H') ∧ ∀ x H', J.yld i H x H' → gt x σ H' fun σ2 H2 => tb { E with nx := N, ct := N, bk := E.nx } σ2 H2)
/-- several ways to walk: by the value that comes -/
def TIe (te : TE) (r : V → Hp → (It → Hp → Prop) → Prop) : TI := fun σ H R => te σ H fun x H1 => r x H1 R
theorem pi_three {me : ME} (h : DE X C W iter me) : PI X tg iter fun σ H R => liftE X.K C W me σ H (fun x H1 => ∃ a, x = .ref a ∧ (∃ xs, SqL X.K H1 a xs) ∧ R (Itl X.K a) H1) ∨ liftE X.K C W me σ H (fun x H1 => ∃ a, x = .ref a ∧ (∃ xs, SqT X.K H1 a xs) ∧ R (Itt X.K a) H1) ∨
    liftE X.K C W me σ H (fun v H1 => ∃ x, v = .str x ∧ R (Its x) H1) :=
  ⟨fun pins s σ H R I q => by
    rcases q with q | q | q
    · exact (pi_list h).run pins s σ H R I q
    · exact (pi_tup h).run pins s σ H R I q
    · exact (pi_str h).run pins s σ H R I q⟩
theorem iter_lift {K : PySem.W.Frag} {me : ME} {σ : L2.St} {b : Nat} {g : Cfg} {ρ : Env} {R : It → Hp → Prop} (s : Gd K C b g) (r : EnvR K C g σ ρ)
    (h : OkE K C W b σ g (me b ρ g.S) fun x g1 => ∃ src, srcOf x = some src ∧ (∀ J P, SrcOk K C src J P → P g1 → R J g1.H) ∧ (fuelOf src g1.S = 0 → False)) :
    liftE K C W me σ g.H (fun x H1 => ∃ a, x = .ref a ∧ (∃ xs, SqL K H1 a xs) ∧ R (Itl K a) H1) ∨ liftE K C W me σ g.H (fun x H1 => ∃ a, x = .ref a ∧ (∃ xs, SqT K H1 a xs) ∧ R (Itt K a) H1) ∨
    liftE K C W me σ g.H (fun v H1 => ∃ x, v = .str x ∧ R (Its x) H1) := by
  cases q : me b ρ g.S with
  | bad => rw [q] at h; exact h.elim
  | exc e S => rw [q] at h; exact .inl ⟨b, g, ρ, rfl, s, r, by rw [q]; exact h⟩
  | ok x S =>
    rw [q] at h
    have fin : ∀ {Q : VK}, (∀ g1, g1.S = S → Ext b g g1 → Gd K C b g1 → ∀ v, RelR K C g1 x v → Q v g1.H) → liftE K C W me σ g.H Q := fun hq => ⟨b, g, ρ, rfl, s, r, by rw [q]; exact hq⟩
    cases x with
    | loc l =>
      refine .inl (fin fun g1 e1 x1 s1 v rv => ?_)
      obtain ⟨src, e2, hR, hf⟩ := h g1 e1 x1 s1
      cases e2
      have : ∃ rs, g1.S[l]? = some (.box .lst rs) := by
        unfold fuelOf at hf
        split at hf
        · rename_i h1; cases h1
        · rename_i h1
          cases h1
          split at hf
          · rename_i rs e3; exact ⟨rs, e3⟩
          · exact (hf rfl).elim
      obtain ⟨rs, e3⟩ := this
      obtain ⟨a, vs, rfl, _, _, e4, e5⟩ := s1.so.box e3 rv
      exact ⟨a, rfl, ⟨vs, .of e4⟩, hR _ _ (src_list (r := .loc l) rfl rfl (fun z q => nomatch q)) rv⟩
    | d x =>
      cases x with
      | lf a =>
        cases a with
        | str z =>
          refine .inr (.inr (fin fun g1 e1 x1 s1 v rv => ?_))
          obtain ⟨src, e2, hR, _⟩ := h g1 e1 x1 s1
          cases e2
          exact ⟨z, rel_str.mp rv, hR _ _ src_str True.intro⟩
        | _ =>
          refine .inl (fin fun g1 e1 x1 s1 v rv => ?_)
          obtain ⟨src, e2, hR, _⟩ := h g1 e1 x1 s1
          cases e2
      | box k xs =>
        cases k with
        | tup =>
          refine .inr (.inl (fin fun g1 e1 x1 s1 v rv => ?_))
          obtain ⟨src, e2, hR, _⟩ := h g1 e1 x1 s1
          cases e2
          obtain ⟨a, vs, rfl, e3, _⟩ := viewT_ok (K := K) (C := C) (g := g1) (ds := xs) rfl rv
          exact ⟨a, rfl, ⟨vs, e3⟩, hR _ _ src_tup rv⟩
        | lst =>
          refine .inl (fin fun g1 e1 x1 s1 v rv => ?_)
          obtain ⟨src, e2, hR, _⟩ := h g1 e1 x1 s1
          obtain ⟨a, vs, rfl, e3, _⟩ := viewL_ok (r := .d (.box .lst xs)) s1.so rfl rv
          exact ⟨a, rfl, ⟨vs, e3⟩, hR _ _ (src_list e2 rfl (fun z q => nomatch q)) rv⟩
        | lck =>
          refine .inl (fin fun g1 e1 x1 s1 v rv => ?_)
          obtain ⟨src, e2, hR, _⟩ := h g1 e1 x1 s1
          obtain ⟨a, vs, rfl, e3, _⟩ := viewL_ok (r := .d (.box .lck xs)) s1.so rfl rv
          exact ⟨a, rfl, ⟨vs, e3⟩, hR _ _ (src_list e2 rfl (fun z q => nomatch q)) rv⟩
        | _ =>
          refine .inl (fin fun g1 e1 x1 s1 v rv => ?_)
          obtain ⟨src, e2, hR, _⟩ := h g1 e1 x1 s1
          cases e2
theorem ds_for {me : ME} (hp : PassesOwn (model X.prog X.w) X.A X.env X.xe) (hc : X.calm = true) (hi : DE X C W iter me) (hg : DG X C tg gt) (hb : DSs X C W body mb) (hs : ∀ x, foldedSetIterable iter X.env x = pure x := by intro _; rfl) :
    DS X C W (.For tg iter body [] pos) (mFor gt me mb) := weakenS (ps_for hp hc (pi_three hi) hg hb hs) fun E σ H h => by
  obtain ⟨b, g, ρ, rfl, s, r, h⟩ := h
  refine iter_lift (R := RF (liftG X.K C gt) (liftS X.K C W mb) E σ) s r ((h.bindS s.so r).mono fun x g1 x1 s1 h1 => ?_)
  split at h1
  · rename_i src e
    refine ⟨src, e, fun J P so p => loop_ok so s1 (r.mono s.so x1) p h1, fun z => ?_⟩
    rw [z] at h1
    exact h1.elim
  · exact h1.elim
theorem range_lift {K : PySem.W.Frag} {ma : MA} {σ : L2.St} {b : Nat} {g : Cfg} {ρ : Env} {R : It → Hp → Prop} (s : Gd K C b g) (r : EnvR K C g σ ρ)
    (h : OkE K C W b σ g (ma b ρ g.S) fun rs g1 => ∃ j : Int, rs = [.int j] ∧ okR j = true ∧ R (Itr 0 j.toNat) g1.H) : iRng1 (liftA K C W ma) σ g.H R := by
  refine ⟨b, g, ρ, rfl, s, r, h.mono fun rs g1 x1 s1 h1 vs rv => ?_⟩
  obtain ⟨j, rfl, hj, h1⟩ := h1
  obtain ⟨v, rfl, q⟩ := relRs_one rv
  rw [rel_int.mp q]
  unfold okR at hj
  rw [Bool.and_eq_true] at hj
  exact ⟨j, rfl, of_decide_eq_true hj.1, of_decide_eq_true hj.2, h1⟩
theorem ds_for1 {a : Expr} {p p' : Pos} {ma : MA} (hp : PassesOwn (model X.prog X.w) X.A X.env X.xe) (hc : X.calm = true) (hgr : Gl X "range") (hmr : X.mg "range" = none) (ha : DA X C W [a] ma) (hg : DG X C tg gt) (hb : DSs X C W body mb)
    (hst : starEach [a] X.env = [(false, eval a X.env)] := by rfl) (hs : ∀ x, foldedSetIterable (.Call (.Name "range" p) [a] [] p') X.env x = pure x := by intro _; rfl) :
    DS X C W (.For tg (.Call (.Name "range" p) [a] [] p') body [] pos) (mForR rngOf1 gt ma mb) := weakenS (ps_for hp hc (pi_range1 hgr hmr ha hst) hg hb hs) fun E σ H h => by
  obtain ⟨b, g, ρ, rfl, s, r, h⟩ := h
  refine range_lift (R := RF (liftG X.K C gt) (liftS X.K C W mb) E σ) s r ((h.bindS s.so r).mono fun rs g1 x1 s1 h1 => ?_)
  split at h1
  · rename_i xs e
    unfold rngOf1 at e
    split at e
    · split at e
      · rename_i j hj
        cases e
        exact ⟨j, rfl, hj, loop_ok src_rng s1 (r.mono s.so x1) True.intro h1⟩
      · cases e
    · cases e
  · exact h1.elim
theorem range_lift2 {K : PySem.W.Frag} {ma : MA} {σ : L2.St} {b : Nat} {g : Cfg} {ρ : Env} {R : It → Hp → Prop} (s : Gd K C b g) (r : EnvR K C g σ ρ)
    (h : OkE K C W b σ g (ma b ρ g.S) fun rs g1 => ∃ i j : Int, rs = [.int i, .int j] ∧ (okR i && okR j) = true ∧ R (Itr i (j - i).toNat) g1.H) : iRng2 (liftA K C W ma) σ g.H R := by
  refine ⟨b, g, ρ, rfl, s, r, h.mono fun rs g1 x1 s1 h1 vs rv => ?_⟩
  obtain ⟨i, j, rfl, hj, h1⟩ := h1
  obtain ⟨v, u, rfl, q1, q2⟩ := relRs_two rv
  rw [rel_int.mp q1, rel_int.mp q2]
  unfold okR at hj
  simp only [Bool.and_eq_true] at hj
  exact ⟨i, j, rfl, ⟨of_decide_eq_true hj.1.1, of_decide_eq_true hj.1.2, of_decide_eq_true hj.2.1, of_decide_eq_true hj.2.2⟩, h1⟩
theorem ds_for2 {a c : Expr} {p p' : Pos} {ma : MA} (hp : PassesOwn (model X.prog X.w) X.A X.env X.xe) (hc : X.calm = true) (hgr : Gl X "range") (hmr : X.mg "range" = none) (ha : DA X C W [a, c] ma) (hg : DG X C tg gt) (hb : DSs X C W body mb)
    (hst : starEach [a, c] X.env = [(false, eval a X.env), (false, eval c X.env)] := by rfl) (hst2 : starEach [c] X.env = [(false, eval c X.env)] := by rfl) (hs : ∀ x, foldedSetIterable (.Call (.Name "range" p) [a, c] [] p') X.env x = pure x := by intro _; rfl) :
    DS X C W (.For tg (.Call (.Name "range" p) [a, c] [] p') body [] pos) (mForR rngOf2 gt ma mb) := weakenS (ps_for hp hc (pi_range2 hgr hmr ha hst hst2) hg hb hs) fun E σ H h => by
  obtain ⟨b, g, ρ, rfl, s, r, h⟩ := h
  refine range_lift2 (R := RF (liftG X.K C gt) (liftS X.K C W mb) E σ) s r ((h.bindS s.so r).mono fun rs g1 x1 s1 h1 => ?_)
  split at h1
  · rename_i xs e
    unfold rngOf2 at e
    split at e
    · split at e
      · rename_i i j hj
        cases e
        exact ⟨i, j, rfl, hj, loop_ok src_rng s1 (r.mono s.so x1) True.intro h1⟩
      · cases e
    · cases e
  · exact h1.elim
/-- while: at most n turns -/
def loopW (t : MT) (body : MS) : Nat → MS
  | 0 => fun _ _ _ => .bad
  | n + 1 => fun b ρ S => (t b ρ S).bindS ρ fun k S1 => if k = true then match body b ρ S1 with
      | .ok (.nx ρ2) S2 => loopW t body n b ρ2 S2
      | .ok (.ct ρ2) S2 => loopW t body n b ρ2 S2
      | .ok (.bk ρ2) S2 => .ok (.nx ρ2) S2
      | o => o
    else .ok (.nx ρ) S1
theorem ds_while (n : Nat) {c : Expr} {t : MT} (hp : PassesOwn (model X.prog X.w) X.A X.env X.xe) (hc : DT X C W c t) (hb : DSs X C W body mb) : DS X C W (.While c body [] pos) (loopW t mb n) := weakenS (ps_while hp hc hb) fun E σ H h => by
  obtain ⟨b, g, ρ, rfl, s, r, h⟩ := h
  refine ⟨fun m σ H => ∃ g ρ, g.H = H ∧ Gd X.K C b g ∧ EnvR X.K C g σ ρ ∧ OkS X.K C W b g (loopW t mb m b ρ g.S) E, ⟨n, g, ρ, rfl, s, r, h⟩, ?_⟩
  rintro m σ H ⟨g, ρ, rfl, s, r, h⟩
  cases m with
  | zero => exact h.elim
  | succ m =>
    simp only [loopW] at h
    refine ⟨b, g, ρ, rfl, s, r, (h.bindS s.so r).mono fun k g1 x1 s1 h1 => ?_⟩
    cases k with
    | false => exact iteF (h1 g1 σ rfl .refl s1 (r.mono s.so x1))
    | true =>
      refine iteT ⟨fun σ' H' => ∃ g ρ, g.H = H' ∧ Gd X.K C b g ∧ EnvR X.K C g σ' ρ ∧ OkS X.K C W b g (loopW t mb m b ρ g.S) E, fun σ' H' z => ⟨m, Nat.lt_succ_self _, z⟩, b, g1, ρ, rfl, s1, r.mono s.so x1, ?_⟩
      rw [if_pos rfl] at h1
      cases e3 : mb b ρ g1.S with
      | bad => rw [e3] at h1; exact h1
      | exc e S => rw [e3] at h1; exact h1
      | ok f S =>
        rw [e3] at h1
        intro g2 σ2 e4 x2 s2
        cases f with
        | rt v => exact h1 g2 σ2 e4 x2 s2
        | bk ρ2 => exact h1 g2 σ2 e4 x2 s2
        | nx ρ2 =>
          intro r2
          subst e4
          exact ⟨g2, ρ2, rfl, s2, r2, OkS.move (o := loopW t mb m b ρ2 g2.S) h1 x2⟩
        | ct ρ2 =>
          intro r2
          subst e4
          exact ⟨g2, ρ2, rfl, s2, r2, OkS.move (o := loopW t mb m b ρ2 g2.S) h1 x2⟩
end

/-! ### comprehensions -/
def Out.nox {ε α : Type} (o : Out ε α) : Out ε α := match o with
  | .exc _ _ => .bad
  | o => o
abbrev W0 : WX := fun _ _ _ _ => False
def compL (i : Nat) (t : MT) (elt : ME) (src : Src) : Nat → Nat → List R → MA
  | 0, _, _ => fun _ _ _ => .bad
  | n + 1, j, acc => fun b ρ S => match itemAt src j S with
    | none => .bad
    | some none => .ok acc S
    | some (some x) => (t b (ρ.set i (some x)) S).nox.bind fun k S1 => if k = true then
        (elt b (ρ.set i (some x)) S1).nox.bind fun r S2 => if acc.length < sizeLine then compL i t elt src n (j + 1) (acc ++ [r]) b ρ S2 else .bad
      else compL i t elt src n (j + 1) acc b ρ S1
def mTrue : MT := fun _ _ S => .ok true S
/-- [elt for slot i in src if t] -/
def mComp (m : Bool) (i : Nat) (t : MT) (elt : ME) (me : ME) : ME := fun b ρ S => (me b ρ S).bind fun x S1 => match srcOf x with
  | some src => (compL i t elt src (fuelOf src S1) 0 [] b ρ S1).bind fun rs S2 => .ofO (newL m rs S2)
  | none => .bad
def mCompR (rng : List R → Option (List R)) (m : Bool) (i : Nat) (t : MT) (elt : ME) (ma : MA) : ME := fun b ρ S => (ma b ρ S).bind fun rs S1 => match rng rs with
  | some xs => (compL i t elt (.fix xs) (xs.length + 1) 0 [] b ρ S1).bind fun rs S2 => .ofO (newL m rs S2)
  | none => .bad
end DL

set_option maxHeartbeats 1000000
/-! DL7: comprehensions hold. -/
namespace DL
open PySem PySem.Spec PyProof.Rows L2

section
variable {K : PySem.W.Frag} {C : DC} {W : WX} {b : Nat} {g0 g : Cfg} {D : Addr} {o : HO}
/-- what is laid at an address of one's own, which no place holds -/
theorem touch_ok (s : Gd K C b g) (hm : g.mu D) (hi : ∀ l : Nat, g.io[l]? ≠ some (some D)) : Gd K C b (g.up D o) ∧ Kp g (g.up D o) := by
  have kp : Kp g (g.up D o) := ⟨fun _ _ e => .inl e, fun a u e z => ⟨by
    show upd g.H D o a = some u
    rw [upd_ne (fun q => z (by rw [q]; exact hm))]; exact e, z⟩⟩
  refine ⟨⟨⟨s.so.len, s.so.inj, fun l oa ob e1 e2 => ?_, fun a m => ?_⟩, s.cl, s.le⟩, kp⟩
  · have h := s.so.ob l oa ob e1 e2
    cases oa with
    | none => cases ob with
      | dead => exact True.intro
      | box _ _ => exact h
    | some c => cases ob with
      | dead => exact h
      | box k rs =>
        obtain ⟨m, us, e3, e4⟩ := h
        have nc : c ≠ D := fun q => hi l (by rw [← q]; exact e1)
        refine ⟨m, us, ?_, kp.rels e4⟩
        cases k with
        | tup => exact e3.elim
        | lck => exact e3.elim
        | lst =>
          show upd g.H D o c = _
          rw [upd_ne nc]; exact e3
        | obj _ =>
          obtain ⟨dx, q2⟩ := e3
          exact ⟨dx, by
            show upd g.H D o c = _
            rw [upd_ne nc]; exact q2⟩
        | dct _ =>
          obtain ⟨q1, q2⟩ := e3
          exact ⟨q1, by
            show upd g.H D o c = _
            rw [upd_ne nc]; exact q2⟩
  · by_cases q : a = D
    · exact ⟨o, by
        show upd g.H D o a = some o
        rw [q]; exact upd_same⟩
    · obtain ⟨u, e⟩ := s.so.live a m
      exact ⟨u, by
        show upd g.H D o a = some u
        rw [upd_ne q]; exact e⟩
theorem Ext.touch (x : Ext b g0 g) (h : g0.H D = none) : Ext b g0 (g.up D o) :=
  ⟨x.ix, x.new, fun a u e n => by
    show upd g.H D o a = some u
    rw [upd_ne (ne_of_none e h)]; exact x.keep a u e n, fun a u e => by
    obtain ⟨u', e'⟩ := x.there a u e
    exact ⟨u', by
      show upd g.H D o a = some u'
      rw [upd_ne (ne_of_none e h)]; exact e'⟩, x.fz, x.res, x.clean⟩
/-- an address is kept for a list that grows -/
def Cfg.own (g : Cfg) (D : Addr) (o : HO) : Cfg := { g with mu := fun a => a = D ∨ g.mu a, H := upd g.H D o }
theorem own_ok (s : Gd K C b g) (h : g.H D = none) : Gd K C b (g.own D o) ∧ Ext b g (g.own D o) := by
  have x : Ext b g (g.own D o) := ⟨fun _ _ e => .inl e, fun _ _ e => .inl e, fun a u e _ => by
    show upd g.H D o a = some u
    rw [upd_ne (ne_of_none e h)]; exact e, fun a u e => ⟨u, by
    show upd g.H D o a = some u
    rw [upd_ne (ne_of_none e h)]; exact e⟩, fun a u e z q => q.elim (ne_of_none e h) z, fun a u e z _ => .inr z, fun _ _ z => z⟩
  refine ⟨⟨⟨s.so.len, s.so.inj, fun l oa ob e1 e2 => ?_, fun a m => ?_⟩, s.cl, s.le⟩, x⟩
  · have q := s.so.ob l oa ob e1 e2
    cases oa with
    | none => cases ob with
      | dead => exact True.intro
      | box _ _ => exact q
    | some c => cases ob with
      | dead => exact q
      | box k rs =>
        obtain ⟨m, us, e3, e4⟩ := q
        exact ⟨.inr m, us, e3.up h, e4.mono s.so x⟩
  · rcases m with m | m
    · exact ⟨o, by
        show upd g.H D o a = some o
        rw [m]; exact upd_same⟩
    · obtain ⟨u, e⟩ := s.so.live a m
      exact ⟨u, by
        show upd g.H D o a = some u
        rw [upd_ne (ne_of_none e h)]; exact e⟩
/-- the list that grew is handed out -/
theorem hand_ok {m : Bool} {acc : List R} {vs : List V} {Q : VK} (s : Gd K C b g) (x : Ext b g0 g) (h : g0.H D = none) (hm : g.mu D) (hi : ∀ l : Nat, g.io[l]? ≠ some (some D)) (hD : g.H D = some (.lst vs)) (rr : RelRs K C g acc vs)
    (f : OkO K C b g0 (newL m acc g.S) fun r g' => ∀ v, RelR K C g' r v → Q v g'.H) : Q (.ref D) g.H := by
  unfold newL at f
  cases m with
  | false =>
    rw [if_neg Bool.false_ne_true] at f
    cases q : unD acc with
    | none => rw [q] at f; exact f.elim
    | some ds =>
      rw [q] at f
      have e := unD_eq q
      subst e
      have kf : ∀ a o, g.H a = some o → fzn g.mu a → g.H a = some o ∧ fzn (fun a => g.mu a ∧ a ≠ D) a := fun a o e z => ⟨e, fun y => z y.1⟩
      refine f { g with mu := fun a => g.mu a ∧ a ≠ D } rfl ⟨x.ix, x.new, x.keep, x.there, fun a o e z y => x.fz a o e z y.1, fun a o e z n => ⟨x.res a o e z n, ne_of_none e h⟩, x.clean⟩ ⟨⟨s.so.len, s.so.inj, fun l oa ob e1 e2 => ?_, fun a m => s.so.live a m.1⟩, s.cl, s.le⟩ (.ref D) ?_
      · have q := s.so.ob l oa ob e1 e2
        cases oa with
        | none => cases ob with
          | dead => exact True.intro
          | box _ _ => exact q
        | some c => cases ob with
          | dead => exact q
          | box k rs =>
            obtain ⟨m, us, e3, e4⟩ := q
            exact ⟨⟨m, fun z => hi l (by rw [← z]; exact e1)⟩, us, e3, Kp.rels (g := g) (g' := { g with mu := fun a => g.mu a ∧ a ≠ D }) ⟨fun _ _ e => .inl e, kf⟩ e4⟩
      · simp only [RelR, Rel]
        exact ⟨D, vs, rfl, ⟨fun z => z.2 rfl, hD⟩, Rels.mono kf ds (RelRs.to_rels ds rr)⟩
  | true =>
    rw [if_pos rfl] at f
    have kp : Kp g { g with io := g.io ++ [some D], S := g.S ++ [.box .lst acc] } := ⟨fun l oa e => .inl (by
      show (g.io ++ [some D])[l]? = some oa
      rw [List.getElem?_append_left (List.getElem?_eq_some_iff.mp e).1]; exact e), fun a o e z => ⟨e, z⟩⟩
    have hl0 : g0.io.length ≤ g.io.length := by
      cases z : g0.io.length with
      | zero => exact Nat.zero_le _
      | succ n =>
        have hl : n < g0.io.length := by omega
        rcases x.ix n g0.io[n] (List.getElem?_eq_getElem hl) with q | q
        · have := (List.getElem?_eq_some_iff.mp q).1; omega
        · have := (List.getElem?_eq_some_iff.mp q).1; omega
    refine f { g with io := g.io ++ [some D], S := g.S ++ [.box .lst acc] } rfl ⟨fun l oa e => ?_, fun l a e => ?_, x.keep, x.there, x.fz, x.res, fun c hc z => ?_⟩ ⟨⟨?_, fun i j a e1 e2 => ?_, fun l oa ob e1 e2 => ?_, s.so.live⟩, ?_, ?_⟩ (.ref D) ⟨some D, ?_, fun a e => by cases e; rfl⟩
    · rcases x.ix l oa e with q | q
      · exact kp.1 l oa q
      · rcases kp.1 l none q with q | q
        · exact .inr q
        · exact .inr q
    · have e : (g.io ++ [some D])[l]? = some (some a) := e
      by_cases hl : l < g.io.length
      · rw [List.getElem?_append_left hl] at e; exact x.new l a e
      · rw [List.getElem?_append_right (by omega)] at e
        have e' := List.mem_of_getElem? e
        rw [List.mem_singleton] at e'
        cases e'
        exact .inr h
    · have z2 := x.clean c hc z
      intro l k rs l' hl e hm2
      have e : (g.S ++ [Ob.box .lst acc])[l]? = some (.box k rs) := e
      rw [List.getElem?_append_left (by have := s.le; omega)] at e
      exact z2 l k rs l' hl e hm2
    · show (g.io ++ [some D]).length = (g.S ++ [Ob.box .lst acc]).length
      rw [List.length_append, List.length_append, s.so.len]; rfl
    · have e1 : (g.io ++ [some D])[i]? = some (some a) := e1
      have e2 : (g.io ++ [some D])[j]? = some (some a) := e2
      have hi1 : i < g.io.length + 1 := by have := (List.getElem?_eq_some_iff.mp e1).1; simpa using this
      have hj1 : j < g.io.length + 1 := by have := (List.getElem?_eq_some_iff.mp e2).1; simpa using this
      by_cases h1 : i < g.io.length
      · rw [List.getElem?_append_left h1] at e1
        by_cases h2 : j < g.io.length
        · rw [List.getElem?_append_left h2] at e2
          exact s.so.inj i j a e1 e2
        · rw [List.getElem?_append_right (by omega)] at e2
          have e' := List.mem_of_getElem? e2
          rw [List.mem_singleton] at e'
          cases e'
          exact absurd e1 (hi i)
      · by_cases h2 : j < g.io.length
        · rw [List.getElem?_append_left h2] at e2
          rw [List.getElem?_append_right (by omega)] at e1
          have e' := List.mem_of_getElem? e1
          rw [List.mem_singleton] at e'
          cases e'
          exact absurd e2 (hi j)
        · omega
    · have e1 : (g.io ++ [some D])[l]? = some oa := e1
      have e2 : (g.S ++ [Ob.box .lst acc])[l]? = some ob := e2
      by_cases hl : l < g.io.length
      · rw [List.getElem?_append_left hl] at e1
        rw [List.getElem?_append_left (by rw [← s.so.len]; exact hl)] at e2
        have q := s.so.ob l oa ob e1 e2
        cases oa with
        | none => cases ob with
          | dead => exact True.intro
          | box _ _ => exact q
        | some a => cases ob with
          | dead => exact q
          | box k' rs' =>
            obtain ⟨m, vs', e3, e4⟩ := q
            exact ⟨m, vs', e3, kp.rels e4⟩
      · rw [List.getElem?_append_right (by omega)] at e1
        rw [List.getElem?_append_right (by rw [← s.so.len]; omega)] at e2
        have e1' := List.mem_of_getElem? e1
        have e2' := List.mem_of_getElem? e2
        rw [List.mem_singleton] at e1' e2'
        cases e1'; cases e2'
        exact ⟨hm, vs, hD, kp.rels rr⟩
    · intro l k rs l' hl e hm2
      have e : (g.S ++ [Ob.box .lst acc])[l]? = some (.box k rs) := e
      rw [List.getElem?_append_left (by have := s.le; omega)] at e
      exact s.cl l k rs l' hl e hm2
    · show b ≤ (g.S ++ [Ob.box .lst acc]).length
      rw [List.length_append]; have := s.le; omega
    · show (g.io ++ [some D])[g.S.length]? = some (some D)
      rw [← s.so.len, List.getElem?_append_right (Nat.le_refl _), Nat.sub_self]; rfl
theorem nox_ok {α β : Type} {o : Out Exn α} {f : α → Sto → Out Exn β} {k : β → Cfg → Prop} {σ σ2 : L2.St} (h : OkE K C W b σ g0 (o.nox.bind f) k) : OkE K C W0 b σ2 g o fun a g1 => OkE K C W b σ g0 (f a g1.S) k := by
  cases o with
  | bad => exact h
  | exc e S => exact h.elim
  | ok a S =>
    intro g1 e1 x1 s1
    subst e1
    exact h
/-- what a comprehension's iterator is asked (own slot i) -/
def RLc (K : PySem.W.Frag) (C : DC) (i : Nat) (t : MT) (elt : ME) (σ : L2.St) (Q : VK) : It → Hp → Prop := fun J H1 => ∀ D, H1 D = none → ∃ Wv : Nat → Nat → Hp → Prop, (∃ m, Wv 0 m (upd H1 D (.lst []))) ∧ ∀ j m H, Wv j m H →
  (J.stop j H ∧ Q (.ref D) H) ∨ (J.go j H ∧ ∃ Nx : Hp → Prop, (∀ H', Nx H' → ∃ m', m' < m ∧ Wv (j + 1) m' H') ∧ ∀ x H', J.yld j H x H' → gName i x (wipe σ [i]) H' fun σ2 H2 => wipe σ2 [i] = wipe σ [i] ∧ liftT K C W0 t σ2 H2 fun b H3 =>
    if b = true then liftE K C W0 elt σ2 H3 fun y H4 => ∃ acc, H4 D = some (.lst acc) ∧ acc.length < sizeLine ∧ Nx (upd H4 D (.lst (acc ++ [y]))) else Nx H3)
theorem comp_core {src : Src} {J : It} {P : Cfg → Prop} {i n : Nat} {t : MT} {elt : ME} {m : Bool} {σ : L2.St} {ρ : Env} {Q : VK} (so : SrcOk K C src J P) (s0 : Gd K C b g0) (r0 : EnvR K C g0 σ ρ) (p0 : P g0)
    (h : OkE K C W b σ g0 ((compL i t elt src n 0 [] b ρ g0.S).bind fun rs S2 => .ofO (newL m rs S2)) fun r g' => ∀ v, RelR K C g' r v → Q v g'.H) : RLc K C i t elt σ Q J g0.H := by
  intro D hD
  refine ⟨fun j k H => ∃ g acc vacc, g.H = H ∧ Gd K C b g ∧ Ext b g0 g ∧ P g ∧ EnvR K C g (wipe σ [i]) (ρ.set i none) ∧ g.mu D ∧ (∀ l : Nat, g.io[l]? ≠ some (some D)) ∧ g.H D = some (.lst vacc) ∧ RelRs K C g acc vacc ∧
    OkE K C W b σ g0 ((compL i t elt src k j acc b ρ g.S).bind fun rs S2 => .ofO (newL m rs S2)) fun r g' => ∀ v, RelR K C g' r v → Q v g'.H, ?_, ?_⟩
  · obtain ⟨s1, x1⟩ := own_ok (o := .lst []) s0 hD
    refine ⟨n, g0.own D (.lst []), [], [], rfl, s1, x1, so.1 _ _ p0 (x1.kp s0.so), ⟨by rw [List.length_set]; show ρ.length = (σ.set i none).length; rw [List.length_set]; exact r0.len, fun j r e => ?_⟩, .inl rfl, s0.notio hD, upd_same, rfl, h⟩
    by_cases hj : i = j
    · subst hj
      by_cases hi : i < ρ.length
      · rw [List.getElem?_set_self hi] at e; cases e
      · rw [List.getElem?_eq_none (by rw [List.length_set]; omega)] at e; cases e
    · rw [List.getElem?_set_ne hj] at e
      obtain ⟨v, e1, e2⟩ := r0.at_ j r e
      refine ⟨v, ?_, e2.mono s0.so x1⟩
      show (σ.set i none)[j]? = some (some v)
      rw [List.getElem?_set_ne hj]; exact e1
  · rintro j k H ⟨g, acc, vacc, rfl, s, x, p, r, hm, hi, hDv, ra, h⟩
    cases k with
    | zero => exact h.elim
    | succ k =>
      have hj := so.2 g j p s.so
      simp only [compL] at h
      cases q : itemAt src j g.S with
      | none => rw [q] at h; exact h.elim
      | some oo =>
        rw [q] at h hj
        cases oo with
        | none => exact .inl ⟨hj, hand_ok s x hD hm hi hDv ra (OkO.of h)⟩
        | some xv =>
          refine .inr ⟨hj.1, fun H' => ∃ g acc vacc, g.H = H' ∧ Gd K C b g ∧ Ext b g0 g ∧ P g ∧ EnvR K C g (wipe σ [i]) (ρ.set i none) ∧ g.mu D ∧ (∀ l : Nat, g.io[l]? ≠ some (some D)) ∧ g.H D = some (.lst vacc) ∧ RelRs K C g acc vacc ∧
            OkE K C W b σ g0 ((compL i t elt src k (j + 1) acc b ρ g.S).bind fun rs S2 => .ofO (newL m rs S2)) fun r g' => ∀ v, RelR K C g' r v → Q v g'.H, fun H' z => ⟨k, Nat.lt_succ_self _, z⟩, fun v H' hy => ?_⟩
          obtain ⟨e1, rx⟩ := hj.2 v H' hy
          subst e1
          have r1 : EnvR K C g ((wipe σ [i]).set i (some v)) (ρ.set i (some xv)) := by
            have := r.set (i := i) rx
            rw [List.set_set] at this
            exact this
          refine ⟨?_, b, g, _, rfl, s, r1, ?_⟩
          · show (((σ.set i none).set i (some v)).set i none) = σ.set i none
            rw [List.set_set, List.set_set]
          have h : OkE K C W b σ g0 (((t b (ρ.set i (some xv)) g.S).nox.bind fun kk S1 => if kk = true then (elt b (ρ.set i (some xv)) S1).nox.bind fun r S2 => if acc.length < sizeLine then compL i t elt src k (j + 1) (acc ++ [r]) b ρ S2 else .bad
            else compL i t elt src k (j + 1) acc b ρ S1).bind fun rs S2 => .ofO (newL m rs S2)) fun r g' => ∀ v, RelR K C g' r v → Q v g'.H := h
          rw [Out.bind_assoc] at h
          have next : ∀ {g2 : Cfg}, Ext b g g2 → Gd K C b g2 → P g2 ∧ EnvR K C g2 (wipe σ [i]) (ρ.set i none) ∧ g2.mu D ∧ (∀ l : Nat, g2.io[l]? ≠ some (some D)) ∧ g2.H D = some (.lst vacc) ∧ RelRs K C g2 acc vacc := fun {g2} x2 s2 =>
            ⟨so.1 _ _ p (x2.kp s.so), r.mono s.so x2, x2.res D _ hDv hm hi, fun l z => (x2.new l D z).elim (hi l) (fun y => by rw [hDv] at y; cases y), x2.keep D _ hDv hi, ra.mono s.so x2⟩
          refine (nox_ok h).mono fun kk g1 x1 s1 h1 => ?_
          obtain ⟨p1, q1, m1, i1, d1, ra1⟩ := next x1 s1
          cases kk with
          | false => exact iteF ⟨g1, acc, vacc, rfl, s1, x.trans x1, p1, q1, m1, i1, d1, ra1, h1⟩
          | true =>
            rw [if_pos rfl] at h1
            refine iteT ⟨b, g1, _, rfl, s1, r1.mono s.so x1, ?_⟩
            rw [Out.bind_assoc] at h1
            refine (nox_ok h1).mono fun r g2 x2 s2 h2 y ry => ?_
            obtain ⟨p2, q2, m2, i2, d2, ra2⟩ := next (x1.trans x2) s2
            split at h2
            · rename_i hz
              obtain ⟨s3, kp3⟩ := touch_ok (o := .lst (vacc ++ [y])) s2 m2 i2
              refine ⟨vacc, d2, by rw [← ra2.len]; exact hz, g2.up D (.lst (vacc ++ [y])), acc ++ [r], vacc ++ [y], rfl, s3, ((x.trans x1).trans x2).touch hD, so.1 _ _ p2 kp3, ⟨q2.len, fun jj rr e => ?_⟩, m2, i2, upd_same, (kp3.rels ra2).append (.one (kp3.rel ry)), h2⟩
              obtain ⟨w, e1, e2⟩ := q2.at_ jj rr e
              exact ⟨w, e1, kp3.rel e2⟩
            · exact h2.elim
end
section
variable {X : Cx} {C : DC} {W : WX} {elt tg iter : Expr} {scope : Scope} {pos p p' : Pos} {x : Str} {i : Nat} {t : MT} {el me : ME} {ma : MA} {ifs : List Expr}
abbrev Blk (X : Cx) (scope : Scope) (s : Shared) (H : Hp) (c : Addr) (cl : List (Str × Addr)) (fp : List Addr) : Cx := X.blk s H scope (compEnvC scope cl c X.env) fp
/-- the tests of a comprehension -/
abbrev DTs (X : Cx) (C : DC) (W : WX) (ifs : List Expr) (t : MT) : Prop := PTs X ifs (liftT X.K C W t)
theorem dts_nil : DTs X C W [] mTrue := ⟨fun pins s σ H Q I h => by
  obtain ⟨b, g, ρ, rfl, s1, r, h⟩ := h
  exact pts_nil.run pins s σ g.H Q I (h g rfl .refl s1)⟩
theorem dts_one {c : Expr} (h : DT X C W c t) : DTs X C W [c] t := pts_one h
theorem de_comp (m : Bool) (i : Nat) (hc : X.calm = true) (hN : X.N.Nodup) (hi : DE X C W iter me) (ok : BlkOk X.N X.env.scope scope [(x, i)])
    (hg : ∀ s H c cl fp, PG (Blk X scope s H c cl fp) (.Name x p) (gName i)) (ht : ∀ s H c cl fp, DTs (Blk X scope s H c cl fp) C W0 ifs t) (he : ∀ s H c cl fp, DE (Blk X scope s H c cl fp) C W0 elt el)
    (hs : ∀ x, foldedSetIterable iter X.env x = pure x := by intro _; rfl) : DE X C W (.ListComp elt [⟨.Name x p, iter, ifs, 0⟩] scope pos) (mComp m i t el me) :=
  weaken (pe_lc (own := [(x, i)]) (tt := liftT X.K C W0 t) (te := liftE X.K C W0 el) hc hN (pi_three hi) ok hg ht he hs) fun σ H Q h => by
    obtain ⟨b, g, ρ, rfl, s, r, h⟩ := h
    refine iter_lift (R := RLc X.K C i t el σ Q) s r (h.bind.mono fun x g1 x1 s1 h1 => ?_)
    split at h1
    · rename_i src e
      refine ⟨src, e, fun J P so p => comp_core so s1 (r.mono s.so x1) p h1, fun z => ?_⟩
      rw [z] at h1
      exact h1.elim
    · exact h1.elim
theorem de_compR1 (m : Bool) (i : Nat) {a : Expr} {q q' : Pos} (hc : X.calm = true) (hN : X.N.Nodup) (hgr : Gl X "range") (hmr : X.mg "range" = none) (ha : DA X C W [a] ma) (ok : BlkOk X.N X.env.scope scope [(x, i)])
    (hg : ∀ s H c cl fp, PG (Blk X scope s H c cl fp) (.Name x p) (gName i)) (ht : ∀ s H c cl fp, DTs (Blk X scope s H c cl fp) C W0 ifs t) (he : ∀ s H c cl fp, DE (Blk X scope s H c cl fp) C W0 elt el)
    (hst : starEach [a] X.env = [(false, eval a X.env)] := by rfl) (hs : ∀ x, foldedSetIterable (.Call (.Name "range" q) [a] [] q') X.env x = pure x := by intro _; rfl) :
    DE X C W (.ListComp elt [⟨.Name x p, .Call (.Name "range" q) [a] [] q', ifs, 0⟩] scope pos) (mCompR rngOf1 m i t el ma) :=
  weaken (pe_lc (own := [(x, i)]) (tt := liftT X.K C W0 t) (te := liftE X.K C W0 el) hc hN (pi_range1 hgr hmr ha hst) ok hg ht he hs) fun σ H Q h => by
    obtain ⟨b, g, ρ, rfl, s, r, h⟩ := h
    refine range_lift (R := RLc X.K C i t el σ Q) s r (h.bind.mono fun rs g1 x1 s1 h1 => ?_)
    split at h1
    · rename_i xs e
      unfold rngOf1 at e
      split at e
      · split at e
        · rename_i j hj
          cases e
          exact ⟨j, rfl, hj, comp_core src_rng s1 (r.mono s.so x1) True.intro h1⟩
        · cases e
      · cases e
    · exact h1.elim
theorem de_compR2 (m : Bool) (i : Nat) {a c : Expr} {q q' : Pos} (hc : X.calm = true) (hN : X.N.Nodup) (hgr : Gl X "range") (hmr : X.mg "range" = none) (ha : DA X C W [a, c] ma) (ok : BlkOk X.N X.env.scope scope [(x, i)])
    (hg : ∀ s H c cl fp, PG (Blk X scope s H c cl fp) (.Name x p) (gName i)) (ht : ∀ s H c cl fp, DTs (Blk X scope s H c cl fp) C W0 ifs t) (he : ∀ s H c cl fp, DE (Blk X scope s H c cl fp) C W0 elt el)
    (hst : starEach [a, c] X.env = [(false, eval a X.env), (false, eval c X.env)] := by rfl) (hst2 : starEach [c] X.env = [(false, eval c X.env)] := by rfl) (hs : ∀ x, foldedSetIterable (.Call (.Name "range" q) [a, c] [] q') X.env x = pure x := by intro _; rfl) :
    DE X C W (.ListComp elt [⟨.Name x p, .Call (.Name "range" q) [a, c] [] q', ifs, 0⟩] scope pos) (mCompR rngOf2 m i t el ma) :=
  weaken (pe_lc (own := [(x, i)]) (tt := liftT X.K C W0 t) (te := liftE X.K C W0 el) hc hN (pi_range2 hgr hmr ha hst hst2) ok hg ht he hs) fun σ H Q h => by
    obtain ⟨b, g, ρ, rfl, s, r, h⟩ := h
    refine range_lift2 (R := RLc X.K C i t el σ Q) s r (h.bind.mono fun rs g1 x1 s1 h1 => ?_)
    split at h1
    · rename_i xs e
      unfold rngOf2 at e
      split at e
      · split at e
        · rename_i i j hj
          cases e
          exact ⟨i, j, rfl, hj, comp_core src_rng s1 (r.mono s.so x1) True.intro h1⟩
        · cases e
      · cases e
    · exact h1.elim
end
end DL

set_option maxHeartbeats 1000000
/-! DL8: fields, items stored, defs and their calls. -/
namespace DL
open PySem PySem.Spec PyProof.Rows L2

/-! ### fields -/
/-- field f of class c is its i-th -/
structure FldAt (K : PySem.W.Frag) (C : DC) (c i : Nat) (f : Str) : Prop where
  cl : Cls K (C.adr c)
  no : NoAttr K (C.adr c) f
  nd : (C.names c).Nodup
  at_ : (C.names c)[i]? = some f
theorem lookup_zip : ∀ {ns : List Str} {vs : List V} {i : Nat} {f : Str} {v : V}, ns.Nodup → ns[i]? = some f → vs[i]? = some v → (ns.zip vs).lookup f = some v
  | [], _, _, _, _, _, e, _ => by simp at e
  | _ :: _, [], _, _, _, _, _, e => by simp at e
  | n :: ns, u :: us, 0, f, v, _, e1, e2 => by
    rw [List.getElem?_cons_zero] at e1 e2
    cases e1; cases e2
    rw [List.zip_cons_cons, List.lookup_cons_self]
  | n :: ns, u :: us, i + 1, f, v, nd, e1, e2 => by
    rw [List.getElem?_cons_succ] at e1 e2
    have h := List.nodup_cons.mp nd
    have ne : (f == n) = false := beq_eq_false_iff_ne.mpr fun z => h.1 (z ▸ List.mem_of_getElem? e1)
    rw [List.zip_cons_cons, List.lookup_cons, ne]
    exact lookup_zip h.2 e1 e2
/-- the i-th field is set: a new one at the end, or changed -/
def setF {α : Type} (xs : List α) (i : Nat) (x : α) : List α := if i < xs.length then xs.set i x else xs ++ [x]
theorem putF_zip : ∀ {ns : List Str} {vs : List V} {i : Nat} {f : Str} {v : V}, ns.Nodup → ns[i]? = some f → i ≤ vs.length → putF f v (ns.zip vs) = ns.zip (setF vs i v)
  | [], _, _, _, _, _, e, _ => by simp at e
  | n :: ns, [], i, f, v, _, e, h => by
    have : i = 0 := by simpa using h
    subst this
    rw [List.getElem?_cons_zero] at e
    cases e
    show putF n v [] = (n :: ns).zip (setF [] 0 v)
    unfold setF
    rw [if_neg (by simp)]
    simp [putF]
  | n :: ns, u :: us, 0, f, v, _, e, h => by
    rw [List.getElem?_cons_zero] at e
    cases e
    unfold setF
    rw [if_pos (by simp), List.set_cons_zero, List.zip_cons_cons, List.zip_cons_cons]
    show (if n = n then (n, v) :: _ else _) = _
    rw [if_pos rfl]
  | n :: ns, u :: us, i + 1, f, v, nd, e, h => by
    rw [List.getElem?_cons_succ] at e
    have h2 := List.nodup_cons.mp nd
    have ne : ¬ n = f := fun z => h2.1 (z ▸ List.mem_of_getElem? e)
    have ih := putF_zip (v := v) h2.2 e (show i ≤ us.length by simpa using h)
    have e2 : setF (u :: us) (i + 1) v = u :: setF us i v := by
      unfold setF
      by_cases z : i < us.length
      · rw [if_pos z, if_pos (by simpa using z), List.set_cons_succ]
      · rw [if_neg z, if_neg (by simpa using z), List.cons_append]
    rw [e2, List.zip_cons_cons, List.zip_cons_cons, ← ih]
    show (if n = f then _ else (n, u) :: putF f v (ns.zip us)) = _
    rw [if_neg ne]
def objOf (x : R) (S : Sto) : Option (Nat × List R) := match x with
  | .d (.box (.obj c) xs) => some (c, xs.map .d)
  | .loc l => match S[l]? with
    | some (.box (.obj c) rs) => some (c, rs)
    | _ => none
  | _ => none
/-- x.f, f the i-th field of class c for the pairs (c, i) of tb -/
def fldO (tb : List (Nat × Nat)) (x : R) (S : Sto) : Option R := match objOf x S with
  | some (c, rs) => (tb.lookup c).bind fun i => rs[i]?
  | none => none
def mFld (tb : List (Nat × Nat)) (m : ME) : ME := fun b ρ S => (m b ρ S).bind fun x S1 => match fldO tb x S1 with
  | some r => .ok r S1
  | none => .bad
section
variable {K : PySem.W.Frag} {C : DC} {g : Cfg}
theorem objOf_ok {x : R} {c : Nat} {rs : List R} {v : V} (s : SoR K C g) (e : objOf x g.S = some (c, rs)) (r : RelR K C g x v) : ∃ a dx vs, v = .ref a ∧ g.H a = some (.ins (C.adr c) dx ((C.names c).zip vs)) ∧ RelRs K C g rs vs := by
  unfold objOf at e
  split at e
  · cases e
    simp only [RelR, Rel] at r
    obtain ⟨a, vs, rfl, ⟨_, dx, e2⟩, e3⟩ := r
    exact ⟨a, dx, vs, rfl, e2, .of_rels _ e3⟩
  · split at e
    · rename_i q
      cases e
      obtain ⟨a, vs, rfl, _, _, ⟨dx, e2⟩, e3⟩ := s.box q r
      exact ⟨a, dx, vs, rfl, e2, e3⟩
    · cases e
  · cases e
theorem lookup_mem2 {c i : Nat} : ∀ {tb : List (Nat × Nat)}, tb.lookup c = some i → (c, i) ∈ tb
  | (d, j) :: tb, e => by
    rw [List.lookup_cons] at e
    split at e
    · rename_i h
      cases e
      rw [beq_iff_eq] at h
      subst h
      exact List.mem_cons_self
    · exact List.mem_cons_of_mem _ (lookup_mem2 e)
end
section
variable {X : Cx} {C : DC} {W : WX} {e o : Expr} {m mo mi mv : ME} {f : Str} {pos pos' : Pos}
theorem de_fld (tb : List (Nat × Nat)) (hF : ∀ q ∈ tb, FldAt X.K C q.1 q.2 f) (h : DE X C W e m) (hb : attributeBase e f X.env (eval e X.env) = eval e X.env := by rfl) : DE X C W (.Attribute e f pos) (mFld tb m) := weaken (pe_fld h hb) fun σ H Q h => by
  obtain ⟨b, g, ρ, rfl, s, r, h⟩ := h
  refine ⟨b, g, ρ, rfl, s, r, h.bind.mono fun x g1 x1 s1 h1 v rv => ?_⟩
  split at h1
  · rename_i y e1
    unfold fldO at e1
    split at e1
    · rename_i c rs e2
      rw [Option.bind_eq_some_iff] at e1
      obtain ⟨i, e3, e4⟩ := e1
      obtain ⟨a, dx, vs, rfl, e5, e6⟩ := objOf_ok s1.so e2 rv
      have F := hF _ (lookup_mem2 e3)
      obtain ⟨u, e7, e8⟩ := e6.get e4
      exact ⟨a, _, dx, _, u, rfl, e5, F.cl, F.no, lookup_zip F.nd F.at_ e7, h1 g1 rfl .refl s1 u e8⟩
    · cases e1
  · exact h1.elim
/-- o.f = e -/
def mSetF (tb : List (Nat × Nat)) (mo mv : ME) : MS := fun b ρ S => (mv b ρ S).bindS ρ fun y S1 => (mo b ρ S1).bindS ρ fun x S2 => match x with
  | .loc l => match S2[l]? with
    | some (.box (.obj c) rs) => match tb.lookup c with
      | some i => if i ≤ rs.length ∧ rs.length < 1000 ∧ fits b l y = true then .ok (.nx ρ) (S2.set l (.box (.obj c) (setF rs i y))) else .bad
      | none => .bad
    | _ => .bad
  | _ => .bad
theorem RelRs.setF {K : PySem.W.Frag} {g : Cfg} {rs : List R} {vs : List V} {i : Nat} {r : R} {v : V} (h : RelRs K C g rs vs) (q : RelR K C g r v) : RelRs K C g (setF rs i r) (setF vs i v) := by
  unfold DL.setF
  rw [h.len]
  split
  · exact h.set q i
  · exact h.append (.one q)
theorem mem_setF {rs : List R} {i : Nat} {r q : R} (h : q ∈ setF rs i r) : q ∈ rs ∨ q = r := by
  unfold setF at h
  split at h
  · rcases List.mem_or_eq_of_mem_set h with z | z
    · exact .inl z
    · exact .inr z
  · rcases List.mem_append.mp h with z | z
    · exact .inl z
    · exact .inr (by simpa using z)
theorem fits_ok {b l : Nat} {y : R} {rs rs' : List R} (h : fits b l y = true) (hm : ∀ r ∈ rs', r ∈ rs ∨ r = y) : b ≤ l ∨ ∀ r ∈ rs', r ∈ rs ∨ ∃ x, r = .d x := by
  cases y with
  | loc l' => left; simpa [fits] using h
  | d z =>
    right
    intro r hr
    rcases hm r hr with q | q
    · exact .inl q
    · exact .inr ⟨z, q⟩
theorem ds_setF (tb : List (Nat × Nat)) (hF : ∀ q ∈ tb, FldAt X.K C q.1 q.2 f) (ho : DE X C W o mo) (hv : DE X C W e mv) (hs : swapsWith e (some (.Attribute o f pos')) pos.line X.env = pure false := by rfl) : DS X C W (.Assign [.Attribute o f pos'] e pos) (mSetF tb mo mv) :=
  weakenS (ps_fld ho hv hs) fun E σ H h => by
    obtain ⟨b, g, ρ, rfl, s, r, h⟩ := h
    refine ⟨b, g, ρ, rfl, s, r, (h.bindS s.so r).mono fun y g1 x1 s1 h1 v rv => ?_⟩
    have r1 := r.mono s.so x1
    refine ⟨b, g1, ρ, rfl, s1, r1, (h1.bindS s1.so r1).mono fun x g2 x2 s2 h2 u ru => ?_⟩
    have r2 := r1.mono s1.so x2
    split at h2
    · rename_i l
      split at h2
      · rename_i c rs e1
        split at h2
        · rename_i i e2
          split at h2
          · rename_i hz
            obtain ⟨a, vs, rfl, ha, _, ⟨dx, e3⟩, e4⟩ := s2.so.box e1 ru
            have F := hF _ (lookup_mem2 e2)
            have rv2 := rv.mono s1.so x2
            have ep : putF f v ((C.names c).zip vs) = (C.names c).zip (DL.setF vs i v) := putF_zip F.nd F.at_ (by rw [← e4.len]; exact hz.1)
            obtain ⟨x3, s3⟩ := put_ok (o := .ins (C.adr c) dx ((C.names c).zip (DL.setF vs i v))) (k' := .obj c) (rs := DL.setF rs i y) (vs := DL.setF vs i v) s2 e1 ha ⟨dx, upd_same⟩ (e4.setF rv2) (fits_ok hz.2.2 fun r hr => mem_setF hr)
            refine ⟨a, _, dx, _, rfl, e3, F.cl, F.no, ?_, ?_⟩
            · rw [List.length_zip]
              have := e4.len
              have := hz.2.1
              omega
            · rw [ep]
              exact h2 _ σ rfl x3 s3 (r2.mono s2.so x3)
          · exact h2.elim
        · exact h2.elim
      · exact h2.elim
    · exact h2.elim
/-- o[i] = e of a list -/
def setI (b : Nat) (x i y : R) (S : Sto) : Option Sto := match lstAt x S, i with
  | some (l, rs), .d (.lf (.int k)) => match ixN rs.length k with
    | some j => if fits b l y = true then some (S.set l (.box .lst (rs.set j y))) else none
    | none => none
  | _, _ => none
def mSetI (mo mi mv : ME) : MS := fun b ρ S => (mv b ρ S).bindS ρ fun y S1 => (mo b ρ S1).bindS ρ fun x S2 => (mi b ρ S2).bindS ρ fun i S3 => match setI b x i y S3 with
  | some S4 => .ok (.nx ρ) S4
  | none => .bad
theorem ds_setI {i : Expr} {tpos : Pos} (ho : DE X C W o mo) (hi : DE X C W i mi) (hv : DE X C W e mv) (hs : swapsWithSole [.Subscript o i tpos] e pos.line X.env = pure false := by rfl) (hw : swappedStores [.Subscript o i tpos] e X.env = pure none := by rfl)
    (h1 : (assignEach [.Subscript o i tpos] X.env).map (·.2) = [assign (.Subscript o i tpos) X.env] := by rfl)
    (ha : ∀ v, assign (.Subscript o i tpos) X.env v = (do
      let ov ← holding [v] (eval o X.env)
      let iv ← holding [v, ov] (eval i X.env)
      standAt tpos
      holding [v, ov, iv] (setItem ov iv v)
      release [v, ov, iv] []) := by intro _; rfl) : DS X C W (.Assign [.Subscript o i tpos] e pos) (mSetI mo mi mv) :=
  weakenS (ps_asg hv (pg_sub ho hi set_list ha) hs hw h1) fun E σ H h => by
    obtain ⟨b, g, ρ, rfl, s, r, h⟩ := h
    refine ⟨b, g, ρ, rfl, s, r, (h.bindS s.so r).mono fun y g1 x1 s1 h1 v rv => ?_⟩
    have r1 := r.mono s.so x1
    refine ⟨b, g1, ρ, rfl, s1, r1, (h1.bindS s1.so r1).mono fun x g2 x2 s2 h2 u ru => ?_⟩
    have r2 := r1.mono s1.so x2
    refine ⟨b, g2, ρ, rfl, s2, r2, (h2.bindS s2.so r2).mono fun z g3 x3 s3 h3 w rw' => ?_⟩
    have r3 := r2.mono s2.so x3
    split at h3
    · rename_i S4 e1
      unfold setI at e1
      split at e1
      · rename_i l rs k e2
        split at e1
        · rename_i j e3
          split at e1
          · rename_i hz
            cases e1
            obtain ⟨rfl, e5, a, vs, rfl, e6, e7, e8⟩ := lstAt_ok s3.so e2 (ru.mono s2.so x3)
            have rv3 := (rv.mono s1.so x2).mono s2.so x3
            obtain ⟨x4, s4⟩ := put_ok (o := .lst (vs.set j v)) (k' := .lst) (rs := rs.set j y) (vs := vs.set j v) s3 e5 e6 (show upd g3.H a _ a = _ from upd_same) (e8.set rv3 j) (fits_ok hz fun r hr => List.mem_or_eq_of_mem_set hr)
            exact ⟨a, vs, k, j, rfl, rel_int.mp rw', e7, by rw [← e8.len]; exact e3, h3 _ σ rfl x4 s4 (r3.mono s3.so x4)⟩
          · cases e1
        · cases e1
      · cases e1
    · exact h3.elim
end

/-! ### what a def leaves: its own places are given up -/
section
variable {K : PySem.W.Frag} {C : DC} {b : Nat} {g g1 : Cfg}
def Cfg.cut (g1 g : Cfg) : Cfg := { io := g1.io.take g.S.length, mu := fun a => g1.mu a ∧ ∃ o, g.H a = some o, H := g1.H, S := g1.S.take g.S.length }
theorem cut_ok (s : SoR K C g) (x : Ext g.S.length g g1) (s1 : SoR K C g1) (hc : Clean g.S.length g1.S) : Ext g.S.length g (g1.cut g) ∧ SoR K C (g1.cut g) := by
  have gi : ∀ {l : Nat} {oa : Option Addr}, (g1.io.take g.S.length)[l]? = some oa → l < g.S.length ∧ g1.io[l]? = some oa := fun {l oa} e => by
    have hl : l < g.S.length := by
      have := (List.getElem?_eq_some_iff.mp e).1
      rw [List.length_take] at this
      omega
    rw [List.getElem?_take_of_lt hl] at e
    exact ⟨hl, e⟩
  have old : ∀ {l : Nat} {a : Addr}, l < g.S.length → g1.io[l]? = some (some a) → ∃ o, g.H a = some o := fun {l a} hl e => by
    have hl' : l < g.io.length := by rw [s.len]; exact hl
    rcases x.ix l g.io[l] (List.getElem?_eq_getElem hl') with q | q
    · rw [e] at q
      have z : g.io[l] = some a := (Option.some.inj q).symm
      exact s.live a (s.iomu l a (by rw [List.getElem?_eq_getElem hl', z]))
    · rw [e] at q; cases q
  have rel : ∀ {r : R} {v : V}, (∀ l, r = .loc l → l < g.S.length) → RelR K C g1 r v → RelR K C (g1.cut g) r v := fun {r v} hl h => by
    cases r with
    | d d => exact Rel.mono (fun a o e z => ⟨e, fun y => z y.1⟩) d h
    | loc l =>
      obtain ⟨oa, e1, e2⟩ := h
      exact ⟨oa, by
        show (g1.io.take g.S.length)[l]? = some oa
        rw [List.getElem?_take_of_lt (hl l rfl)]; exact e1, e2⟩
  have rels : ∀ {rs : List R} {vs : List V}, (∀ l, R.loc l ∈ rs → l < g.S.length) → RelRs K C g1 rs vs → RelRs K C (g1.cut g) rs vs := fun {rs} => by
    induction rs with
    | nil => exact fun _ h => h
    | cons r rs ih =>
      rintro vs hl ⟨v, t, e1, e2, e3⟩
      exact ⟨v, t, e1, rel (fun l z => hl l (by rw [z]; exact List.mem_cons_self)) e2, ih (fun l z => hl l (List.mem_cons_of_mem _ z)) e3⟩
  refine ⟨⟨fun l oa e => ?_, fun l a e => x.new l a (gi e).2, x.keep, x.there, fun a o e z y => x.fz a o e z y.1, fun a o e z n => ⟨x.res a o e z n, o, e⟩, fun c hc' h => ?_⟩, ⟨?_, fun i j a e1 e2 => s1.inj i j a (gi e1).2 (gi e2).2, fun l oa ob e1 e2 => ?_, fun a m => s1.live a m.1⟩⟩
  · have hl : l < g.S.length := by rw [← s.len]; exact (List.getElem?_eq_some_iff.mp e).1
    show (g1.io.take g.S.length)[l]? = some oa ∨ (g1.io.take g.S.length)[l]? = some none
    rw [List.getElem?_take_of_lt hl]
    exact x.ix l oa e
  · have h2 := x.clean c hc' h
    intro l k rs l' hl e hm
    have e : (g1.S.take g.S.length)[l]? = some (.box k rs) := e
    rw [List.getElem?_take_of_lt (by omega)] at e
    exact h2 l k rs l' hl e hm
  · show (g1.io.take g.S.length).length = (g1.S.take g.S.length).length
    rw [List.length_take, List.length_take, s1.len]
  · obtain ⟨hl, e1⟩ := gi e1
    have e2 : (g1.S.take g.S.length)[l]? = some ob := e2
    rw [List.getElem?_take_of_lt hl] at e2
    have h := s1.ob l oa ob e1 e2
    cases oa with
    | none => cases ob with
      | dead => exact True.intro
      | box _ _ => exact h
    | some a => cases ob with
      | dead => exact h
      | box k rs =>
        obtain ⟨m, vs, e3, e4⟩ := h
        exact ⟨⟨m, old hl e1⟩, vs, e3, rels (fun l' z => hc l k rs l' hl e2 z) e4⟩
end
/-- how a def's value is handed out: as pure data; a list of one's own at a new place; with all that was made -/
inductive Md where
  | pure | flat | all
def locsB (b : Nat) : List R → Bool
  | [] => true
  | .d _ :: r => locsB b r
  | .loc l :: r => decide (l < b) && locsB b r
def fin (md : Md) (b : Nat) (r : R) (S : Sto) : Out Exn R := match md with
  | .pure => match frzR 8 S r with
    | some (d, S2) => .ok (.d d) (S2.take b)
    | none => .bad
  | .flat => match r with
    | .d x => .ok (.d x) (S.take b)
    | .loc l => if l < b then .ok (.loc l) (S.take b) else match S[l]? with
      | some (.box k rs) => if locsB b rs = true then .ok (.loc b) (S.take b ++ [.box k rs]) else .bad
      | _ => .bad
  | .all => .ok r S
/-- the def's run upon its arguments; n slots -/
def runF (md : Md) (n : Nat) (ms : MS) : List R → Sto → Out Exn R := fun rs S => match ms S.length (rs.map some ++ List.replicate (n - rs.length) none) S with
  | .ok (.rt r) S1 => fin md S.length r S1
  | .ok (.nx _) S1 => fin md S.length .non S1
  | .ok _ _ => .bad
  | .exc (e, _) S1 => .exc e (S1.take S.length)
  | .bad => .bad
section
variable (K : PySem.W.Frag) (C : DC)
def OkC (g : Cfg) (o : Out Exn R) (Q : VK) (E : XK) : Prop := match o with
  | .ok r S' => ∀ g', g'.S = S' → Ext g.S.length g g' → SoR K C g' → ∀ v, RelR K C g' r v → Q v g'.H
  | .exc e S' => ∀ g' od, g'.S = S' → Ext g.S.length g g' → SoR K C g' → ExR K C g' e od → E (.ref (C.adr e.c)) od g'.H
  | .bad => False
/-- the promise of a def that runs as F -/
def spD (n : Nat) (F : List R → Sto → Out Exn R) : Sp := fun vs H Q E => ∃ g rs, g.H = H ∧ SoR K C g ∧ RelRs K C g rs vs ∧ vs.length = n ∧ OkC K C g (F rs g.S) Q E
end
section
variable {K : PySem.W.Frag} {C : DC} {b : Nat} {g g1 : Cfg}
theorem locsB_ok {b l : Nat} : ∀ {rs : List R}, locsB b rs = true → R.loc l ∈ rs → l < b
  | .d x :: r, h, m => by
    rcases List.mem_cons.mp m with z | z
    · cases z
    · exact locsB_ok (rs := r) h z
  | .loc l' :: r, h, m => by
    have h : (decide (l' < b) && locsB b r) = true := h
    rw [Bool.and_eq_true] at h
    rcases List.mem_cons.mp m with z | z
    · cases z
      exact of_decide_eq_true h.1
    · exact locsB_ok (rs := r) h.2 z
theorem cut_rels {rs : List R} {vs : List V} (hl : ∀ l, R.loc l ∈ rs → l < g.S.length) (h : RelRs K C g1 rs vs) : RelRs K C (g1.cut g) rs vs := by
  induction rs generalizing vs with
  | nil => exact h
  | cons r rs ih =>
    obtain ⟨v, t, e1, e2, e3⟩ := h
    refine ⟨v, t, e1, ?_, ih (fun l z => hl l (List.mem_cons_of_mem _ z)) e3⟩
    cases r with
    | d d => exact Rel.mono (fun a o e z => ⟨e, fun y => z y.1⟩) d e2
    | loc l =>
      obtain ⟨oa, f1, f2⟩ := e2
      exact ⟨oa, by
        show (g1.io.take g.S.length)[l]? = some oa
        rw [List.getElem?_take_of_lt (hl l List.mem_cons_self)]; exact f1, f2⟩
theorem fin_ok {md : Md} {r : R} {v : V} {Q : VK} {E : XK} (s : SoR K C g) (x : Ext g.S.length g g1) (s1 : Gd K C g.S.length g1) (rr : RelR K C g1 r v) (h : OkC K C g (fin md g.S.length r g1.S) Q E) : Q v g1.H := by
  cases md with
  | all => exact h g1 rfl x s1.so v rr
  | pure =>
    simp only [fin] at h
    split at h
    · rename_i d S2 e
      obtain ⟨g2, rfl, ⟨h2, x2, s2, _⟩, q⟩ := frzR_ok (b := g.S.length) 8 s1.so e rr
      obtain ⟨x3, s3⟩ := cut_ok s (x.trans x2) s2 (x2.clean _ (Nat.le_refl _) s1.cl)
      have := h (g2.cut g) rfl x3 s3 v (Rel.mono (fun a o e z => ⟨e, fun y => z y.1⟩) d q)
      rw [← h2]
      exact this
    · exact h.elim
  | flat =>
    obtain ⟨x3, s3⟩ := cut_ok s x s1.so s1.cl
    cases r with
    | d d => exact h (g1.cut g) rfl x3 s3 v (Rel.mono (fun a o e z => ⟨e, fun y => z y.1⟩) d rr)
    | loc l =>
      simp only [fin] at h
      split at h
      · rename_i hl
        exact h (g1.cut g) rfl x3 s3 v (relRs_one (cut_rels (g := g) (rs := [.loc l]) (vs := [v]) (fun l' z => by
          have : l' = l := by simpa using z
          rw [this]; exact hl) ⟨v, [], rfl, rr, rfl⟩) |> fun ⟨u, e, q⟩ => by cases e; exact q)
      · rename_i hl
        split at h
        · rename_i k rs e
          split at h
          · rename_i hb
            obtain ⟨a, vs, rfl, ha, hm, ma, ra⟩ := s1.so.box e rr
            have hn : g.H a = none := by
              rcases x.new l a ha with q | q
              · have := (List.getElem?_eq_some_iff.mp q).1
                rw [s.len] at this
                omega
              · exact q
            have rc := cut_rels (g := g) (fun l' z => locsB_ok hb z) ra
            have hlen : (g1.cut g).io.length = g.S.length := by
              show (g1.io.take g.S.length).length = _
              rw [List.length_take, s1.so.len]
              have := s1.le
              omega
            have hlenS : (g1.cut g).S.length = g.S.length := by rw [← s3.len]; exact hlen
            let g3 : Cfg := { io := (g1.cut g).io ++ [some a], mu := fun y => y = a ∨ (g1.cut g).mu y, H := g1.H, S := (g1.cut g).S ++ [.box k rs] }
            obtain ⟨oa, eoa⟩ := s1.so.live a hm
            have kp : Kp (g1.cut g) g3 → True := fun _ => True.intro
            have rel3 : ∀ {rs : List R} {vs : List V}, RelRs K C g1 rs vs → (∀ l, R.loc l ∈ rs → l < g.S.length) → RelRs K C g3 rs vs := fun {rs} => by
              induction rs with
              | nil => exact fun h _ => h
              | cons r rs ih =>
                rintro vs ⟨w, t, f1, f2, f3⟩ hl'
                refine ⟨w, t, f1, ?_, ih f3 fun l z => hl' l (List.mem_cons_of_mem _ z)⟩
                cases r with
                | d d => exact Rel.mono (fun y o e z => ⟨e, fun q => q.elim (fun q => z (by rw [q]; exact hm)) fun q => z q.1⟩) d f2
                | loc l'' =>
                  obtain ⟨ob, y1, y2⟩ := f2
                  have h3 : l'' < g.S.length := hl' l'' List.mem_cons_self
                  exact ⟨ob, by
                    show ((g1.io.take g.S.length) ++ [some a])[l'']? = some ob
                    rw [List.getElem?_append_left (by rw [show (g1.io.take g.S.length).length = _ from hlen]; exact h3), List.getElem?_take_of_lt h3]; exact y1, y2⟩
            have x4 : Ext g.S.length g g3 := by
              refine ⟨fun j ob f => ?_, fun j c f => ?_, x.keep, x.there, fun c u f z y => ?_, fun c u f z n => .inr (x3.res c u f z n), fun c hc z => ?_⟩
              · rcases x3.ix j ob f with q | q
                · left
                  show ((g1.cut g).io ++ [some a])[j]? = _
                  rw [List.getElem?_append_left (List.getElem?_eq_some_iff.mp q).1]; exact q
                · right
                  show ((g1.cut g).io ++ [some a])[j]? = _
                  rw [List.getElem?_append_left (List.getElem?_eq_some_iff.mp q).1]; exact q
              · have f : ((g1.cut g).io ++ [some a])[j]? = some (some c) := f
                by_cases hj : j < (g1.cut g).io.length
                · rw [List.getElem?_append_left hj] at f; exact x3.new j c f
                · rw [List.getElem?_append_right (by omega)] at f
                  have e' := List.mem_of_getElem? f
                  rw [List.mem_singleton] at e'
                  cases e'
                  exact .inr hn
              · rcases y with y | y
                · rw [y, hn] at f; cases f
                · exact x3.fz c u f z y
              · have z2 := x3.clean c hc z
                intro j k2 rs2 l' hj f hm2
                have f : ((g1.cut g).S ++ [Ob.box k rs])[j]? = some (.box k2 rs2) := f
                rw [List.getElem?_append_left (by omega)] at f
                exact z2 j k2 rs2 l' hj f hm2
            have notin : ∀ j : Nat, (g1.cut g).io[j]? ≠ some (some a) := fun j f => by
              have f : (g1.io.take g.S.length)[j]? = some (some a) := f
              have hj : j < g.S.length := by
                have := (List.getElem?_eq_some_iff.mp f).1
                rw [List.length_take] at this
                omega
              rw [List.getElem?_take_of_lt hj] at f
              have := s1.so.inj j l a f ha
              omega
            have s4 : SoR K C g3 := by
              refine ⟨?_, fun i j c e1 e2 => ?_, fun j ob o f1 f2 => ?_, fun c m => ?_⟩
              · show ((g1.cut g).io ++ [some a]).length = ((g1.cut g).S ++ [Ob.box k rs]).length
                rw [List.length_append, List.length_append, s3.len]; rfl
              · have e1 : ((g1.cut g).io ++ [some a])[i]? = some (some c) := e1
                have e2 : ((g1.cut g).io ++ [some a])[j]? = some (some c) := e2
                have hi1 : i < (g1.cut g).io.length + 1 := by have := (List.getElem?_eq_some_iff.mp e1).1; simpa using this
                have hj1 : j < (g1.cut g).io.length + 1 := by have := (List.getElem?_eq_some_iff.mp e2).1; simpa using this
                by_cases h1 : i < (g1.cut g).io.length
                · rw [List.getElem?_append_left h1] at e1
                  by_cases h2 : j < (g1.cut g).io.length
                  · rw [List.getElem?_append_left h2] at e2
                    exact s3.inj i j c e1 e2
                  · rw [List.getElem?_append_right (by omega)] at e2
                    have e' := List.mem_of_getElem? e2
                    rw [List.mem_singleton] at e'
                    cases e'
                    exact absurd e1 (notin i)
                · by_cases h2 : j < (g1.cut g).io.length
                  · rw [List.getElem?_append_left h2] at e2
                    rw [List.getElem?_append_right (by omega)] at e1
                    have e' := List.mem_of_getElem? e1
                    rw [List.mem_singleton] at e'
                    cases e'
                    exact absurd e2 (notin j)
                  · omega
              · have f1 : ((g1.cut g).io ++ [some a])[j]? = some ob := f1
                have f2 : ((g1.cut g).S ++ [Ob.box k rs])[j]? = some o := f2
                by_cases hj : j < (g1.cut g).io.length
                · rw [List.getElem?_append_left hj] at f1
                  rw [List.getElem?_append_left (by rw [← s3.len]; exact hj)] at f2
                  have hj' : j < g.S.length := by rw [← hlen]; exact hj
                  have f1' : g1.io[j]? = some ob := by
                    have f1 : (g1.io.take g.S.length)[j]? = some ob := f1
                    rw [List.getElem?_take_of_lt hj'] at f1; exact f1
                  have f2' : g1.S[j]? = some o := by
                    have f2 : (g1.S.take g.S.length)[j]? = some o := f2
                    rw [List.getElem?_take_of_lt hj'] at f2; exact f2
                  have q := s3.ob j ob o f1 f2
                  have q1 := s1.so.ob j ob o f1' f2'
                  cases ob with
                  | none => cases o with
                    | dead => exact True.intro
                    | box _ _ => exact q
                  | some c => cases o with
                    | dead => exact q
                    | box k2 rs2 =>
                      obtain ⟨m, us, q3, q4⟩ := q
                      obtain ⟨_, us', q5, q6⟩ := q1
                      exact ⟨.inr m, us', q5, rel3 q6 fun l' z => s1.cl j k2 rs2 l' hj' f2' z⟩
                · rw [List.getElem?_append_right (by omega)] at f1
                  rw [List.getElem?_append_right (by rw [← s3.len]; omega)] at f2
                  have e1' := List.mem_of_getElem? f1
                  have e2' := List.mem_of_getElem? f2
                  rw [List.mem_singleton] at e1' e2'
                  cases e1'; cases e2'
                  exact ⟨.inl rfl, vs, ma, rel3 ra fun l' z => locsB_ok hb z⟩
              · rcases m with m | m
                · exact ⟨oa, by rw [m]; exact eoa⟩
                · exact s3.live c m
            refine h g3 rfl x4 s4 (.ref a) ⟨some a, ?_, fun c z => by cases z; rfl⟩
            show ((g1.cut g).io ++ [some a])[g.S.length]? = some (some a)
            rw [← hlen, List.getElem?_append_right (Nat.le_refl _), Nat.sub_self]; rfl
          · exact h.elim
        · exact h.elim
end
end DL

set_option maxHeartbeats 1000000
/-! DL9: defs, their calls, new objects, methods. -/
namespace DL
open PySem PySem.Spec PyProof.Rows L2

abbrev WS (E : XK) : WX := fun c d _ H => E c d H
theorem Ext.less {b c : Nat} {g g' : Cfg} (x : Ext b g g') (h : c ≤ b) : Ext c g g' := ⟨x.ix, x.new, x.keep, x.there, x.fz, x.res, fun d hd => x.clean d (Nat.le_trans hd h)⟩
section
variable {K : PySem.W.Frag} {C : DC}
theorem RelRs.loc_lt {g : Cfg} (s : SoR K C g) : ∀ {rs : List R} {vs : List V} {l : Nat}, RelRs K C g rs vs → R.loc l ∈ rs → l < g.S.length
  | r :: rs, vs, l, ⟨v, t, e1, e2, e3⟩, m => by
    rcases List.mem_cons.mp m with z | z
    · subst z
      obtain ⟨oa, f1, _⟩ := e2
      rw [← s.len]
      exact (List.getElem?_eq_some_iff.mp f1).1
    · exact RelRs.loc_lt s e3 z
/-- all places lie in the store -/
theorem SoR.clean {g : Cfg} (s : SoR K C g) : Clean g.S.length g.S := by
  intro l k rs l' hl e hm
  have hl' : l < g.io.length := by rw [s.len]; exact hl
  have h := s.ob l g.io[l] _ (List.getElem?_eq_getElem hl') e
  cases q : g.io[l] with
  | none => rw [q] at h; exact h.elim
  | some a =>
    rw [q] at h
    obtain ⟨_, vs, _, e2⟩ := h
    exact e2.loc_lt s hm
theorem SoR.gd {g : Cfg} (s : SoR K C g) : Gd K C g.S.length g := ⟨s, s.clean, Nat.le_refl _⟩
theorem start_env {g : Cfg} {N : List Str} {rs : List R} {vs : List V} (h : RelRs K C g rs vs) : EnvR K C g (L2.start N vs) (rs.map some ++ List.replicate (N.length - rs.length) none) := by
  refine ⟨?_, fun i r e => ?_⟩
  · unfold L2.start
    rw [List.length_append, List.length_append, List.length_map, List.length_map, List.length_replicate, List.length_replicate, h.len]
  · unfold L2.start
    by_cases hi : i < rs.length
    · rw [List.getElem?_append_left (by rw [List.length_map]; exact hi), List.getElem?_map, Option.map_eq_some_iff] at e
      obtain ⟨q, e1, e2⟩ := e
      cases e2
      obtain ⟨v, e3, e4⟩ := h.get e1
      refine ⟨v, ?_, e4⟩
      rw [List.getElem?_append_left (by rw [List.length_map, ← h.len]; exact hi), List.getElem?_map, e3]; rfl
    · rw [List.getElem?_append_right (by rw [List.length_map]; omega)] at e
      have := List.mem_of_getElem? e
      rw [List.mem_replicate] at this
      exact absurd this.2 (by simp)
end
section
variable {P : Program} {w : World} {K : PySem.W.Frag} {mg : Str → Option Value} {base : Heap} {x qual : Str} {params : Arguments} {body : List Stmt} {scope : Scope} {dvs : List V} {kws : List (Str × V)} {f : Addr} {fd : FuncData} {C : DC}
/-- THE RULE for a def -/
theorem fn_ok {N ps : List Str} {k : Nat} {ms : MS} (md : Md) (F : FunD K x qual params body scope dvs kws f fd) (S : FnScope N ps scope)
    (hb : ∀ (cdv : Value) (A : Around) (outer : List PySem.Env) (s : Shared) (H : Hp) (E : XK), Room k (A.deeper (envOfC qual scope s.heap.objs.size f cdv)) → DSs (cxOf (L2.CX P w) P w K mg base N qual scope f cdv A outer s H E) C (WS E) body ms) :
    FnOk P w K mg base (L2.CX P w) (k + 1) f fd ps (spD K C ps.length (runF md N.length ms)) := by
  refine F.ok S (fun vs H Q E h => ?_) fun cdv A outer s H vs Q E hr h => ⟨_, hb cdv A outer s H E hr, ?_⟩
  · obtain ⟨g, rs, _, _, _, e, _⟩ := h
    exact e
  · obtain ⟨g, rs, rfl, s1, r, _, h⟩ := h
    refine ⟨g.S.length, g, _, rfl, s1.gd, start_env (N := N) r, ?_⟩
    unfold runF at h
    cases q : ms g.S.length (rs.map some ++ List.replicate (N.length - rs.length) none) g.S with
    | bad => rw [q] at h; exact h.elim
    | exc e S1 =>
      obtain ⟨e, ρ'⟩ := e
      rw [q] at h
      intro g' σ' od e1 x1 s2 _ re
      subst e1
      obtain ⟨x3, s3⟩ := cut_ok s1 x1 s2.so s2.cl
      refine h (g'.cut g) od rfl x3 s3 ?_
      unfold ExR at re ⊢
      split at re
      · exact re
      · obtain ⟨vs, e1, e2⟩ := re
        exact ⟨vs, e1, Rels.mono (fun a o e z => ⟨e, fun y => z y.1⟩) _ e2⟩
      · exact re
    | ok fl S1 =>
      rw [q] at h
      intro g' σ' e1 x1 s2
      subst e1
      cases fl with
      | rt r1 => exact fun v rv => fin_ok s1 x1 s2 rv h
      | nx ρ' => exact fun _ => fin_ok s1 x1 s2 (rel_non.mpr rfl) h
      | bk _ => exact h.elim
      | ct _ => exact h.elim
/-- what never runs is no promise -/
theorem fn_bad {CX : CXT} {k n : Nat} {ps : List Str} (h : n = ps.length) : FnOk P w K mg base CX k f fd ps (spD K C n fun _ _ => .bad) :=
  ⟨fun vs H Q E h' => by
    obtain ⟨_, _, _, _, _, _, z⟩ := h'
    exact z.elim, fun A outer s H args us vs Q E _ _ _ _ h' => by
    obtain ⟨_, _, _, _, _, _, z⟩ := h'
    exact z.elim⟩
end
/-- a def that may be called by its name -/
structure Callee (P : Program) (w : World) (K : PySem.W.Frag) (mg : Str → Option Value) (base : Heap) (C : DC) (k : Nat) (x : Str) (ps : List Str) (F : List R → Sto → Out Exn R) : Prop where
  ex : ∃ f fd, FnOk P w K mg base (L2.CX P w) k f fd ps (spD K C ps.length F) ∧ mg x = some (.ref f) ∧ PySem.W.keepIn K (.ref f) = true ∧ Binds K fd ps []
/-- .. with keywords: n values, then those named ks, in the parameters' order -/
structure CalleeK (P : Program) (w : World) (K : PySem.W.Frag) (mg : Str → Option Value) (base : Heap) (C : DC) (k : Nat) (x : Str) (ps : List Str) (n : Nat) (ks : List Str) (F : List R → Sto → Out Exn R) : Prop where
  ex : ∃ f fd, FnOk P w K mg base (L2.CX P w) k f fd ps (spD K C ps.length F) ∧ mg x = some (.ref f) ∧ PySem.W.keepIn K (.ref f) = true ∧ KBn K fd ps n ks (fun us ws => us ++ ws) fun vs zs => vs ++ zs
/-- a class, called: its __init__ -/
structure Maker (P : Program) (w : World) (K : PySem.W.Frag) (mg : Str → Option Value) (base : Heap) (C : DC) (k : Nat) (x : Str) (c : Nat) (ps : List Str) (F : List R → Sto → Out Exn R) : Prop where
  ex : ∃ f fd, FnOk P w K mg base (L2.CX P w) k f fd ps (spD K C ps.length F) ∧ Mk K (C.adr c) f ∧ mg x = some (.ref (C.adr c)) ∧ Binds K fd ps []
/-- a method of class c -/
structure Methd (P : Program) (w : World) (K : PySem.W.Frag) (mg : Str → Option Value) (base : Heap) (C : DC) (k : Nat) (c : Nat) (m : Str) (ps : List Str) (F : List R → Sto → Out Exn R) : Prop where
  ex : ∃ f fd, FnOk P w K mg base (L2.CX P w) k f fd ps (spD K C ps.length F) ∧ Cls K (C.adr c) ∧ Meth K (C.adr c) m f ∧ Binds K fd ps [] ∧ m ∉ C.names c
def mFn (F : List R → Sto → Out Exn R) (n : Nat) (ma : MA) : ME := fun b ρ S => (ma b ρ S).bind fun rs S1 => if rs.length = n then F rs S1 else .bad
def mFn0 (F : List R → Sto → Out Exn R) : ME := fun _ _ S => (F [] S).nox
def mFnK (F : List R → Sto → Out Exn R) (n m : Nat) (ma mk : MA) : ME := fun b ρ S => (ma b ρ S).bind fun rs S1 => (mk b ρ S1).bind fun zs S2 => if rs.length = n ∧ zs.length = m then F (rs ++ zs) S2 else .bad
section
variable {K : PySem.W.Frag} {C : DC} {W : WX} {b : Nat} {σ : L2.St} {g : Cfg}
theorem OkE.toC {o : Out Exn R} {Q : VK} (s : Gd K C b g) (h : OkE K C W b σ g o fun r g' => ∀ v, RelR K C g' r v → Q v g'.H) : OkC K C g o Q (WE W σ) := by
  cases o with
  | bad => exact h
  | ok r S => exact fun g' e x s' => h g' e (x.less s.le) ⟨s', x.clean b s.le s.cl, by have := x.lele s.so s'; have := s.le; omega⟩
  | exc e S => exact fun g' od e1 x s' re => h g' od e1 (x.less s.le) ⟨s', x.clean b s.le s.cl, by have := x.lele s.so s'; have := s.le; omega⟩ re
end
section
variable {X : Cx} {C : DC} {W : WX} {E : XK} {k c : Nat} {x m : Str} {ps ks : List Str} {F : List R → Sto → Out Exn R} {e o : Expr} {es : List Expr} {ma mk : MA} {mo : ME} {p pos apos : Pos}
theorem de_call (h : Callee X.prog X.w X.K X.mg X.base C k x ps F) (hr : Room k X.A) (tk : Takes X W) (hg : Gl X x) (ha : DA X C W (e :: es) ma) (hl : (e :: es).length = ps.length := by rfl) (hdb : (x == ("__debug__" : Str)) = false := by decide)
    (he : starEach (e :: es) X.env = (false, eval e X.env) :: starEach es X.env := by rfl) (hpl : (backTo pos (starEach es X.env)).any (·.1) = false := by rfl) : DE X C W (.Call (.Name x p) (e :: es) [] pos) (mFn F ps.length ma) := by
  obtain ⟨f, fd, G, hm, hk, hb⟩ := h.ex
  refine weaken (pe_callS (E := WE W) G hr hg hm hk hb (fun σ => passAt tk σ) ha hdb he hpl) fun σ H Q h => ?_
  obtain ⟨b, g, ρ, rfl, s, r, h⟩ := h
  refine ⟨b, g, ρ, rfl, s, r, h.bind.mono fun rs g1 x1 s1 h1 vs rv => ?_⟩
  split at h1
  · rename_i hn
    exact ⟨g1, rs, rfl, s1.so, rv, by rw [← rv.len]; exact hn, h1.toC s1⟩
  · exact h1.elim
theorem de_call0 (h : Callee X.prog X.w X.K X.mg X.base C k x [] F) (hr : Room k X.A) (hg : Gl X x) (hdb : (x == ("__debug__" : Str)) = false := by decide) : DE X C W (.Call (.Name x p) [] [] pos) (mFn0 F) := by
  obtain ⟨f, fd, G, hm, hk, hb⟩ := h.ex
  refine weaken (pe_call0 (E := E0) G hr hg hm hk hb .nil passL hdb) fun σ H Q h => ?_
  obtain ⟨b, g, ρ, rfl, s, r, h⟩ := h
  refine ⟨g, [], rfl, s.so, rfl, rfl, ?_⟩
  unfold mFn0 at h
  cases q : F [] g.S with
  | bad => rw [q] at h; exact h.elim
  | exc e S => rw [q] at h; exact h.elim
  | ok r S =>
    rw [q] at h
    exact fun g' e x s' => h g' e (x.less s.le) ⟨s', x.clean b s.le s.cl, by have := x.lele s.so s'; have := s.le; omega⟩
abbrev DK (X : Cx) (C : DC) (W : WX) (kws : List Keyword) (ma : MA) : Prop := PK X kws (liftA X.K C W ma)
theorem weakenK {kws : List Keyword} {t t' : TA} (h : PK X kws t) (w : ∀ σ H Q, t' σ H Q → t σ H Q) : PK X kws t' := ⟨fun pos pins s σ H Q I q => h.run pos pins s σ H Q I (w σ H Q q)⟩
theorem dk_nil : DK X C W [] mNil := weakenK pk_nil fun σ H Q h => by
  obtain ⟨b, g, ρ, rfl, s, r, h⟩ := h
  exact h g rfl .refl s [] rfl
theorem dk_cons {nm : Option Str} {kpos : Pos} {kws : List Keyword} {mr : MA} (ha : DE X C W e mo) (hr : DK X C W kws mr) : DK X C W (⟨nm, e, kpos⟩ :: kws) (mCons mo mr) :=
  weakenK (pk_cons ha hr) fun σ H Q h => by
    obtain ⟨b, g, ρ, rfl, s, r, h⟩ := h
    refine ⟨b, g, ρ, rfl, s, r, h.bind.mono fun x g1 x1 s1 h1 v rv => ?_⟩
    refine ⟨b, g1, ρ, rfl, s1, r.mono s.so x1, h1.bind.mono fun xs g2 x2 s2 h2 vs rvs => ?_⟩
    exact h2 g2 rfl .refl s2 (v :: vs) ⟨v, vs, rfl, rv.mono s1.so x2, rvs⟩
/-- with keywords, in a def's body -/
theorem de_callK {n : Nat} {kws : List Keyword} (h : CalleeK X.prog X.w X.K X.mg X.base C k x ps n ks F) (hr : Room k X.A) (tk : Takes X (WS E)) (hg : Gl X x) (ha : DA X C (WS E) (e :: es) ma) (hkw : DK X C (WS E) kws mk) (hn : n + ks.length = ps.length := by rfl)
    (hall : (backToKw pos (keywordEach kws X.env)).all (·.1.isSome) = true := by rfl) (hks : (backToKw pos (keywordEach kws X.env)).filterMap (·.1) = ks := by rfl)
    (hdb : (x == ("__debug__" : Str)) = false := by decide) (he : starEach (e :: es) X.env = (false, eval e X.env) :: starEach es X.env := by rfl)
    (hpl : ((backTo pos (starEach (e :: es) X.env)).any (·.1) || (backToKw pos (keywordEach kws X.env)).any (·.1.isNone)) = false := by rfl) :
    DE X C (WS E) (.Call (.Name x p) (e :: es) kws pos) (mFnK F n ks.length ma mk) := by
  obtain ⟨f, fd, G, hm, hk, hb⟩ := h.ex
  refine weaken (pe_callN (E := E) G hr hg hm hk hb (passes_call tk fun _ _ _ _ z => z) ha hkw hall hks hdb he hpl) fun σ H Q h => ?_
  obtain ⟨b, g, ρ, rfl, s, r, h⟩ := h
  refine ⟨b, g, ρ, rfl, s, r, h.bind.mono fun rs g1 x1 s1 h1 vs rv => ?_⟩
  refine ⟨b, g1, ρ, rfl, s1, r.mono s.so x1, h1.bind.mono fun zs g2 x2 s2 h2 us ru => ?_⟩
  split at h2
  · rename_i hz
    exact ⟨by rw [← rv.len]; exact hz.1, by rw [← ru.len]; exact hz.2, g2, rs ++ zs, rfl, s2.so, (rv.mono s1.so x2).append ru, by rw [List.length_append, ← rv.len, ← ru.len, hz.1, hz.2, hn], h2.toC s2⟩
  · exact h2.elim

/-! ### a new object -/
/-- C(..): as pure data (md = .pure), or as a place (md = .all) -/
def mNew (md : Md) (c : Nat) (F : List R → Sto → Out Exn R) (n : Nat) (ma : MA) : ME := fun b ρ S => (ma b ρ S).bind fun rs S1 => if rs.length + 1 = n then
    match F (.loc S1.length :: rs) (S1 ++ [.box (.obj c) []]) with
    | .ok (.d (.lf .non)) S2 => if S2.length = S1.length + 1 then fin md S1.length (.loc S1.length) S2 else .bad
    | .ok _ _ => .bad
    | .exc e S2 => .exc e (S2.take S1.length)
    | .bad => .bad
  else .bad
theorem de_new (md : Md) (h : Maker X.prog X.w X.K X.mg X.base C k x c ps F) (hr : Room (k + 1) X.A) (tk : Takes X (WS E)) (hg : Gl X x) (ha : DA X C (WS E) (e :: es) ma) (hl : (e :: es).length + 1 = ps.length := by rfl) (hdb : (x == ("__debug__" : Str)) = false := by decide)
    (he : starEach (e :: es) X.env = (false, eval e X.env) :: starEach es X.env := by rfl) (hpl : (backTo pos (starEach es X.env)).any (·.1) = false := by rfl) :
    DE X C (WS E) (.Call (.Name x p) (e :: es) [] pos) (mNew md c F ps.length ma) := by
  obtain ⟨f, fd, G, M, hm, hb⟩ := h.ex
  refine weaken (pe_make (E := E) M G hr hg hm hb .nil (passes_call tk fun _ _ _ _ z => z) ha hdb he hpl) fun σ H Q h => ?_
  obtain ⟨b, g, ρ, rfl, s, r, h⟩ := h
  refine ⟨b, g, ρ, rfl, s, r, h.bind.mono fun rs g1 x1 s1 h1 vs rv y dx hy hdx hne => ?_⟩
  split at h1
  · rename_i hn
    have sa := s1.up (p := dx) (o := .own y) hdx
    have xa : Ext b g1 (g1.up dx (.own y)) := Ext.up hdx
    have hya : (g1.up dx (.own y)).H y = none := by
      show upd g1.H dx (.own y) y = none
      rw [upd_ne (Ne.symm hne)]; exact hy
    have sb : Gd X.K C b ((g1.up dx (.own y)).mk' y (.ins (C.adr c) dx []) (.box (.obj c) [])) := sa.mk' hya (vs := []) ⟨dx, by
      show upd _ y _ y = some (.ins (C.adr c) dx ((C.names c).zip []))
      rw [upd_same, List.zip_nil_right]⟩ rfl
    have xb : Ext b (g1.up dx (.own y)) ((g1.up dx (.own y)).mk' y (.ins (C.adr c) dx []) (.box (.obj c) [])) := Ext.mk' sa hya
    have rl : RelR X.K C ((g1.up dx (.own y)).mk' y (.ins (C.adr c) dx []) (.box (.obj c) [])) (.loc g1.S.length) (.ref y) := ⟨some y, by
      show (g1.io ++ [some y])[g1.S.length]? = _
      rw [← s1.so.len, List.getElem?_append_right (Nat.le_refl _), Nat.sub_self]; rfl, fun a z => by cases z; rfl⟩
    have x0 : Ext g1.S.length g1 ((g1.up dx (.own y)).mk' y (.ins (C.adr c) dx []) (.box (.obj c) [])) := by
      have sg : Gd X.K C g1.S.length (g1.up dx (.own y)) := s1.so.gd.up hdx
      exact (Ext.up hdx).trans (Ext.mk' sg hya)
    refine ⟨(g1.up dx (.own y)).mk' y (.ins (C.adr c) dx []) (.box (.obj c) []), .loc g1.S.length :: rs, rfl, sb.so, ⟨.ref y, vs ++ [], rfl, rl, by rw [List.append_nil]; exact (rv.mono s1.so xa).mono sa.so xb⟩, by
      rw [List.length_cons, List.append_nil, ← rv.len]; exact hn, ?_⟩
    have hS : ((g1.up dx (.own y)).mk' y (.ins (C.adr c) dx []) (.box (.obj c) [])).S = g1.S ++ [.box (.obj c) []] := rfl
    rw [hS]
    have hlen : (g1.S ++ [Ob.box (.obj c) []]).length = g1.S.length + 1 := by rw [List.length_append]; rfl
    cases q : F (.loc g1.S.length :: rs) (g1.S ++ [.box (.obj c) []]) with
    | bad => rw [q] at h1; exact h1.elim
    | exc ex S2 =>
      rw [q] at h1
      intro g' od e1 x2 s2 re
      subst e1
      have xc : Ext g1.S.length g1 g' := x0.trans (x2.less (by rw [hS, hlen]; omega))
      obtain ⟨x3, s3⟩ := cut_ok s1.so xc s2 (xc.clean _ (Nat.le_refl _) s1.so.clean)
      refine h1 (g'.cut g1) od rfl (x3.less s1.le) ⟨s3, x3.clean b s1.le s1.cl, by have := x3.lele s1.so s3; have := s1.le; omega⟩ ?_
      unfold ExR at re ⊢
      split at re
      · exact re
      · obtain ⟨us, e1, e2⟩ := re
        exact ⟨us, e1, Rels.mono (fun a o e z => ⟨e, fun y => z y.1⟩) _ e2⟩
      · exact re
    | ok r2 S2 =>
      rw [q] at h1
      intro g' e1 x2 s2 v rv2
      subst e1
      have h1 : OkE X.K C (WS E) b σ g1 (match r2, g'.S with
        | .d (.lf .non), S2 => if S2.length = g1.S.length + 1 then fin md g1.S.length (.loc g1.S.length) S2 else .bad
        | _, _ => .bad) fun r g' => ∀ v, RelR X.K C g' r v → Q v g'.H := by
        cases r2 with
        | loc l => exact h1
        | d d => cases d with
          | lf a => cases a <;> exact h1
          | box _ _ => exact h1
      split at h1
      · refine ⟨rel_non.mp rv2, ?_⟩
        split at h1
        · rename_i hlen2
          have xc : Ext g1.S.length g1 g' := x0.trans (x2.less (by rw [hS, hlen]; omega))
          have rl' : RelR X.K C g' (.loc g1.S.length) (.ref y) := rl.mono sb.so x2
          exact fin_ok (E := WE (WS E) σ) s1.so xc ⟨s2, xc.clean _ (Nat.le_refl _) s1.so.clean, by omega⟩ rl' (h1.toC s1)
        · exact h1.elim
      · exact h1.elim
  · exact h1.elim

/-! ### o.m(..) -/
def isObj (c : Nat) (x : R) (S : Sto) : Bool := match objOf x S with
  | some (d, _) => d == c
  | none => false
def mMt (c n : Nat) (F : List R → Sto → Out Exn R) (mo : ME) (ma : MA) : ME := fun b ρ S => (mo b ρ S).bind fun x S1 => if isObj c x S1 = true then (ma b ρ S1).bind fun rs S2 => if rs.length + 1 = n then F (x :: rs) S2 else .bad else .bad
theorem isObj_ok {K : PySem.W.Frag} {g : Cfg} {x : R} {v : V} (s : SoR K C g) (h : isObj c x g.S = true) (r : RelR K C g x v) : ∃ a dx fs, v = .ref a ∧ g.H a = some (.ins (C.adr c) dx fs) ∧ ∀ m, m ∉ C.names c → fs.lookup m = none := by
  unfold isObj at h
  cases q : objOf x g.S with
  | none => rw [q] at h; cases h
  | some p =>
    obtain ⟨d, rs⟩ := p
    rw [q] at h
    have : d = c := by simpa using h
    subst this
    obtain ⟨a, dx, vs, rfl, e, _⟩ := objOf_ok s q r
    refine ⟨a, dx, _, rfl, e, fun m hm => ?_⟩
    rw [List.lookup_eq_none_iff]
    intro p hp
    have := (List.of_mem_zip hp).1
    rw [bne_iff_ne] <;> exact fun z => hm (z ▸ this)
theorem de_meth {pl : Sem Bool} (h : Methd X.prog X.w X.K X.mg X.base C k c m ps F) (hr : Room k X.A) (tk : Takes X (WS E)) (ho : DE X C (WS E) o mo) (ha : DA X C (WS E) (e :: es) ma) (hl : (e :: es).length + 1 = ps.length := by rfl)
    (hst : starEach (e :: es) X.env = (false, eval e X.env) :: starEach es X.env := by rfl) (hpl : (backTo pos (starEach es X.env)).any (·.1) = false := by rfl)
    (ht : eval (.Call (.Attribute o m apos) (e :: es) [] pos) X.env = (do
      let ov ← eval o X.env
      standAt apos.atName
      let (f, first) ← holding [ov] (getMethod ov m pl)
      callWith pos f first (backTo pos (starEach (e :: es) X.env)) (backToKw pos (keywordEach [] X.env))) := by rfl) :
    DE X C (WS E) (.Call (.Attribute o m apos) (e :: es) [] pos) (mMt c ps.length F mo ma) := by
  obtain ⟨f, fd, G, hc, hM, hb, hn⟩ := h.ex
  refine weaken (pe_meth (E := E) (pl := pl) ho hc hM G hr hb .nil (passes_call tk fun _ _ _ _ z => z) ha hst hpl ht) fun σ H Q h => ?_
  obtain ⟨b, g, ρ, rfl, s, r, h⟩ := h
  refine ⟨b, g, ρ, rfl, s, r, h.bind.mono fun y g1 x1 s1 h1 v rv => ?_⟩
  split at h1
  · rename_i hi
    obtain ⟨a, dx, fs, rfl, e1, e2⟩ := isObj_ok s1.so hi rv
    refine ⟨a, dx, fs, rfl, e1, e2 m hn, b, g1, ρ, rfl, s1, r.mono s.so x1, h1.bind.mono fun rs g2 x2 s2 h2 vs rvs => ?_⟩
    split at h2
    · rename_i hz
      exact ⟨g2, y :: rs, rfl, s2.so, ⟨.ref a, vs ++ [], rfl, rv.mono s1.so x2, by rw [List.append_nil]; exact rvs⟩, by rw [List.length_cons, List.append_nil, ← rvs.len]; exact hz, h2.toC s2⟩
    · exact h2.elim
  · exact h1.elim
end
end DL

set_option maxHeartbeats 1000000
/-! DL10: further rules: constants of the module, tables with text keys, y = [..], -n, slices. -/
namespace DL
open PySem PySem.Spec PyProof.Rows L2

theorem with_tk {X : Cx} {C : DC} {W : WX} {e : Expr} {m : ME} (h : Takes X W → DE X C W e m) (t : Takes X W) : DE X C W e m := h t
theorem with_tkT {X : Cx} {C : DC} {W : WX} {e : List Expr} {m : MT} (h : Takes X W → DTs X C W e m) (t : Takes X W) : DTs X C W e m := h t
theorem bt_int : bootBuiltins "int" = some (.type Ty.int.nm) := by decide +kernel
theorem bt_bool : bootBuiltins "bool" = some (.type Ty.bl.nm) := by decide +kernel
theorem bt_str : bootBuiltins "str" = some (.type Ty.str.nm) := by decide +kernel
theorem bt_tuple : bootBuiltins "tuple" = some (.type Ty.tup.nm) := by decide +kernel
theorem bt_list : bootBuiltins "list" = some (.type Ty.lst.nm) := by decide +kernel
theorem bt_dict : bootBuiltins "dict" = some (.type Ty.dct.nm) := by decide +kernel
theorem bt_len : bootBuiltins "len" = some (.builtin "len") := by decide +kernel
theorem bt_max : bootBuiltins "max" = some (.builtin "max") := by decide +kernel
theorem bt_min : bootBuiltins "min" = some (.builtin "min") := by decide +kernel

section
variable {X : Cx} {C : DC} {W : WX} {a c e : Expr} {ma mb me : ME} {pos : Pos}
theorem de_globI {x : Str} {i : Int} (hg : Gl X x) (hm : ∃ t, X.mg x = some (.int i t)) (hd : (x == ("__debug__" : Str)) = false := by decide) : DE X C W (.Name x pos) (mC (.int i)) := by
  obtain ⟨t, hm⟩ := hm
  exact de_c (pe_glob hg hm ⟨t, rfl⟩ hd)
theorem de_globS {x z : Str} (hg : Gl X x) (hm : ∃ t, X.mg x = some (.str z t)) (hd : (x == ("__debug__" : Str)) = false := by decide) : DE X C W (.Name x pos) (mC (.str z)) := by
  obtain ⟨t, hm⟩ := hm
  exact de_c (pe_glob hg hm ⟨t, rfl⟩ hd)
/-- -n -/
def mNeg (m : ME) : ME := fun b ρ S => (m b ρ S).bind fun x S1 => match x with
  | .d (.lf (.int i)) => .ok (.int (-i)) S1
  | _ => .bad
theorem de_neg (h : DE X C W a ma) : DE X C W (.UnaryOp .USub a pos) (mNeg ma) := weaken (pe_un un_neg h) fun σ H Q h => by
  obtain ⟨b, g, ρ, rfl, s, r, h⟩ := h
  refine ⟨b, g, ρ, rfl, s, r, h.bind.mono fun x g1 x1 s1 h1 v rv => ?_⟩
  split at h1
  · exact ⟨_, rel_int.mp rv, h1 g1 rfl .refl s1 _ (rel_int.mpr rfl)⟩
  · exact h1.elim

/-! ### a table of the module: text keys, values that are leaves -/
structure TabOk (K : PySem.W.Frag) (w : World) (mg : Str → Option Value) (x : Str) (kvs : List (Str × At)) : Prop where
  ex : ∃ d es n, mg x = some (.ref d) ∧ KDict K w d es n ∧ ∀ q ∈ kvs, ∃ u, PySem.W.nsIn K d q.1 = some (some u) ∧ RelV q.2.v u
def lookT (kvs : List (Str × At)) (z : Str) : Option At := kvs.lookup z
theorem lookT_mem {z : Str} {v : At} : ∀ {kvs : List (Str × At)}, lookT kvs z = some v → (z, v) ∈ kvs
  | (k, u) :: kvs, e => by
    unfold lookT at e
    rw [List.lookup_cons] at e
    split at e
    · rename_i h
      cases e
      rw [beq_iff_eq] at h
      subst h
      exact List.mem_cons_self
    · exact List.mem_cons_of_mem _ (lookT_mem (kvs := kvs) e)
/-- T[e] -/
def mTab (kvs : List (Str × At)) (m : ME) : ME := fun b ρ S => (m b ρ S).bind fun x S1 => match x with
  | .d (.lf (.str z)) => match lookT kvs z with
    | some v => .ok (.d (.lf v)) S1
    | none => .bad
  | _ => .bad
theorem de_tab {x : Str} {kvs : List (Str × At)} {p : Pos} (hg : Gl X x) (hT : TabOk X.K X.w X.mg x kvs) (h : DE X C W e me) (hs : PlainIx e := by exact fun _ _ => rfl) (hd : (x == ("__debug__" : Str)) = false := by decide) : DE X C W (.Subscript (.Name x p) e pos) (mTab kvs me) := by
  obtain ⟨d, es, n, hm, D, hv⟩ := hT.ex
  refine weaken (pe_ix ix_kdict (pe_glob (v := .ref d) hg hm rfl hd) h hs) fun σ H Q h => ?_
  show liftE X.K C W me σ H fun y H2 => rIxD X.K X.w (.ref d) y H2 Q
  obtain ⟨b, g, ρ, rfl, s, r, h⟩ := h
  refine ⟨b, g, ρ, rfl, s, r, h.bind.mono fun x g1 x1 s1 h1 v rv => ?_⟩
  split at h1
  · split at h1
    · rename_i z _ u e1
      obtain ⟨u0, q1, q2⟩ := hv _ (lookT_mem e1)
      exact ⟨d, z, u.v, rfl, rel_str.mp rv, ⟨es, n, u0, D.at_, D.lit, q1, q2⟩, h1 g1 rfl .refl s1 _ (rel_lf.mpr rfl)⟩
    · exact h1.elim
  · exact h1.elim
/-- e in T, e not in T, for a key of the table (of any other key nothing is told) -/
def mInTab (neg : Bool) (kvs : List (Str × At)) (m : ME) : ME := fun b ρ S => (m b ρ S).bind fun x S1 => match x with
  | .d (.lf (.str z)) => match lookT kvs z with
    | some _ => .ok (.bl (!neg)) S1
    | none => .bad
  | _ => .bad
theorem inTab_lift {K : PySem.W.Frag} {neg : Bool} {kvs : List (Str × At)} {d : Addr} {σ : L2.St} {H : Hp} {Q : VK} (hv : ∀ q ∈ kvs, ∃ u, PySem.W.nsIn K d q.1 = some (some u) ∧ RelV q.2.v u) (h : liftE K C W (mInTab neg kvs me) σ H Q) :
    liftE K C W me σ H fun x H1 => ∃ (z : Str) (r : Option Value), x = .str z ∧ PySem.W.nsIn K d z = some r ∧ r.isSome = true ∧ Q (.bl (!neg)) H1 := by
  obtain ⟨b, g, ρ, rfl, s, r, h⟩ := h
  refine ⟨b, g, ρ, rfl, s, r, h.bind.mono fun x g1 x1 s1 h1 v rv => ?_⟩
  split at h1
  · split at h1
    · rename_i z _ u e1
      obtain ⟨u0, q1, q2⟩ := hv _ (lookT_mem e1)
      exact ⟨z, some u0, rel_str.mp rv, q1, rfl, h1 g1 rfl .refl s1 _ (rel_bl.mpr rfl)⟩
    · exact h1.elim
  · exact h1.elim
theorem de_inTab {x : Str} {kvs : List (Str × At)} {p : Pos} (hg : Gl X x) (hT : TabOk X.K X.w X.mg x kvs) (h : DE X C W e me) (hd : (x == ("__debug__" : Str)) = false := by decide) (hm2 : behindInMarks .In (.Name x p) = false := by rfl) : DE X C W (.Compare e [.In] [.Name x p] pos) (mInTab false kvs me) := by
  obtain ⟨d, es, n, hm, D, hv⟩ := hT.ex
  refine weaken (pe_cmpR (op_in_kd D) h (pe_glob (v := .ref d) hg hm rfl hd) hm2) fun σ H Q h => ?_
  have := inTab_lift hv h
  obtain ⟨b, g, ρ, e1, s, r, h⟩ := this
  refine ⟨b, g, ρ, e1, s, r, h.mono fun x g1 x1 s1 h1 v rv => ?_⟩
  obtain ⟨z, q, e2, e3, e4, e5⟩ := h1 v rv
  exact ⟨z, q, e2, rfl, e3, by rw [e4]; exact e5⟩
theorem de_notInTab {x : Str} {kvs : List (Str × At)} {p : Pos} (hg : Gl X x) (hT : TabOk X.K X.w X.mg x kvs) (h : DE X C W e me) (hd : (x == ("__debug__" : Str)) = false := by decide) (hm2 : behindInMarks .NotIn (.Name x p) = false := by rfl) : DE X C W (.Compare e [.NotIn] [.Name x p] pos) (mInTab true kvs me) := by
  obtain ⟨d, es, n, hm, D, hv⟩ := hT.ex
  refine weaken (pe_cmpR (op_notIn_kd D) h (pe_glob (v := .ref d) hg hm rfl hd) hm2) fun σ H Q h => ?_
  have := inTab_lift hv h
  obtain ⟨b, g, ρ, e1, s, r, h⟩ := this
  refine ⟨b, g, ρ, e1, s, r, h.mono fun x g1 x1 s1 h1 v rv => ?_⟩
  obtain ⟨z, q, e2, e3, e4, e5⟩ := h1 v rv
  exact ⟨z, q, e2, rfl, e3, by rw [e4]; exact e5⟩
theorem dt_inTab {x : Str} {kvs : List (Str × At)} {p : Pos} (hg : Gl X x) (hT : TabOk X.K X.w X.mg x kvs) (h : DE X C W e me) (hd : (x == ("__debug__" : Str)) = false := by decide) (hm2 : behindInMarks .In (.Name x p) = false := by rfl) : DT X C W (.Compare e [.In] [.Name x p] pos) (mB (mInTab false kvs me)) := by
  obtain ⟨d, es, n, hm, D, hv⟩ := hT.ex
  refine weakenT (pt_cmpR (op_in_kd D) h (pe_glob (v := .ref d) hg hm rfl hd) hm2) fun σ H Q h => ?_
  obtain ⟨b, g, ρ, e1, s, r, h⟩ := inTab_lift hv (test_lift h)
  refine ⟨b, g, ρ, e1, s, r, h.mono fun x g1 x1 s1 h1 v rv => ?_⟩
  obtain ⟨z, q, e2, e3, e4, k, e5, e6⟩ := h1 v rv
  exact ⟨z, q, e2, rfl, e3, k, by rw [e4]; exact e5, e6⟩
theorem dt_notInTab {x : Str} {kvs : List (Str × At)} {p : Pos} (hg : Gl X x) (hT : TabOk X.K X.w X.mg x kvs) (h : DE X C W e me) (hd : (x == ("__debug__" : Str)) = false := by decide) (hm2 : behindInMarks .NotIn (.Name x p) = false := by rfl) : DT X C W (.Compare e [.NotIn] [.Name x p] pos) (mB (mInTab true kvs me)) := by
  obtain ⟨d, es, n, hm, D, hv⟩ := hT.ex
  refine weakenT (pt_cmpR (op_notIn_kd D) h (pe_glob (v := .ref d) hg hm rfl hd) hm2) fun σ H Q h => ?_
  obtain ⟨b, g, ρ, e1, s, r, h⟩ := inTab_lift hv (test_lift h)
  refine ⟨b, g, ρ, e1, s, r, h.mono fun x g1 x1 s1 h1 v rv => ?_⟩
  obtain ⟨z, q, e2, e3, e4, k, e5, e6⟩ := h1 v rv
  exact ⟨z, q, e2, rfl, e3, k, by rw [e4]; exact e5, e6⟩
end

/-! ### y = [..] -/
section
variable {X : Cx} {C : DC} {W : WX} {elt iter : Expr} {scope : Scope} {pos spos p py : Pos} {x y : Str} {t : MT} {el me : ME} {ma : MA} {ifs : List Expr}
theorem asg_lift {K : PySem.W.Frag} {j : Nat} {te : TE} {m : ME} {E : Ends} {σ : L2.St} {H : Hp} (w : ∀ Q, liftE K C W m σ H Q → te σ H Q) (h : liftS K C W (mSet j m) E σ H) : tAsg te (gName j) E σ H := by
  refine w _ ?_
  obtain ⟨b, g, ρ, rfl, s, r, h⟩ := h
  exact ⟨b, g, ρ, rfl, s, r, (h.bindS s.so r).mono fun x g1 x1 s1 h1 v rv => h1 g1 _ rfl .refl s1 ((r.mono s.so x1).set rv)⟩
theorem ds_comp (m : Bool) (j i : Nat) (hc : X.calm = true) (hN : X.N.Nodup) (hi : DE X C W iter me) (ok : BlkOk X.N X.env.scope scope [(x, i)])
    (hg : ∀ s H c cl fp, PG (Blk X scope s H c cl fp) (.Name x p) (gName i)) (ht : ∀ s H c cl fp, DTs (Blk X scope s H c cl fp) C W0 ifs t) (he : ∀ s H c cl fp, DE (Blk X scope s H c cl fp) C W0 elt el)
    (hy : X.N[j]? = some y := by rfl) (hyl : X.env.scope.names.lookup y = some .local := by rfl) (hsw : swapsWith (.ListComp elt [⟨.Name x p, iter, ifs, 0⟩] scope pos) (some (.Name y py)) spos.line X.env = pure true := by exact sw_true rfl rfl rfl (by decide +kernel))
    (hs : ∀ x, foldedSetIterable iter X.env x = pure x := by intro _; rfl) : DS X C W (.Assign [.Name y py] (.ListComp elt [⟨.Name x p, iter, ifs, 0⟩] scope pos) spos) (mSet j (mComp m i t el me)) :=
  weakenS (ps_setLc (own := [(x, i)]) (tt := liftT X.K C W0 t) (te := liftE X.K C W0 el) hc hN hy hyl hsw (pi_three hi) ok hg ht he hs) fun E σ H h => asg_lift (fun Q h => by
    obtain ⟨b, g, ρ, rfl, s, r, h⟩ := h
    refine iter_lift (R := RLc X.K C i t el σ Q) s r (h.bind.mono fun x g1 x1 s1 h1 => ?_)
    split at h1
    · rename_i src e
      refine ⟨src, e, fun J P so p => comp_core so s1 (r.mono s.so x1) p h1, fun z => ?_⟩
      rw [z] at h1
      exact h1.elim
    · exact h1.elim) h
theorem ds_compR1 (m : Bool) (j i : Nat) {a : Expr} {q q' : Pos} (hc : X.calm = true) (hN : X.N.Nodup) (hgr : Gl X "range") (hmr : X.mg "range" = none) (ha : DA X C W [a] ma) (ok : BlkOk X.N X.env.scope scope [(x, i)])
    (hg : ∀ s H c cl fp, PG (Blk X scope s H c cl fp) (.Name x p) (gName i)) (ht : ∀ s H c cl fp, DTs (Blk X scope s H c cl fp) C W0 ifs t) (he : ∀ s H c cl fp, DE (Blk X scope s H c cl fp) C W0 elt el)
    (hy : X.N[j]? = some y := by rfl) (hyl : X.env.scope.names.lookup y = some .local := by rfl) (hsw : swapsWith (.ListComp elt [⟨.Name x p, .Call (.Name "range" q) [a] [] q', ifs, 0⟩] scope pos) (some (.Name y py)) spos.line X.env = pure true := by exact sw_true rfl rfl rfl (by decide +kernel))
    (hst : starEach [a] X.env = [(false, eval a X.env)] := by rfl) (hs : ∀ x, foldedSetIterable (.Call (.Name "range" q) [a] [] q') X.env x = pure x := by intro _; rfl) :
    DS X C W (.Assign [.Name y py] (.ListComp elt [⟨.Name x p, .Call (.Name "range" q) [a] [] q', ifs, 0⟩] scope pos) spos) (mSet j (mCompR rngOf1 m i t el ma)) :=
  weakenS (ps_setLc (own := [(x, i)]) (tt := liftT X.K C W0 t) (te := liftE X.K C W0 el) hc hN hy hyl hsw (pi_range1 hgr hmr ha hst) ok hg ht he hs) fun E σ H h => asg_lift (fun Q h => by
    obtain ⟨b, g, ρ, rfl, s, r, h⟩ := h
    refine range_lift (R := RLc X.K C i t el σ Q) s r (h.bind.mono fun rs g1 x1 s1 h1 => ?_)
    split at h1
    · rename_i xs e
      unfold rngOf1 at e
      split at e
      · split at e
        · rename_i j hj
          cases e
          exact ⟨j, rfl, hj, comp_core src_rng s1 (r.mono s.so x1) True.intro h1⟩
        · cases e
      · cases e
    · exact h1.elim) h
end

/-! ### the end -/
def dvOf : At → He.Dv
  | .non => .non
  | .bl b => .bl b
  | .int i => .int i
  | .str x => .str x
theorem dvOf_v (K : PySem.W.Frag) (a : At) : (dvOf a).v K = a.v := by cases a <;> rfl
theorem tab_ok {K : PySem.W.Frag} {w : World} {mg : Str → Option Value} {x : Str} {kvs : List (Str × At)} {d : Addr} (hm : mg x = some (.ref d)) (hd : ∃ es n, KDict K w d es n) (h : He.valsB K d (kvs.map fun q => (q.1, dvOf q.2)) = true) : TabOk K w mg x kvs := by
  obtain ⟨es, n, hd⟩ := hd
  refine ⟨d, es, n, hm, hd, fun q hq => ?_⟩
  obtain ⟨u, h1, h2⟩ := He.valsB_ok h (List.mem_map.mpr ⟨q, hq, rfl⟩)
  exact ⟨u, h1, by rw [← dvOf_v K]; exact h2⟩
section
variable {P : Program} {w : World} {K : PySem.W.Frag} {mg : Str → Option Value} {base : Heap} {f : Addr} {fd : FuncData} {ps : List Str} {sp : Sp} {k : Nat} {C : DC}
theorem fn_nox (F : FnOk P w K mg base (L2.CX P w) k f fd ps sp) : FnOk P w K mg base CX0 k f fd ps fun vs H Q _ => sp vs H Q E0 :=
  ⟨fun vs H Q E h => F.len vs H Q E0 h, fun A outer s H args us vs Q E hr he hb hv hs => codeAny_mono (F.run A outer s H args us vs Q E0 hr he hb hv hs) fun r s' hq => by
    cases r with
    | error e =>
      obtain ⟨_, _, _, _, _, _, _, _, _, _, _, _, z⟩ := hq
      exact z.elim
    | ok fl => cases fl <;> exact hq⟩
theorem kbn_of {x qual : Str} {params : Arguments} {body : List Stmt} {scope : Scope} {ks : List Str} (n : Nat) (F : FunD K x qual params body scope [] [] f fd)
    (h : ∀ (kV doc pm : Value) (an : Option Addr) (cdv ct : Value) (us ws : List Value), us.length = n → ws.length = ks.length → bindArgs (PySem.W.fnOf x qual params body scope .none kV doc pm an cdv ct) ⟨us, ks.zip ws⟩ = pure (ps.zip (us ++ ws))) :
    KBn K fd ps n ks (fun us ws => us ++ ws) fun vs zs => vs ++ zs := by
  obtain ⟨oc, od, dV, kV, doc, pm, an, cdv, ct, osl, rfl, lk, hcd, hD, hK⟩ := F.ex
  rcases hD with ⟨_, rfl⟩ | ⟨e, _⟩
  · exact ⟨fun s us ws _ l1 l2 => .of_eq (h kV doc pm an cdv ct us ws l1 l2), fun r1 r2 => r1.append r2⟩
  · exact absurd rfl e
/-- the law's script -/
def scr (ns : List Int) : R := .d (.box .lck (ns.map D.int))
theorem rels_ints {fz : Addr → Prop} {H : Hp} : ∀ ns : List Int, Rels K C fz H (ns.map D.int) (ns.map V.int)
  | [] => by simp only [List.map_nil, Rels]
  | n :: ns => by
    simp only [List.map_cons, Rels]
    exact ⟨.int n, _, rfl, by simp only [Rel, At.v], rels_ints ns⟩
theorem law_sp {F : List R → Sto → Out Exn R} {H : Hp} {a : Addr} {ns : List Int} (hS : SqL K H a (ns.map V.int)) (h : ∃ S', F [scr ns] [] = .ok (.bl true) S') : spD K C 1 F [.ref a] H (fun v _ => v = .bl true) E0 := by
  obtain ⟨S', h⟩ := h
  refine ⟨⟨[], fun _ => False, H, []⟩, [scr ns], rfl, ⟨rfl, fun i j a e => by simp at e, fun l oa o e => by simp at e, fun a m => m.elim⟩, ⟨.ref a, [], rfl, ?_, rfl⟩, rfl, ?_⟩
  · show Rel K C _ H (.box .lck (ns.map D.int)) (.ref a)
    simp only [Rel]
    exact ⟨a, ns.map V.int, rfl, hS.imp (fun z => ⟨fun q => q, z⟩) fun z => z, rels_ints ns⟩
  · rw [h]
    exact fun g' _ _ _ v rv => rel_bl.mp rv
end
end DL

set_option maxHeartbeats 1000000
/-! DL11: what a run's end must satisfy (wp), by cases of what runs; for the plain law. -/
namespace DL
open PySem PySem.Spec PyProof.Rows L2

/-- a mark: simp leaves what it holds -/
structure Hold {α : Type} (x : α) : Type where
def Out.wp {ε α : Type} (o : Out ε α) (P : α → Sto → Prop) (X : ε → Sto → Prop) (h : Hold (P, X) := ⟨⟩) : Prop := match o with
  | .ok a S => P a S
  | .exc e S => X e S
  | .bad => False
section
variable {ε α β : Type} {o : Out ε α} {P P' : α → Sto → Prop} {X X' : ε → Sto → Prop} {S S' : Sto}
@[simp ↓] theorem wp_ok {a : α} : (Out.ok a S : Out ε α).wp P X ↔ P a S := Iff.rfl
@[simp ↓] theorem wp_exc {e : ε} : (Out.exc e S : Out ε α).wp P X ↔ X e S := Iff.rfl
@[simp ↓] theorem wp_bad : (Out.bad : Out ε α).wp P X ↔ False := Iff.rfl
theorem Out.wp_eq {a : α} (h : o.wp (fun x T => x = a ∧ T = S') fun _ _ => False) : o = .ok a S' := by
  cases o with
  | ok x T =>
    obtain ⟨h1, h2⟩ := h
    rw [h1, h2]
  | exc e T => exact h.elim
  | bad => exact h.elim
theorem Out.wp_get {p : α → Prop} (h : o.wp (fun x T => T = S' ∧ p x) fun _ _ => False) : ∃ x, o = .ok x S' ∧ p x := by
  cases o with
  | ok x T =>
    obtain ⟨rfl, h2⟩ := h
    exact ⟨x, rfl, h2⟩
  | exc e T => exact h.elim
  | bad => exact h.elim
theorem Out.wp_ex {Y : Prop} (h : o.wp (fun x T => Y) fun _ _ => False) : ∃ x T, o = .ok x T ∧ Y := by
  cases o with
  | ok x T => exact ⟨x, T, rfl, h⟩
  | exc e T => exact h.elim
  | bad => exact h.elim
theorem Out.wp_mono (h : o.wp P X) (hp : ∀ a S, P a S → P' a S) (hx : ∀ e S, X e S → X' e S) : o.wp P' X' := by
  cases o with
  | ok x T => exact hp _ _ h
  | exc e T => exact hx _ _ h
  | bad => exact h.elim
theorem Out.wp_congr {o o' : Out ε α} (h : o = o') : o.wp P X = o'.wp P X := by rw [h]
theorem Out.wp_cg (h : ∀ a S, P a S ↔ P' a S) : o.wp P X ↔ o.wp P' X := by
  cases o with
  | ok x T => exact h x T
  | exc e T => exact Iff.rfl
  | bad => exact Iff.rfl
theorem wp_bind {f : α → Sto → Out ε β} {P : β → Sto → Prop} : (o.bind f).wp P X ↔ o.wp (fun a S => (f a S).wp P X) X := by cases o <;> rfl
def wpO {α : Type} (o : Option (α × Sto)) (P : α → Sto → Prop) (h : Hold P := ⟨⟩) : Prop := match o with
  | some (a, S) => P a S
  | none => False
theorem wpO_congr {o o' : Option (α × Sto)} (h : o = o') : wpO o P = wpO o' P := by rw [h]
@[simp ↓] theorem wpO_some {a : α} : wpO (some (a, S)) P ↔ P a S := Iff.rfl
@[simp ↓] theorem wpO_none : wpO (none : Option (α × Sto)) P ↔ False := Iff.rfl
@[simp ↓] theorem wpO_map {o : Option β} {f : β → α} : wpO (o.map fun d => (f d, S)) P ↔ ∃ d, o = some d ∧ P (f d) S := by
  cases o with
  | none => exact ⟨fun h => h.elim, fun ⟨_, e, _⟩ => nomatch e⟩
  | some d => exact ⟨fun h => ⟨d, rfl, h⟩, fun ⟨_, e, h⟩ => by cases e; exact h⟩
@[simp ↓] theorem wpO_ite {c : Prop} [Decidable c] {x : α × Sto} : wpO (if c then some x else none) P ↔ c ∧ P x.1 x.2 := by
  by_cases h : c
  · rw [if_pos h]; exact ⟨fun q => ⟨h, q⟩, fun q => q.2⟩
  · rw [if_neg h]; exact ⟨fun q => q.elim, fun q => h q.1⟩
theorem wp_ofO {o : Option (α × Sto)} : (Out.ofO o : Out ε α).wp P X ↔ wpO o P := by
  cases o <;> rfl
end
def wpM {α : Type} (m : Nat → Env → Sto → Out Exn α) (b : Nat) (ρ : Env) (S : Sto) (P : α → Sto → Prop) (X : Exn → Sto → Prop) (h : Hold (P, X) := ⟨⟩) : Prop := (m b ρ S).wp P X
theorem wpM_congr {α : Type} {m : Nat → Env → Sto → Out Exn α} {b : Nat} {ρ ρ' : Env} {S S' : Sto} {P : α → Sto → Prop} {X : Exn → Sto → Prop} (h1 : ρ = ρ') (h2 : S = S') : wpM m b ρ S P X = wpM m b ρ' S' P X := by rw [h1, h2]
def wpS (m : MS) (b : Nat) (ρ : Env) (S : Sto) (nx : Env → Sto → Prop) (rt : R → Sto → Prop) (bk ct : Env → Sto → Prop) (xc : Exn → Env → Sto → Prop) (h : Hold (nx, rt, bk, ct, xc) := ⟨⟩) : Prop := match m b ρ S with
  | .ok (.nx ρ1) S1 => nx ρ1 S1
  | .ok (.rt r) S1 => rt r S1
  | .ok (.bk ρ1) S1 => bk ρ1 S1
  | .ok (.ct ρ1) S1 => ct ρ1 S1
  | .exc (e, ρ1) S1 => xc e ρ1 S1
  | .bad => False
theorem wpS_congr {m : MS} {b : Nat} {ρ ρ' : Env} {S S' : Sto} {nx bk ct : Env → Sto → Prop} {rt : R → Sto → Prop} {xc : Exn → Env → Sto → Prop} (h1 : ρ = ρ') (h2 : S = S') : wpS m b ρ S nx rt bk ct xc = wpS m b ρ' S' nx rt bk ct xc := by rw [h1, h2]

section
variable {b : Nat} {ρ : Env} {S : Sto} {P : R → Sto → Prop} {T : Bool → Sto → Prop} {A : List R → Sto → Prop} {X : Exn → Sto → Prop} {ma mb mc : ME} {t u : MT} {as ks : MA} {f f' : F2}
@[simp ↓] theorem wp_var {i : Nat} : wpM (mVar i) b ρ S P X ↔ (match ρ[i]? with
    | some (some r) => P r S
    | _ => False) := by
  unfold wpM mVar
  cases ρ[i]? with
  | none => exact Iff.rfl
  | some o => cases o <;> exact Iff.rfl
@[simp ↓] theorem wp_c {x : At} : wpM (mC x) b ρ S P X ↔ P (.d (.lf x)) S := Iff.rfl
@[simp ↓] theorem wp_bin : wpM (mBin f ma mb) b ρ S P X ↔ wpM ma b ρ S (fun x S1 => wpM mb b ρ S1 (fun y S2 => wpO (f x y S2) P) X) X := by
  unfold wpM mBin
  rw [wp_bind]
  exact Out.wp_cg fun x S1 => by
    rw [wp_bind]
    exact Out.wp_cg fun y S2 => wp_ofO
@[simp ↓] theorem wp_b : wpM (mB ma) b ρ S T X ↔ wpM ma b ρ S (fun x S1 => match x with
    | .d (.lf (.bl k)) => T k S1
    | _ => False) X := by
  unfold wpM mB
  rw [wp_bind]
  cases ma b ρ S with
  | ok x S1 =>
    rw [wp_ok, wp_ok]
    cases x with
    | loc l => exact Iff.rfl
    | d x => cases x with
      | box k xs => exact Iff.rfl
      | lf a => cases a <;> exact Iff.rfl
  | exc e S1 => exact Iff.rfl
  | bad => exact Iff.rfl
@[simp ↓] theorem wp_not : wpM (mNot t) b ρ S T X ↔ wpM t b ρ S (fun k S1 => T (!k) S1) X := by
  unfold wpM mNot
  rw [wp_bind]
  exact Out.wp_cg fun k S1 => Iff.rfl
@[simp ↓] theorem wp_and : wpM (mAnd t u) b ρ S T X ↔ wpM t b ρ S (fun k S1 => if k = true then wpM u b ρ S1 T X else T false S1) X := by
  unfold wpM mAnd
  rw [wp_bind]
  cases t b ρ S with
  | ok k S1 => cases k <;> exact Iff.rfl
  | exc e S1 => exact Iff.rfl
  | bad => exact Iff.rfl
@[simp ↓] theorem wp_or : wpM (mOr t u) b ρ S T X ↔ wpM t b ρ S (fun k S1 => if k = true then T true S1 else wpM u b ρ S1 T X) X := by
  unfold wpM mOr
  rw [wp_bind]
  cases t b ρ S with
  | ok k S1 => cases k <;> exact Iff.rfl
  | exc e S1 => exact Iff.rfl
  | bad => exact Iff.rfl
theorem wp_asB {o : Out Exn R} {g g' : Sto → Out Exn R} : ((o.bind fun x S1 => match x with
    | .d (.lf (.bl true)) => g S1
    | .d (.lf (.bl false)) => g' S1
    | _ => .bad).wp P X) ↔ o.wp (fun x S1 => match x with
    | .d (.lf (.bl k)) => if k = true then (g S1).wp P X else (g' S1).wp P X
    | _ => False) X := by
  cases o with
  | ok x S1 =>
    show (match x with
    | .d (.lf (.bl true)) => g S1
    | .d (.lf (.bl false)) => g' S1
    | _ => Out.bad : Out Exn R).wp P X ↔ (match x with
    | .d (.lf (.bl k)) => if k = true then (g S1).wp P X else (g' S1).wp P X
    | _ => False)
    cases x with
    | loc l => exact Iff.rfl
    | d x => cases x with
      | box k xs => exact Iff.rfl
      | lf a => cases a with
        | bl k => cases k <;> exact Iff.rfl
        | _ => exact Iff.rfl
  | exc e S1 => exact Iff.rfl
  | bad => exact Iff.rfl
@[simp ↓] theorem wp_andV : wpM (mAndV ma mb) b ρ S P X ↔ wpM ma b ρ S (fun x S1 => match x with
    | .d (.lf (.bl k)) => if k = true then wpM mb b ρ S1 P X else P (.bl false) S1
    | _ => False) X := wp_asB
@[simp ↓] theorem wp_orV : wpM (mOrV ma mb) b ρ S P X ↔ wpM ma b ρ S (fun x S1 => match x with
    | .d (.lf (.bl k)) => if k = true then P (.bl true) S1 else wpM mb b ρ S1 P X
    | _ => False) X := wp_asB
@[simp ↓] theorem wp_notV : wpM (mNotV ma) b ρ S P X ↔ wpM ma b ρ S (fun x S1 => match x with
    | .d (.lf (.bl k)) => P (.bl (!k)) S1
    | _ => False) X := by
  unfold wpM mNotV
  rw [wp_bind]
  cases ma b ρ S with
  | ok x S1 =>
    rw [wp_ok, wp_ok]
    cases x with
    | loc l => exact Iff.rfl
    | d x => cases x with
      | box k xs => exact Iff.rfl
      | lf a => cases a <;> exact Iff.rfl
  | exc e S1 => exact Iff.rfl
  | bad => exact Iff.rfl
@[simp ↓] theorem wp_if : wpM (mIf t ma mb) b ρ S P X ↔ wpM t b ρ S (fun k S1 => if k = true then wpM ma b ρ S1 P X else wpM mb b ρ S1 P X) X := by
  unfold wpM mIf
  rw [wp_bind]
  cases t b ρ S with
  | ok k S1 => cases k <;> exact Iff.rfl
  | exc e S1 => exact Iff.rfl
  | bad => exact Iff.rfl
@[simp ↓] theorem wp_nil : wpM mNil b ρ S A X ↔ A [] S := Iff.rfl
@[simp ↓] theorem wp_cons : wpM (mCons ma as) b ρ S A X ↔ wpM ma b ρ S (fun x S1 => wpM as b ρ S1 (fun xs S2 => A (x :: xs) S2) X) X := by
  unfold wpM mCons
  rw [wp_bind]
  exact Out.wp_cg fun x S1 => by
    rw [wp_bind]
    exact Out.wp_cg fun y S2 => Iff.rfl
@[simp ↓] theorem wp_lst {m : Bool} : wpM (mLst m as) b ρ S P X ↔ wpM as b ρ S (fun rs S1 => rs.length ≤ sizeLine ∧ wpO (newL m rs S1) P) X := by
  unfold wpM mLst
  rw [wp_bind]
  cases as b ρ S with
  | ok rs S1 =>
    rw [wp_ok, wp_ok]
    split
    · rename_i h; rw [wp_ofO]; exact ⟨fun q => ⟨h, q⟩, fun q => q.2⟩
    · rename_i h; exact ⟨fun q => q.elim, fun q => h q.1⟩
  | exc e S1 => exact Iff.rfl
  | bad => exact Iff.rfl
@[simp ↓] theorem wp_tup : wpM (mTup as) b ρ S P X ↔ wpM as b ρ S (fun rs S1 => rs.length ≤ sizeLine ∧ wpO (newT rs S1) P) X := by
  unfold wpM mTup
  rw [wp_bind]
  cases as b ρ S with
  | ok rs S1 =>
    rw [wp_ok, wp_ok]
    split
    · rename_i h; rw [wp_ofO]; exact ⟨fun q => ⟨h, q⟩, fun q => q.2⟩
    · rename_i h; exact ⟨fun q => q.elim, fun q => h q.1⟩
  | exc e S1 => exact Iff.rfl
  | bad => exact Iff.rfl
@[simp ↓] theorem wp_chain : wpM (mChain f f' ma mb mc) b ρ S P X ↔ wpM ma b ρ S (fun x S1 => wpM mb b ρ S1 (fun y S2 => wpO (f x y S2) fun z S3 => match z with
    | .d (.lf (.bl k)) => if k = true then wpM mc b ρ S3 (fun w S4 => wpO (f' y w S4) P) X else P (.bl false) S3
    | _ => False) X) X := by
  unfold wpM mChain
  rw [wp_bind]
  cases ma b ρ S with
  | ok x S1 =>
    rw [wp_ok, wp_ok, wp_bind]
    cases mb b ρ S1 with
    | ok y S2 =>
      rw [wp_ok, wp_ok]
      cases f x y S2 with
      | some q =>
        obtain ⟨z, S3⟩ := q
        cases z with
        | loc l => exact Iff.rfl
        | d x => cases x with
          | box k xs => exact Iff.rfl
          | lf a => cases a with
            | bl k =>
              cases k with
              | false => exact Iff.rfl
              | true =>
                show ((mc b ρ S3).bind fun w S4 => Out.ofO (f' y w S4)).wp P X ↔ (mc b ρ S3).wp (fun w S4 => wpO (f' y w S4) P) X
                rw [wp_bind]
                exact Out.wp_cg fun y S2 => wp_ofO
            | _ => exact Iff.rfl
      | none => exact Iff.rfl
    | exc e S1 => exact Iff.rfl
    | bad => exact Iff.rfl
  | exc e S1 => exact Iff.rfl
  | bad => exact Iff.rfl
@[simp ↓] theorem wp_call {g : FC} : wpM (mCall g as) b ρ S P X ↔ wpM as b ρ S (fun rs S1 => wpO (g b rs S1) P) X := by
  unfold wpM mCall
  rw [wp_bind]
  exact Out.wp_cg fun y S2 => wp_ofO
@[simp ↓] theorem wp_isi {T : Ty} : wpM (mIsi T ma) b ρ S P X ↔ wpM ma b ρ S (fun x S1 => match tyR x S1 with
    | some t => P (.bl (t.sub T)) S1
    | none => False) X := by
  unfold wpM mIsi
  rw [wp_bind]
  cases ma b ρ S with
  | ok x S1 =>
    rw [wp_ok, wp_ok]
    cases tyR x S1 <;> exact Iff.rfl
  | exc e S1 => exact Iff.rfl
  | bad => exact Iff.rfl
@[simp ↓] theorem wp_isi2 {T U : Ty} : wpM (mIsi2 T U ma) b ρ S P X ↔ wpM ma b ρ S (fun x S1 => match tyR x S1 with
    | some t => P (.bl (t.sub T || t.sub U)) S1
    | none => False) X := by
  unfold wpM mIsi2
  rw [wp_bind]
  cases ma b ρ S with
  | ok x S1 =>
    rw [wp_ok, wp_ok]
    cases tyR x S1 <;> exact Iff.rfl
  | exc e S1 => exact Iff.rfl
  | bad => exact Iff.rfl
@[simp ↓] theorem wp_meth {g : FM} : wpM (mMeth g ma as) b ρ S P X ↔ wpM ma b ρ S (fun x S1 => isLst x S1 = true ∧ wpM as b ρ S1 (fun rs S2 => wpO (g b x rs S2) P) X) X := by
  unfold wpM mMeth
  rw [wp_bind]
  cases ma b ρ S with
  | ok x S1 =>
    rw [wp_ok, wp_ok]
    split
    · rename_i h
      rw [wp_bind]
      exact ⟨fun q => ⟨h, (Out.wp_cg fun y S2 => wp_ofO).mp q⟩, fun q => (Out.wp_cg fun y S2 => wp_ofO).mpr q.2⟩
    · rename_i h; exact ⟨fun q => q.elim, fun q => h q.1⟩
  | exc e S1 => exact Iff.rfl
  | bad => exact Iff.rfl
@[simp ↓] theorem wp_fld {tb : List (Nat × Nat)} : wpM (mFld tb ma) b ρ S P X ↔ wpM ma b ρ S (fun x S1 => match fldO tb x S1 with
    | some r => P r S1
    | none => False) X := by
  unfold wpM mFld
  rw [wp_bind]
  cases ma b ρ S with
  | ok x S1 =>
    rw [wp_ok, wp_ok]
    cases fldO tb x S1 <;> exact Iff.rfl
  | exc e S1 => exact Iff.rfl
  | bad => exact Iff.rfl
@[simp ↓] theorem wp_fn {F : List R → Sto → Out Exn R} {n : Nat} : wpM (mFn F n as) b ρ S P X ↔ wpM as b ρ S (fun rs S1 => rs.length = n ∧ (F rs S1).wp P X) X := by
  unfold wpM mFn
  rw [wp_bind]
  cases as b ρ S with
  | ok x S1 =>
    rw [wp_ok, wp_ok]
    split
    · rename_i h; exact ⟨fun q => ⟨h, q⟩, fun q => q.2⟩
    · rename_i h; exact ⟨fun q => q.elim, fun q => h q.1⟩
  | exc e S1 => exact Iff.rfl
  | bad => exact Iff.rfl
@[simp ↓] theorem wp_fn0 {F : List R → Sto → Out Exn R} : wpM (mFn0 F) b ρ S P X ↔ (F [] S).wp P fun _ _ => False := by
  unfold wpM mFn0
  cases F [] S <;> exact Iff.rfl
@[simp ↓] theorem wp_fnK {F : List R → Sto → Out Exn R} {n m : Nat} : wpM (mFnK F n m as ks) b ρ S P X ↔ wpM as b ρ S (fun rs S1 => wpM ks b ρ S1 (fun zs S2 => (rs.length = n ∧ zs.length = m) ∧ (F (rs ++ zs) S2).wp P X) X) X := by
  unfold wpM mFnK
  rw [wp_bind]
  cases as b ρ S with
  | ok x S1 =>
    rw [wp_ok, wp_ok, wp_bind]
    cases ks b ρ S1 with
    | ok y S2 =>
      rw [wp_ok, wp_ok]
      split
      · rename_i h; exact ⟨fun q => ⟨h, q⟩, fun q => q.2⟩
      · rename_i h; exact ⟨fun q => q.elim, fun q => h q.1⟩
    | exc e S1 => exact Iff.rfl
    | bad => exact Iff.rfl
  | exc e S1 => exact Iff.rfl
  | bad => exact Iff.rfl
/-- a new thing of class c -/
def mkNew (md : Md) (c : Nat) (F : List R → Sto → Out Exn R) (rs : List R) (S1 : Sto) : Out Exn R := match F (.loc S1.length :: rs) (S1 ++ [.box (.obj c) []]) with
  | .ok (.d (.lf .non)) S2 => if S2.length = S1.length + 1 then fin md S1.length (.loc S1.length) S2 else .bad
  | .ok _ _ => .bad
  | .exc e S2 => .exc e (S2.take S1.length)
  | .bad => .bad
@[simp ↓] theorem wp_new {md : Md} {c n : Nat} {F : List R → Sto → Out Exn R} : wpM (mNew md c F n as) b ρ S P X ↔ wpM as b ρ S (fun rs S1 => rs.length + 1 = n ∧ (mkNew md c F rs S1).wp P X) X := by
  unfold wpM mNew
  rw [wp_bind]
  cases as b ρ S with
  | ok x S1 =>
    rw [wp_ok, wp_ok]
    split
    · rename_i h; exact ⟨fun q => ⟨h, q⟩, fun q => q.2⟩
    · rename_i h; exact ⟨fun q => q.elim, fun q => h q.1⟩
  | exc e S1 => exact Iff.rfl
  | bad => exact Iff.rfl
theorem mkNew_pure {c : Nat} {F : List R → Sto → Out Exn R} {rs : List R} {ds : List D} {S : Sto} (h : F (.loc S.length :: rs) (S ++ [.box (.obj c) []]) = .ok .non (S ++ [.box (.obj c) (ds.map R.d)])) : mkNew .pure c F rs S = .ok (.d (.box (.obj c) ds)) S := by
  have key : ∀ (n : Nat) (ds : List D) (S : Sto), frzL (frzR n) S (ds.map .d) = some (ds, S) := fun n ds => by
    induction ds with
    | nil => intro S; rfl
    | cons d ds ih =>
      intro S
      have e : frzR n S (.d d) = some (d, S) := by cases n <;> rfl
      simp only [List.map_cons, frzL, e, ih]
  have hg : (S ++ [Ob.box (.obj c) (ds.map R.d)])[S.length]? = some (.box (.obj c) (ds.map R.d)) := by
    rw [List.getElem?_append_right (Nat.le_refl _), Nat.sub_self]; rfl
  unfold mkNew
  rw [h]
  dsimp only
  rw [if_pos (by simp)]
  unfold fin
  dsimp only
  unfold frzR
  rw [hg]
  dsimp only
  rw [key]
  dsimp only
  rw [List.set_append_right _ _ (Nat.le_refl _), List.take_left]
@[simp ↓] theorem wp_mt {c n : Nat} {F : List R → Sto → Out Exn R} : wpM (mMt c n F ma as) b ρ S P X ↔ wpM ma b ρ S (fun x S1 => isObj c x S1 = true ∧ wpM as b ρ S1 (fun rs S2 => rs.length + 1 = n ∧ (F (x :: rs) S2).wp P X) X) X := by
  unfold wpM mMt
  rw [wp_bind]
  cases ma b ρ S with
  | ok x S1 =>
    rw [wp_ok, wp_ok]
    split
    · rename_i h
      rw [wp_bind]
      cases as b ρ S1 with
      | ok rs S2 =>
        rw [wp_ok, wp_ok]
        split
        · rename_i h2; exact ⟨fun q => ⟨h, h2, q⟩, fun q => q.2.2⟩
        · rename_i h2; exact ⟨fun q => q.elim, fun q => h2 q.2.1⟩
      | exc e S1 => exact ⟨fun q => ⟨h, q⟩, fun q => q.2⟩
      | bad => exact ⟨fun q => ⟨h, q⟩, fun q => q.2⟩
    · rename_i h; exact ⟨fun q => q.elim, fun q => h q.1⟩
  | exc e S1 => exact Iff.rfl
  | bad => exact Iff.rfl
@[simp ↓] theorem wp_neg : wpM (mNeg ma) b ρ S P X ↔ wpM ma b ρ S (fun x S1 => match x with
    | .d (.lf (.int i)) => P (.int (-i)) S1
    | _ => False) X := by
  unfold wpM mNeg
  rw [wp_bind]
  cases ma b ρ S with
  | ok x S1 =>
    rw [wp_ok, wp_ok]
    cases x with
    | loc l => exact Iff.rfl
    | d x => cases x with
      | box k xs => exact Iff.rfl
      | lf a => cases a <;> exact Iff.rfl
  | exc e S1 => exact Iff.rfl
  | bad => exact Iff.rfl
@[simp ↓] theorem wp_tab {kvs : List (Str × At)} : wpM (mTab kvs ma) b ρ S P X ↔ wpM ma b ρ S (fun x S1 => match x with
    | .d (.lf (.str z)) => ∃ v, lookT kvs z = some v ∧ P (.d (.lf v)) S1
    | _ => False) X := by
  unfold wpM mTab
  rw [wp_bind]
  cases ma b ρ S with
  | ok x S1 =>
    rw [wp_ok, wp_ok]
    cases x with
    | loc l => exact Iff.rfl
    | d x => cases x with
      | box k xs => exact Iff.rfl
      | lf a => cases a with
        | str z =>
          dsimp only
          cases lookT kvs z with
          | none => exact ⟨fun q => q.elim, fun ⟨_, e, _⟩ => nomatch e⟩
          | some v => exact ⟨fun q => ⟨v, rfl, q⟩, fun ⟨_, e, q⟩ => by cases e; exact q⟩
        | _ => exact Iff.rfl
  | exc e S1 => exact Iff.rfl
  | bad => exact Iff.rfl
@[simp ↓] theorem wp_inTab {neg : Bool} {kvs : List (Str × At)} : wpM (mInTab neg kvs ma) b ρ S P X ↔ wpM ma b ρ S (fun x S1 => match x with
    | .d (.lf (.str z)) => (lookT kvs z).isSome = true ∧ P (.bl (!neg)) S1
    | _ => False) X := by
  unfold wpM mInTab
  rw [wp_bind]
  cases ma b ρ S with
  | ok x S1 =>
    rw [wp_ok, wp_ok]
    cases x with
    | loc l => exact Iff.rfl
    | d x => cases x with
      | box k xs => exact Iff.rfl
      | lf a => cases a with
        | str z =>
          dsimp only
          cases lookT kvs z with
          | none => exact ⟨fun q => q.elim, fun q => nomatch q.1⟩
          | some v => exact ⟨fun q => ⟨rfl, q⟩, fun q => q.2⟩
        | _ => exact Iff.rfl
  | exc e S1 => exact Iff.rfl
  | bad => exact Iff.rfl
@[simp ↓] theorem wp_frz : wpM (mFrz ma) b ρ S P X ↔ wpM ma b ρ S (fun x S1 => ∃ d S2, frzR 8 S1 x = some (d, S2) ∧ P (.d d) S2) X := by
  unfold wpM mFrz
  rw [wp_bind]
  cases ma b ρ S with
  | ok x S1 =>
    rw [wp_ok, wp_ok]
    cases frzR 8 S1 x with
    | none => exact ⟨fun q => q.elim, fun ⟨_, _, e, _⟩ => nomatch e⟩
    | some v => exact ⟨fun q => ⟨v.1, v.2, rfl, q⟩, fun ⟨_, _, e, q⟩ => by cases e; exact q⟩
  | exc e S1 => exact Iff.rfl
  | bad => exact Iff.rfl
end
section
variable {b : Nat} {ρ : Env} {S : Sto} {nx bk ct : Env → Sto → Prop} {rt : R → Sto → Prop} {xc : Exn → Env → Sto → Prop} {m u : MS} {ma mb mc : ME} {t : MT} {as : MA}
theorem wpS_bindS {α : Type} {o : Out Exn α} {f : α → Sto → Out (Exn × Env) Fl} {m : MS} (h : m b ρ S = o.bindS ρ f) : wpS m b ρ S nx rt bk ct xc ↔ o.wp (fun a S1 => wpS (fun _ _ _ => f a S1) b ρ S1 nx rt bk ct xc) fun e S1 => xc e ρ S1 := by
  unfold wpS
  rw [h]
  cases o <;> rfl
@[simp ↓] theorem wps_seq : wpS (mSeq m u) b ρ S nx rt bk ct xc ↔ wpS m b ρ S (fun ρ1 S1 => wpS u b ρ1 S1 nx rt bk ct xc) rt bk ct xc := by
  unfold wpS mSeq
  cases m b ρ S with
  | ok f S1 => cases f <;> rfl
  | exc e S1 => rfl
  | bad => rfl
@[simp ↓] theorem wps_skip : wpS mSkip b ρ S nx rt bk ct xc ↔ nx ρ S := Iff.rfl
@[simp ↓] theorem wps_never : wpS mNever b ρ S nx rt bk ct xc ↔ False := Iff.rfl
@[simp ↓] theorem wps_break : wpS (fun _ ρ S => .ok (.bk ρ) S) b ρ S nx rt bk ct xc ↔ bk ρ S := Iff.rfl
@[simp ↓] theorem wps_cont : wpS (fun _ ρ S => .ok (.ct ρ) S) b ρ S nx rt bk ct xc ↔ ct ρ S := Iff.rfl
@[simp ↓] theorem wps_retN : wpS (fun _ _ S => .ok (.rt .non) S) b ρ S nx rt bk ct xc ↔ rt .non S := Iff.rfl
@[simp ↓] theorem wps_drop : wpS (mDrop ma) b ρ S nx rt bk ct xc ↔ wpM ma b ρ S (fun _ S1 => nx ρ S1) fun e S1 => xc e ρ S1 := by
  rw [wpS_bindS (o := ma b ρ S) rfl]
  unfold wpM
  cases ma b ρ S <;> exact Iff.rfl
@[simp ↓] theorem wps_ret : wpS (mRet ma) b ρ S nx rt bk ct xc ↔ wpM ma b ρ S rt fun e S1 => xc e ρ S1 := by
  rw [wpS_bindS (o := ma b ρ S) rfl]
  unfold wpM
  cases ma b ρ S <;> exact Iff.rfl
@[simp ↓] theorem wps_if : wpS (mIfS t m u) b ρ S nx rt bk ct xc ↔ wpM t b ρ S (fun k S1 => if k = true then wpS m b ρ S1 nx rt bk ct xc else wpS u b ρ S1 nx rt bk ct xc) fun e S1 => xc e ρ S1 := by
  rw [wpS_bindS (o := t b ρ S) rfl]
  unfold wpM
  cases t b ρ S with
  | ok k S1 => cases k <;> rfl
  | exc e S1 => rfl
  | bad => rfl
@[simp ↓] theorem wps_set {i : Nat} : wpS (mSet i ma) b ρ S nx rt bk ct xc ↔ wpM ma b ρ S (fun x S1 => nx (ρ.set i (some x)) S1) fun e S1 => xc e ρ S1 := by
  rw [wpS_bindS (o := ma b ρ S) rfl]
  unfold wpM
  cases ma b ρ S <;> exact Iff.rfl
@[simp ↓] theorem wps_asg {gt : GT} : wpS (mAsg gt ma) b ρ S nx rt bk ct xc ↔ wpM ma b ρ S (fun x S1 => ∃ ρ1, gt x ρ S1 = some ρ1 ∧ nx ρ1 S1) fun e S1 => xc e ρ S1 := by
  rw [wpS_bindS (o := ma b ρ S) rfl]
  unfold wpM
  cases ma b ρ S with
  | ok k S1 =>
    rw [wp_ok, wp_ok]
    unfold wpS
    cases gt k ρ S1 with
    | none => exact ⟨fun q => q.elim, fun ⟨_, e, _⟩ => nomatch e⟩
    | some v => exact ⟨fun q => ⟨v, rfl, q⟩, fun ⟨_, e, q⟩ => by cases e; exact q⟩
  | exc e S1 => rfl
  | bad => rfl
@[simp ↓] theorem wps_setI : wpS (mSetI ma mb mc) b ρ S nx rt bk ct xc ↔ wpM mc b ρ S (fun y S1 => wpM ma b ρ S1 (fun x S2 => wpM mb b ρ S2 (fun i S3 => ∃ S4, setI b x i y S3 = some S4 ∧ nx ρ S4) fun e S1 => xc e ρ S1) fun e S1 => xc e ρ S1) fun e S1 => xc e ρ S1 := by
  rw [wpS_bindS (o := mc b ρ S) rfl]
  unfold wpM
  cases mc b ρ S with
  | ok y S1 =>
    rw [wp_ok, wp_ok, wpS_bindS (o := ma b ρ S1) rfl]
    cases ma b ρ S1 with
    | ok x S2 =>
      rw [wp_ok, wp_ok, wpS_bindS (o := mb b ρ S2) rfl]
      cases mb b ρ S2 with
      | ok i S3 =>
        rw [wp_ok, wp_ok]
        unfold wpS
        cases setI b x i y S3 with
        | none => exact ⟨fun q => q.elim, fun ⟨_, e, _⟩ => nomatch e⟩
        | some v => exact ⟨fun q => ⟨v, rfl, q⟩, fun ⟨_, e, q⟩ => by cases e; exact q⟩
      | exc e S1 => rfl
      | bad => rfl
    | exc e S1 => rfl
    | bad => rfl
  | exc e S1 => rfl
  | bad => rfl
/-- x.f = v -/
def putFld (b : Nat) (tb : List (Nat × Nat)) (x y : R) (S : Sto) : Option Sto := match x with
  | .loc l => match S[l]? with
    | some (.box (.obj c) rs) => match tb.lookup c with
      | some i => if i ≤ rs.length ∧ rs.length < 1000 ∧ fits b l y = true then some (S.set l (.box (.obj c) (setF rs i y))) else none
      | none => none
    | _ => none
  | _ => none
@[simp ↓] theorem wps_setF {tb : List (Nat × Nat)} : wpS (mSetF tb ma mb) b ρ S nx rt bk ct xc ↔ wpM mb b ρ S (fun y S1 => wpM ma b ρ S1 (fun x S2 => ∃ S4, putFld b tb x y S2 = some S4 ∧ nx ρ S4) fun e S1 => xc e ρ S1) fun e S1 => xc e ρ S1 := by
  rw [wpS_bindS (o := mb b ρ S) rfl]
  unfold wpM
  cases mb b ρ S with
  | ok y S1 =>
    rw [wp_ok, wp_ok, wpS_bindS (o := ma b ρ S1) rfl]
    cases ma b ρ S1 with
    | ok x S2 =>
      rw [wp_ok, wp_ok]
      unfold wpS putFld
      cases x with
      | d x => exact ⟨fun q => q.elim, fun ⟨_, e, _⟩ => nomatch e⟩
      | loc l =>
        dsimp only
        cases S2[l]? with
        | none => exact ⟨fun q => q.elim, fun ⟨_, e, _⟩ => nomatch e⟩
        | some o => cases o with
          | dead => exact ⟨fun q => q.elim, fun ⟨_, e, _⟩ => nomatch e⟩
          | box k rs => cases k with
            | obj c =>
              dsimp only
              cases tb.lookup c with
              | none => exact ⟨fun q => q.elim, fun ⟨_, e, _⟩ => nomatch e⟩
              | some i =>
                dsimp only
                by_cases h : i ≤ rs.length ∧ rs.length < 1000 ∧ fits b l y = true
                · rw [if_pos h, if_pos h]
                  exact ⟨fun q => ⟨_, rfl, q⟩, fun ⟨_, e, q⟩ => by cases e; exact q⟩
                · rw [if_neg h, if_neg h]
                  exact ⟨fun q => q.elim, fun ⟨_, e, _⟩ => nomatch e⟩
            | _ => exact ⟨fun q => q.elim, fun ⟨_, e, _⟩ => nomatch e⟩
    | exc e S1 => rfl
    | bad => rfl
  | exc e S1 => rfl
  | bad => rfl
/-- a loop over written items -/
def wpL (gt : GT) (body : MS) (src : Src) (b : Nat) (ρ : Env) (S : Sto) (nx : Env → Sto → Prop) (rt : R → Sto → Prop) (xc : Exn → Env → Sto → Prop) (h : Hold (nx, rt, xc) := ⟨⟩) : Prop := wpS (loopS gt body src (fuelOf src S) 0) b ρ S nx rt (fun _ _ => False) (fun _ _ => False) xc
theorem wpL_congr {gt : GT} {body : MS} {src src' : Src} {b : Nat} {ρ ρ' : Env} {S S' : Sto} (h1 : ρ = ρ') (h2 : S = S') (h3 : src = src') : wpL gt body src b ρ S nx rt xc = wpL gt body src' b ρ' S' nx rt xc := by rw [h1, h2, h3]
theorem loop_nobk {gt : GT} {body : MS} {src : Src} : ∀ (n i : Nat) {ρ : Env} {S : Sto}, wpS (loopS gt body src n i) b ρ S nx rt bk ct xc ↔ wpS (loopS gt body src n i) b ρ S nx rt (fun _ _ => False) (fun _ _ => False) xc
  | 0, i, ρ, S => Iff.rfl
  | n + 1, i, ρ, S => by
    unfold wpS loopS
    cases itemAt src i S with
    | none => exact Iff.rfl
    | some o => cases o with
      | none => exact Iff.rfl
      | some x =>
        dsimp only
        cases gt x ρ S with
        | none => exact Iff.rfl
        | some ρ1 =>
          dsimp only
          cases body b ρ1 S with
          | ok f S2 => cases f with
            | nx ρ2 => exact loop_nobk n (i + 1)
            | ct ρ2 => exact loop_nobk n (i + 1)
            | bk ρ2 => exact Iff.rfl
            | rt r => exact Iff.rfl
          | exc e S2 => exact Iff.rfl
          | bad => exact Iff.rfl
@[simp ↓] theorem wps_for {gt : GT} {body : MS} : wpS (mFor gt ma body) b ρ S nx rt bk ct xc ↔ wpM ma b ρ S (fun x S1 => match srcOf x with
    | some src => wpL gt body src b ρ S1 nx rt xc
    | none => False) fun e S1 => xc e ρ S1 := by
  rw [wpS_bindS (o := ma b ρ S) rfl]
  unfold wpM
  cases ma b ρ S with
  | ok x S1 =>
    rw [wp_ok, wp_ok]
    cases srcOf x with
    | none => rfl
    | some src => exact loop_nobk _ _
  | exc e S1 => rfl
  | bad => rfl
theorem wps_forR {gt : GT} {body : MS} {rng : List R → Option (List R)} : wpS (mForR rng gt as body) b ρ S nx rt bk ct xc ↔ wpM as b ρ S (fun rs S1 => match rng rs with
    | some xs => wpL gt body (.fix xs) b ρ S1 nx rt xc
    | none => False) fun e S1 => xc e ρ S1 := by
  rw [wpS_bindS (o := as b ρ S) rfl]
  unfold wpM
  cases as b ρ S with
  | ok x S1 =>
    rw [wp_ok, wp_ok]
    cases rng x with
    | none => rfl
    | some src => exact loop_nobk _ _
  | exc e S1 => rfl
  | bad => rfl
def wpR1 (rs : List R) (P : List R → Prop) (h : Hold P := ⟨⟩) : Prop := ∃ xs, rngOf1 rs = some xs ∧ P xs
def wpR2 (rs : List R) (P : List R → Prop) (h : Hold P := ⟨⟩) : Prop := ∃ xs, rngOf2 rs = some xs ∧ P xs
@[simp ↓] theorem wpr1 {j : Int} {P : List R → Prop} : wpR1 [.d (.lf (.int j))] P ↔ okR j = true ∧ P (rangeL 0 j.toNat) := by
  unfold wpR1 rngOf1
  dsimp only
  by_cases h : okR j = true
  · rw [if_pos h]
    exact ⟨fun ⟨_, e, q⟩ => by cases e; exact ⟨h, q⟩, fun q => ⟨_, rfl, q.2⟩⟩
  · rw [if_neg h]
    exact ⟨fun ⟨_, e, q⟩ => (by cases e), fun q => (h q.1).elim⟩
@[simp ↓] theorem wpr2 {i j : Int} {P : List R → Prop} : wpR2 [.d (.lf (.int i)), .d (.lf (.int j))] P ↔ (okR i = true ∧ okR j = true) ∧ P (rangeL i (j - i).toNat) := by
  unfold wpR2 rngOf2
  dsimp only
  by_cases h : (okR i && okR j) = true
  · rw [if_pos h]
    exact ⟨fun ⟨_, e, q⟩ => by cases e; exact ⟨Bool.and_eq_true_iff.mp h, q⟩, fun q => ⟨_, rfl, q.2⟩⟩
  · rw [if_neg h]
    exact ⟨fun ⟨_, e, q⟩ => (by cases e), fun q => (h (Bool.and_eq_true_iff.mpr q.1)).elim⟩
theorem match_wpr {rng : List R → Option (List R)} {rs : List R} {P : List R → Prop} : (match rng rs with
    | some xs => P xs
    | none => False) ↔ ∃ xs, rng rs = some xs ∧ P xs := by
  cases rng rs with
  | none => exact ⟨fun q => q.elim, fun ⟨_, e, _⟩ => nomatch e⟩
  | some xs => exact ⟨fun q => ⟨xs, rfl, q⟩, fun ⟨_, e, q⟩ => by cases e; exact q⟩
@[simp ↓] theorem wps_for1 {gt : GT} {body : MS} : wpS (mForR rngOf1 gt as body) b ρ S nx rt bk ct xc ↔ wpM as b ρ S (fun rs S1 => wpR1 rs fun xs => wpL gt body (.fix xs) b ρ S1 nx rt xc) fun e S1 => xc e ρ S1 := by
  rw [wps_forR]
  exact Out.wp_cg fun rs S1 => match_wpr
@[simp ↓] theorem wps_for2 {gt : GT} {body : MS} : wpS (mForR rngOf2 gt as body) b ρ S nx rt bk ct xc ↔ wpM as b ρ S (fun rs S1 => wpR2 rs fun xs => wpL gt body (.fix xs) b ρ S1 nx rt xc) fun e S1 => xc e ρ S1 := by
  rw [wps_forR]
  exact Out.wp_cg fun rs S1 => match_wpr
theorem loop_inv {gt : GT} {body : MS} {src : Src} (I : Nat → Env → Sto → Prop) (L : Nat)
    (hb : ∀ i ρ S, i < L → I i ρ S → ∃ x ρ1, itemAt src i S = some (some x) ∧ gt x ρ S = some ρ1 ∧ wpS body b ρ1 S (I (i + 1)) rt nx (I (i + 1)) xc)
    (hn : ∀ ρ S, I L ρ S → itemAt src L S = some none ∧ nx ρ S) : ∀ (k i : Nat) (ρ : Env) (S : Sto), k + i = L → I i ρ S → wpS (loopS gt body src (k + 1) i) b ρ S nx rt (fun _ _ => False) (fun _ _ => False) xc
  | 0, i, ρ, S, e, h => by
    obtain rfl : i = L := by omega
    obtain ⟨e1, e2⟩ := hn ρ S h
    unfold wpS loopS
    rw [e1]
    exact e2
  | k + 1, i, ρ, S, e, h => by
    obtain ⟨x, ρ1, e1, e2, h1⟩ := hb i ρ S (by omega) h
    have ih := loop_inv I L hb hn k (i + 1)
    unfold wpS loopS
    rw [e1]
    dsimp only
    rw [e2]
    dsimp only
    unfold wpS at h1
    cases q : body b ρ1 S with
    | ok f S2 =>
      rw [q] at h1
      cases f with
      | nx ρ2 => exact ih ρ2 S2 (by omega) h1
      | ct ρ2 => exact ih ρ2 S2 (by omega) h1
      | bk ρ2 => exact h1
      | rt r => exact h1
    | exc e S2 =>
      rw [q] at h1
      exact h1
    | bad =>
      rw [q] at h1
      exact h1
theorem wpl_inv {gt : GT} {body : MS} {xs : List R} (I : Nat → Env → Sto → Prop) (h0 : I 0 ρ S)
    (hb : ∀ i x ρ S, xs[i]? = some x → I i ρ S → ∃ ρ1, gt x ρ S = some ρ1 ∧ wpS body b ρ1 S (I (i + 1)) rt nx (I (i + 1)) xc) (hn : ∀ ρ S, I xs.length ρ S → nx ρ S) : wpL gt body (.fix xs) b ρ S nx rt xc := by
  refine loop_inv I xs.length (fun i ρ S hi h => ?_) (fun ρ S h => ⟨?_, hn ρ S h⟩) xs.length 0 ρ S rfl h0
  · obtain ⟨ρ1, h1, h2⟩ := hb i xs[i] ρ S (List.getElem?_eq_getElem hi) h
    exact ⟨xs[i], ρ1, congrArg some (List.getElem?_eq_getElem hi), h1, h2⟩
  · exact congrArg some (List.getElem?_eq_none (Nat.le_refl _))
theorem loop_shift {gt : GT} {body : MS} {x : R} {xs : List R} : ∀ (n i : Nat), loopS gt body (.fix (x :: xs)) n (i + 1) = loopS gt body (.fix xs) n i
  | 0, i => rfl
  | n + 1, i => by
    funext b ρ S
    unfold loopS
    rw [loop_shift n (i + 1)]
    rfl
@[simp ↓] theorem wpl_nil {gt : GT} {body : MS} : wpL gt body (.fix []) b ρ S nx rt xc ↔ nx ρ S := Iff.rfl
@[simp ↓] theorem wpl_cons {gt : GT} {body : MS} {x : R} {xs : List R} : wpL gt body (.fix (x :: xs)) b ρ S nx rt xc ↔ ∃ ρ1, gt x ρ S = some ρ1 ∧ wpS body b ρ1 S (fun ρ2 S2 => wpL gt body (.fix xs) b ρ2 S2 nx rt xc) rt nx (fun ρ2 S2 => wpL gt body (.fix xs) b ρ2 S2 nx rt xc) xc := by
  have e : wpL gt body (.fix (x :: xs)) b ρ S nx rt xc = wpS (loopS gt body (.fix (x :: xs)) ((xs.length + 1) + 1) 0) b ρ S nx rt (fun _ _ => False) (fun _ _ => False) xc := rfl
  rw [e]
  unfold wpS loopS
  rw [show itemAt (.fix (x :: xs)) 0 S = some (some x) from rfl]
  dsimp only
  cases gt x ρ S with
  | none => exact ⟨fun q => q.elim, fun ⟨_, e, _⟩ => nomatch e⟩
  | some ρ1 =>
    refine Iff.trans ?_ ⟨fun q => ⟨ρ1, rfl, q⟩, fun ⟨_, e, q⟩ => by cases e; exact q⟩
    dsimp only
    rw [loop_shift]
    cases body b ρ1 S with
    | ok f S2 => cases f <;> exact Iff.rfl
    | exc e S2 => exact Iff.rfl
    | bad => exact Iff.rfl
theorem rangeL_get {lo : Int} {n i : Nat} {x : R} (h : (rangeL lo n)[i]? = some x) : i < n ∧ x = .int (lo + (i : Int)) := by
  unfold rangeL at h
  rw [List.getElem?_map] at h
  obtain ⟨j, h1, h2⟩ := Option.map_eq_some_iff.mp h
  have hl := (List.getElem?_eq_some_iff.mp h1).1
  rw [List.length_range] at hl
  rw [List.getElem?_range hl] at h1
  cases h1
  exact ⟨hl, h2.symm⟩
@[simp] theorem rangeL_len {lo : Int} {n : Nat} : (rangeL lo n).length = n := by simp [rangeL]
theorem wpl_rng {v : Nat} {body : MS} {lo : Int} {n : Nat} (I : Nat → Env → Sto → Prop) (h0 : I 0 ρ S)
    (hb : ∀ (i : Nat) ρ S, i < n → I i ρ S → wpS body b (ρ.set v (some (.int (lo + (i : Int))))) S (I (i + 1)) rt nx (I (i + 1)) xc) (hn : ∀ ρ S, I n ρ S → nx ρ S) : wpL (gN v) body (.fix (rangeL lo n)) b ρ S nx rt xc :=
  wpl_inv I h0 (fun i x ρ S hx h => by
    obtain ⟨h1, rfl⟩ := rangeL_get hx
    exact ⟨_, rfl, hb i ρ S h1 h⟩) (by rw [rangeL_len]; exact hn)
abbrev NoE : Env → Sto → Prop := fun _ _ => False
abbrev NoX : Exn → Env → Sto → Prop := fun _ _ _ => False
abbrev NoX1 : Exn → Sto → Prop := fun _ _ => False
theorem wps_mono {nx' bk' ct' : Env → Sto → Prop} {rt' : R → Sto → Prop} {xc' : Exn → Env → Sto → Prop} (h : wpS m b ρ S nx rt bk ct xc) (h1 : ∀ ρ S, nx ρ S → nx' ρ S) (h2 : ∀ r S, rt r S → rt' r S) (h3 : ∀ ρ S, bk ρ S → bk' ρ S) (h4 : ∀ ρ S, ct ρ S → ct' ρ S) (h5 : ∀ e ρ S, xc e ρ S → xc' e ρ S) : wpS m b ρ S nx' rt' bk' ct' xc' := by
  unfold wpS at h ⊢
  split at h
  · exact h1 _ _ h
  · exact h2 _ _ h
  · exact h3 _ _ h
  · exact h4 _ _ h
  · exact h5 _ _ _ h
  · exact h.elim
end
section
variable {md : Md} {n : Nat} {ms : MS} {rs : List R} {S : Sto} {P : R → Sto → Prop} {X : Exn → Sto → Prop}
theorem wp_run : (runF md n ms rs S).wp P X ↔ wpS ms S.length (rs.map some ++ List.replicate (n - rs.length) none) S (fun _ S1 => (fin md S.length .non S1).wp P X) (fun r S1 => (fin md S.length r S1).wp P X) (fun _ _ => False) (fun _ _ => False) fun e _ S1 => X e (S1.take S.length) := by
  unfold runF wpS
  cases ms S.length (rs.map some ++ List.replicate (n - rs.length) none) S with
  | ok f S1 => cases f <;> exact Iff.rfl
  | exc e S1 => exact Iff.rfl
  | bad => exact Iff.rfl
@[simp] theorem fin_pure_d {b : Nat} {x : D} : fin .pure b (.d x) S = .ok (.d x) (S.take b) := rfl
@[simp ↓] theorem fin_pure_loc {b l : Nat} : (fin .pure b (.loc l) S).wp P X ↔ ∃ d S2, frzR 8 S (.loc l) = some (d, S2) ∧ P (.d d) (S2.take b) := by
  unfold fin
  dsimp only
  cases frzR 8 S (.loc l) with
  | none => exact ⟨fun q => q.elim, fun ⟨_, _, e, _⟩ => nomatch e⟩
  | some v => exact ⟨fun q => ⟨v.1, v.2, rfl, q⟩, fun ⟨_, _, e, q⟩ => by cases e; exact q⟩
@[simp] theorem fin_flat_d {b : Nat} {x : D} : fin .flat b (.d x) S = .ok (.d x) (S.take b) := rfl
end
/-! ### comprehensions -/
section
variable {b : Nat} {ρ : Env} {S : Sto} {P : R → Sto → Prop} {X : Exn → Sto → Prop} {ma elt : ME} {t : MT} {i : Nat}
theorem comp_inv {src : Src} (I : Nat → List R → Sto → Prop) (L : Nat) (A : List R → Sto → Prop) {X : Exn → Sto → Prop}
    (hb : ∀ j acc S, j < L → I j acc S → ∃ x, itemAt src j S = some (some x) ∧ wpM t b (ρ.set i (some x)) S (fun k S1 => if k = true then acc.length < sizeLine ∧ wpM elt b (ρ.set i (some x)) S1 (fun r S2 => I (j + 1) (acc ++ [r]) S2) (fun _ _ => False) else I (j + 1) acc S1) (fun _ _ => False))
    (hn : ∀ acc S, I L acc S → itemAt src L S = some none ∧ A acc S) : ∀ (k j : Nat) (acc : List R) (S : Sto), k + j = L → I j acc S → wpM (compL i t elt src (k + 1) j acc) b ρ S A X
  | 0, j, acc, S, e, h => by
    obtain rfl : j = L := by omega
    obtain ⟨e1, e2⟩ := hn acc S h
    unfold wpM compL
    rw [e1]
    exact e2
  | k + 1, j, acc, S, e, h => by
    obtain ⟨x, e1, h1⟩ := hb j acc S (by omega) h
    have ih := comp_inv I L A (X := X) hb hn k (j + 1)
    unfold wpM compL
    rw [e1]
    dsimp only
    rw [wp_bind]
    unfold wpM at h1
    cases q : t b (ρ.set i (some x)) S with
    | ok c S1 =>
      rw [q, wp_ok] at h1
      show (if c = true then _ else _ : Out Exn (List R)).wp A X
      cases c with
      | true =>
        obtain ⟨h1, h2⟩ := h1
        rw [if_pos rfl, wp_bind]
        cases q2 : elt b (ρ.set i (some x)) S1 with
        | ok r S2 =>
          rw [q2] at h2
          show (if acc.length < sizeLine then _ else _ : Out Exn (List R)).wp A X
          rw [if_pos h1]
          exact ih _ _ (by omega) h2
        | exc e S2 => rw [q2] at h2; exact h2.elim
        | bad => rw [q2] at h2; exact h2.elim
      | false =>
        rw [if_neg Bool.false_ne_true]
        exact ih _ _ (by omega) h1
    | exc e S2 => rw [q] at h1; exact h1.elim
    | bad => rw [q] at h1; exact h1.elim
def wpC (m : Bool) (i : Nat) (t : MT) (elt : ME) (src : Src) (b : Nat) (ρ : Env) (S : Sto) (P : R → Sto → Prop) (X : Exn → Sto → Prop) (h : Hold (P, X) := ⟨⟩) : Prop := wpM (compL i t elt src (fuelOf src S) 0 []) b ρ S (fun rs S2 => wpO (newL m rs S2) P) X
theorem wpC_congr {m : Bool} {src src' : Src} {ρ' : Env} {S' : Sto} (h1 : ρ = ρ') (h2 : S = S') (h3 : src = src') : wpC m i t elt src b ρ S P X = wpC m i t elt src' b ρ' S' P X := by rw [h1, h2, h3]
@[simp ↓] theorem wp_comp {m : Bool} : wpM (mComp m i t elt ma) b ρ S P X ↔ wpM ma b ρ S (fun x S1 => match srcOf x with
    | some src => wpC m i t elt src b ρ S1 P X
    | none => False) X := by
  unfold wpM mComp
  rw [wp_bind]
  cases ma b ρ S with
  | ok x S1 =>
    rw [wp_ok, wp_ok]
    cases srcOf x with
    | none => rfl
    | some src =>
      dsimp only
      rw [wp_bind]
      exact Out.wp_cg fun rs S1 => wp_ofO
  | exc e S1 => rfl
  | bad => rfl
theorem wp_compR {rng : List R → Option (List R)} {m : Bool} {as : MA} : wpM (mCompR rng m i t elt as) b ρ S P X ↔ wpM as b ρ S (fun rs S1 => match rng rs with
    | some xs => wpC m i t elt (.fix xs) b ρ S1 P X
    | none => False) X := by
  unfold wpM mCompR
  rw [wp_bind]
  cases as b ρ S with
  | ok x S1 =>
    rw [wp_ok, wp_ok]
    cases rng x with
    | none => rfl
    | some src =>
      dsimp only
      rw [wp_bind]
      exact Out.wp_cg fun rs S1 => wp_ofO
  | exc e S1 => rfl
  | bad => rfl
@[simp ↓] theorem wp_comp1 {m : Bool} {as : MA} : wpM (mCompR rngOf1 m i t elt as) b ρ S P X ↔ wpM as b ρ S (fun rs S1 => wpR1 rs fun xs => wpC m i t elt (.fix xs) b ρ S1 P X) X := by
  rw [wp_compR]
  exact Out.wp_cg fun rs S1 => match_wpr
@[simp ↓] theorem wp_comp2 {m : Bool} {as : MA} : wpM (mCompR rngOf2 m i t elt as) b ρ S P X ↔ wpM as b ρ S (fun rs S1 => wpR2 rs fun xs => wpC m i t elt (.fix xs) b ρ S1 P X) X := by
  rw [wp_compR]
  exact Out.wp_cg fun rs S1 => match_wpr
/-- [elt for x in xs] -/
theorem wpc_inv {m : Bool} {xs : List R} (I : Nat → List R → Sto → Prop) (hs : xs.length ≤ sizeLine) (h0 : I 0 [] S) (hl : ∀ j acc S, I j acc S → acc.length = j) (hb : ∀ j x acc S1, xs[j]? = some x → I j acc S1 → wpM elt b (ρ.set i (some x)) S1 (fun r S2 => I (j + 1) (acc ++ [r]) S2) fun _ _ => False) (hn : ∀ acc S1, I xs.length acc S1 → wpO (newL m acc S1) P) : wpC m i mTrue elt (.fix xs) b ρ S P X := by
  refine comp_inv I xs.length _ (fun j acc S1 hj h => ?_) (fun acc S1 h => ?_) xs.length 0 [] S rfl h0
  · refine ⟨xs[j], congrArg some (List.getElem?_eq_getElem hj), ?_⟩
    show _ ∧ _
    exact ⟨by rw [hl j acc S1 h]; omega, hb j xs[j] acc S1 (List.getElem?_eq_getElem hj) h⟩
  · exact ⟨congrArg some (List.getElem?_eq_none (Nat.le_refl _)), hn acc S1 h⟩
/-- [elt for x in xs], pure -/
theorem wpc_map {m : Bool} {xs : List R} (f : Nat → R) (hs : xs.length ≤ sizeLine) (hb : ∀ j x, xs[j]? = some x → wpM elt b (ρ.set i (some x)) S (fun r S2 => r = f j ∧ S2 = S) fun _ _ => False) (hn : wpO (newL m ((List.range xs.length).map f) S) P) : wpC m i mTrue elt (.fix xs) b ρ S P X := by
  refine comp_inv (fun j acc S1 => acc = (List.range j).map f ∧ S1 = S) xs.length _ (fun j acc S1 hj h => ?_) (fun acc S1 h => ?_) xs.length 0 [] S rfl ⟨rfl, rfl⟩
  · obtain ⟨rfl, rfl⟩ := h
    refine ⟨xs[j], congrArg some (List.getElem?_eq_getElem hj), ?_⟩
    show _ ∧ _
    refine ⟨by rw [List.length_map, List.length_range]; omega, Out.wp_mono (hb j xs[j] (List.getElem?_eq_getElem hj)) (fun r S2 h => ?_) fun _ _ h => h⟩
    obtain ⟨rfl, rfl⟩ := h
    refine ⟨?_, rfl⟩
    rw [List.range_succ, List.map_append]
    rfl
  · obtain ⟨rfl, rfl⟩ := h
    exact ⟨congrArg some (List.getElem?_eq_none (Nat.le_refl _)), hn⟩
end
/-! ### the operations, by cases -/
section
variable {S T : Sto} {i j : Int} {m : Bool} {ds : List D} {rs : List R} {l b : Nat} {x y : R} {P : R → Sto → Prop}
@[simp] theorem app_get0 : (S ++ T)[S.length]? = T[0]? := by rw [List.getElem?_append_right (Nat.le_refl _), Nat.sub_self]
@[simp] theorem app_getk {k : Nat} : (S ++ T)[S.length + k]? = T[k]? := by rw [List.getElem?_append_right (by omega), Nat.add_sub_cancel_left]
@[simp] theorem app_set0 {o : Ob} : (S ++ T).set S.length o = S ++ T.set 0 o := by rw [List.set_append_right _ _ (Nat.le_refl _), Nat.sub_self]
@[simp] theorem app_setk {k : Nat} {o : Ob} : (S ++ T).set (S.length + k) o = S ++ T.set k o := by rw [List.set_append_right _ _ (by omega), Nat.add_sub_cancel_left]
@[simp] theorem app_take : (S ++ T).take S.length = S := List.take_left
@[simp] theorem app_takek {k : Nat} : (S ++ T).take (S.length + k) = S ++ T.take k := by rw [List.take_append, List.take_of_length_le (by omega), Nat.add_sub_cancel_left]
@[simp] theorem sz_le {k : Nat} : k ≤ sizeLine ↔ k ≤ 16777216 := Iff.rfl
@[simp] theorem sz_lt {k : Nat} : k < sizeLine ↔ k < 16777216 := Iff.rfl
@[simp] theorem take_set' {o : Ob} : (S.set l o).take S.length = S.set l o := List.take_of_length_le (by simp)
@[simp] theorem unD_nil : unD [] = some [] := rfl
@[simp] theorem unD_d {d : D} : unD (.d d :: rs) = (unD rs).map (d :: ·) := rfl
@[simp] theorem unD_map' : unD (ds.map R.d) = some ds := unD_map ds
@[simp ↓] theorem wpo_newT : wpO (newT rs S) P ↔ (match unD rs with
    | some ds => P (.tup ds) S
    | none => False) := by
  unfold newT
  cases unD rs <;> exact Iff.rfl
@[simp ↓] theorem wpo_newL1 : wpO (newL true rs S) P ↔ P (.loc S.length) (S ++ [.box .lst rs]) := Iff.rfl
@[simp ↓] theorem wpo_newL0 : wpO (newL false rs S) P ↔ (match unD rs with
    | some ds => P (.lst ds) S
    | none => False) := by
  unfold newL
  rw [if_neg Bool.false_ne_true]
  cases unD rs <;> exact Iff.rfl
@[simp ↓] theorem wpo_add : wpO (addO m (.d (.lf (.int i))) (.d (.lf (.int j))) S) P ↔ P (.int (i + j)) S := Iff.rfl
@[simp ↓] theorem wpo_addS {z w : Str} : wpO (addO m (.d (.lf (.str z))) (.d (.lf (.str w))) S) P ↔ z.length + w.length ≤ sizeLine ∧ P (.str (z ++ w)) S := wpO_ite
@[simp ↓] theorem wpo_addT {es : List D} : wpO (addO m (.d (.box .tup ds)) (.d (.box .tup es)) S) P ↔ ds.length + es.length ≤ sizeLine ∧ P (.tup (ds ++ es)) S := wpO_ite
@[simp ↓] theorem wpo_addL0 {es : List D} : wpO (addO false (.d (.box .lst ds)) (.d (.box .lst es)) S) P ↔ ds.length + es.length ≤ sizeLine ∧ P (.lst (ds ++ es)) S := by
  unfold addO viewM
  dsimp only
  rw [List.length_map, List.length_map]
  by_cases h : ds.length + es.length ≤ sizeLine
  · rw [if_pos h, ← List.map_append]
    unfold newL
    rw [if_neg Bool.false_ne_true, unD_map]
    exact ⟨fun q => ⟨h, q⟩, fun q => q.2⟩
  · rw [if_neg h]
    exact ⟨fun q => q.elim, fun q => (h q.1).elim⟩
@[simp ↓] theorem wpo_addL1 {es : List D} : wpO (addO true (.d (.box .lst ds)) (.d (.box .lst es)) S) P ↔ ds.length + es.length ≤ sizeLine ∧ P (.loc S.length) (S ++ [.box .lst ((ds ++ es).map .d)]) := by
  unfold addO viewM
  dsimp only
  rw [List.length_map, List.length_map]
  by_cases h : ds.length + es.length ≤ sizeLine
  · rw [if_pos h, ← List.map_append]
    exact ⟨fun q => ⟨h, q⟩, fun q => q.2⟩
  · rw [if_neg h]
    exact ⟨fun q => q.elim, fun q => (h q.1).elim⟩
@[simp ↓] theorem wpo_addRR {k : Nat} : wpO (addO m (.loc l) (.loc k) S) P ↔ (match S[l]? with
    | some (.box .lst rs) => (match S[k]? with
      | some (.box .lst ss) => rs.length + ss.length ≤ sizeLine ∧ wpO (newL m (rs ++ ss) S) P
      | _ => False)
    | _ => False) := by
  unfold addO viewM
  dsimp only
  cases S[l]? with
  | none => exact Iff.rfl
  | some o => cases o with
    | dead => exact Iff.rfl
    | box kd rs => cases kd with
      | lst =>
        dsimp only
        cases S[k]? with
        | none => exact Iff.rfl
        | some o => cases o with
          | dead => exact Iff.rfl
          | box kd ss => cases kd with
            | lst =>
              dsimp only
              by_cases h : rs.length + ss.length ≤ sizeLine
              · rw [if_pos h]
                exact ⟨fun q => ⟨h, q⟩, fun q => q.2⟩
              · rw [if_neg h]
                exact ⟨fun q => q.elim, fun q => (h q.1).elim⟩
            | _ => exact Iff.rfl
      | _ => exact Iff.rfl
@[simp ↓] theorem wpo_sub : wpO (subO (.d (.lf (.int i))) (.d (.lf (.int j))) S) P ↔ P (.int (i - j)) S := Iff.rfl
@[simp ↓] theorem wpo_mul : wpO (mulO m (.d (.lf (.int i))) (.d (.lf (.int j))) S) P ↔ mulOk i j = true ∧ P (.int (i * j)) S := wpO_ite
theorem unD_flat : ∀ k : Nat, unD (List.replicate k (ds.map R.d)).flatten = some (List.replicate k ds).flatten
  | 0 => rfl
  | k + 1 => by
    have e : (List.replicate (k + 1) (ds.map R.d)).flatten = ((List.replicate (k + 1) ds).flatten).map R.d := by
      rw [List.map_flatten, List.map_replicate]
    rw [e]
    exact unD_map _
@[simp ↓] theorem wpo_mulL {k : Int} : wpO (mulO false (.d (.box .lst ds)) (.d (.lf (.int k))) S) P ↔ (-(2 ^ 63) ≤ k ∧ k < 2 ^ 63 ∧ ds.length * k.toNat ≤ sizeLine) ∧ P (.lst (List.replicate k.toNat ds).flatten) S := by
  unfold mulO viewM
  dsimp only
  rw [List.length_map]
  by_cases h : -(2 ^ 63) ≤ k ∧ k < 2 ^ 63 ∧ ds.length * k.toNat ≤ sizeLine
  · rw [if_pos h]
    unfold newL
    rw [if_neg Bool.false_ne_true, unD_flat]
    exact ⟨fun q => ⟨h, q⟩, fun q => q.2⟩
  · rw [if_neg h]
    exact ⟨fun q => q.elim, fun q => (h q.1).elim⟩
theorem atI_in {t : Int} (h0 : 0 ≤ t) (h1 : t < ds.length) : ∃ m, m ∈ ds ∧ atI ds t = some m ∧ atI (ds.map R.d) t = some (.d m) := by
  obtain ⟨k, rfl⟩ := Int.eq_ofNat_of_zero_le h0
  have hk : k < ds.length := by omega
  refine ⟨ds[k], List.getElem_mem _, ?_, ?_⟩
  · exact L2.atI_nat (List.getElem?_eq_getElem hk)
  · refine L2.atI_nat ?_
    rw [List.getElem?_map, List.getElem?_eq_getElem hk]
    rfl
@[simp ↓] theorem wpo_div : wpO (divO (.d (.lf (.int i))) (.d (.lf (.int j))) S) P ↔ (0 < j ∧ j.natAbs.log2 < 9000) ∧ P (.int (i / j)) S := wpO_ite
@[simp ↓] theorem wpo_mod : wpO (modO (.d (.lf (.int i))) (.d (.lf (.int j))) S) P ↔ 0 < j ∧ P (.int (i % j)) S := wpO_ite
@[simp ↓] theorem wpo_pow : wpO (powO (.d (.lf (.int i))) (.d (.lf (.int j))) S) P ↔ (0 ≤ j ∧ j ≤ 1000000 ∧ i.natAbs < 2 ^ 64) ∧ P (.int (i ^ j.toNat)) S := wpO_ite
@[simp ↓] theorem wpo_cmp {f : Int → Int → Bool} : wpO (cmpO f (.d (.lf (.int i))) (.d (.lf (.int j))) S) P ↔ P (.bl (f i j)) S := Iff.rfl
@[simp ↓] theorem wpo_eq {a c : At} : wpO (eqO (.d (.lf a)) (.d (.lf c)) S) P ↔ P (.bl (eqAt a c)) S := Iff.rfl
@[simp ↓] theorem wpo_ne {a c : At} : wpO (neO (.d (.lf a)) (.d (.lf c)) S) P ↔ P (.bl (!eqAt a c)) S := Iff.rfl
@[simp] theorem eqAt_ii : eqAt (.int i) (.int j) = decide (i = j) := rfl
@[simp] theorem eqAt_bb {a c : Bool} : eqAt (.bl a) (.bl c) = decide (a = c) := rfl
@[simp] theorem eqAt_ss {a c : Str} : eqAt (.str a) (.str c) = decide (a = c) := rfl
@[simp] theorem eqAt_nn : eqAt .non .non = true := rfl
@[simp] theorem eqAt_in : eqAt (.int i) .non = false := rfl
@[simp] theorem eqAt_ni : eqAt .non (.int i) = false := rfl
@[simp] theorem eqAt_sn {a : Str} : eqAt (.str a) .non = false := rfl
@[simp] theorem eqAt_ns {a : Str} : eqAt .non (.str a) = false := rfl
@[simp] theorem eqAt_bn {a : Bool} : eqAt (.bl a) .non = false := rfl
@[simp] theorem eqAt_nb {a : Bool} : eqAt .non (.bl a) = false := rfl
@[simp] theorem eqAt_is {a : Str} : eqAt (.int i) (.str a) = false := rfl
@[simp] theorem eqAt_si {a : Str} : eqAt (.str a) (.int i) = false := rfl
@[simp] theorem eqAt_bi {a : Bool} : eqAt (.bl a) (.int i) = ((if a then 1 else 0) == i) := rfl
@[simp] theorem eqAt_ib {a : Bool} : eqAt (.int i) (.bl a) = (i == (if a then 1 else 0)) := rfl
@[simp ↓] theorem wpo_is : wpO (isO x (.d (.lf .non)) S) P ↔ (match isLf x .non S with
    | some k => P (.bl k) S
    | none => False) := by
  unfold isO
  cases isLf x .non S <;> exact Iff.rfl
@[simp ↓] theorem wpo_isB {k : Bool} : wpO (isO x (.d (.lf (.bl k))) S) P ↔ (match isLf x (.bl k) S with
    | some k => P (.bl k) S
    | none => False) := by
  unfold isO
  dsimp only
  cases isLf x (.bl k) S <;> exact Iff.rfl
@[simp ↓] theorem wpo_isN : wpO (isNotO x (.d (.lf .non)) S) P ↔ (match isLf x .non S with
    | some k => P (.bl (!k)) S
    | none => False) := by
  unfold isNotO
  cases isLf x .non S <;> exact Iff.rfl
@[simp ↓] theorem wpo_isNB {k : Bool} : wpO (isNotO x (.d (.lf (.bl k))) S) P ↔ (match isLf x (.bl k) S with
    | some k => P (.bl (!k)) S
    | none => False) := by
  unfold isNotO
  dsimp only
  cases isLf x (.bl k) S <;> exact Iff.rfl
@[simp] theorem isLf_n : isLf (.d (.lf .non)) .non S = some true := rfl
@[simp] theorem isLf_i : isLf (.d (.lf (.int i))) .non S = some false := rfl
@[simp] theorem isLf_b {k : Bool} : isLf (.d (.lf (.bl k))) .non S = some false := rfl
@[simp] theorem isLf_s {z : Str} : isLf (.d (.lf (.str z))) .non S = some false := rfl
@[simp] theorem isLf_bx {k : Kd} {a : At} : isLf (.d (.box k ds)) a S = some false := rfl
@[simp] theorem isLf_nb {k : Bool} : isLf (.d (.lf .non)) (.bl k) S = some false := rfl
@[simp] theorem isLf_ib {k : Bool} : isLf (.d (.lf (.int i))) (.bl k) S = some false := rfl
@[simp] theorem isLf_sb {k : Bool} {z : Str} : isLf (.d (.lf (.str z))) (.bl k) S = some false := rfl
@[simp] theorem isLf_bb {k h : Bool} : isLf (.d (.lf (.bl h))) (.bl k) S = some (decide (h = k)) := rfl
@[simp ↓] theorem wpo_in : wpO (inO x y S) P ↔ (match inR x y S with
    | some k => P (.bl k) S
    | none => False) := by
  unfold inO
  cases inR x y S <;> exact Iff.rfl
@[simp ↓] theorem wpo_notIn : wpO (notInO x y S) P ↔ (match inR x y S with
    | some k => P (.bl (!k)) S
    | none => False) := by
  unfold notInO
  cases inR x y S <;> exact Iff.rfl
@[simp] theorem atI_nat {α : Type} {xs : List α} {k : Nat} : atI xs (k : Int) = xs[k]? := by
  unfold atI ixN
  rw [if_pos (by omega)]
  by_cases h : k < xs.length
  · simp [h]
  · simp [h]
@[simp] theorem atI_lit {α : Type} {xs : List α} {k : Nat} : atI xs (no_index (OfNat.ofNat k) : Int) = xs[k]? := atI_nat (k := k)
@[simp] theorem atI_one {α : Type} {xs : List α} : atI xs (1 : Int) = xs[1]? := atI_nat (k := 1)
@[simp] theorem atI_zero {α : Type} {xs : List α} : atI xs (0 : Int) = xs[0]? := atI_nat (k := 0)
theorem atI_mapR : atI (ds.map R.d) i = (atI ds i).map .d := by
  unfold atI
  rw [List.length_map]
  cases ixN ds.length i with
  | none => rfl
  | some j => exact List.getElem?_map
@[simp ↓] theorem wpo_getT : wpO (getO (.d (.box .tup ds)) (.d (.lf (.int i))) S) P ↔ (match atI ds i with
    | some d => P (.d d) S
    | none => False) := by
  unfold getO
  dsimp only
  cases atI ds i <;> exact Iff.rfl
@[simp ↓] theorem wpo_getL : wpO (getO (.d (.box .lst ds)) (.d (.lf (.int i))) S) P ↔ (match atI ds i with
    | some d => P (.d d) S
    | none => False) := by
  unfold getO viewL
  dsimp only
  rw [atI_mapR]
  cases atI ds i <;> exact Iff.rfl
@[simp ↓] theorem wpo_getK : wpO (getO (.d (.box .lck ds)) (.d (.lf (.int i))) S) P ↔ (match atI ds i with
    | some d => P (.d d) S
    | none => False) := by
  unfold getO viewL
  dsimp only
  rw [atI_mapR]
  cases atI ds i <;> exact Iff.rfl
@[simp ↓] theorem wpo_getR : wpO (getO (.loc l) (.d (.lf (.int i))) S) P ↔ (match S[l]? with
    | some (.box .lst rs) => (match atI rs i with
      | some d => P d S
      | none => False)
    | _ => False) := by
  unfold getO viewL
  dsimp only
  cases S[l]? with
  | none => exact Iff.rfl
  | some o => cases o with
    | dead => exact Iff.rfl
    | box k rs => cases k with
      | lst =>
        dsimp only
        cases atI rs i <;> exact Iff.rfl
      | _ => exact Iff.rfl
@[simp ↓] theorem wpo_getS {z : Str} : wpO (getO (.d (.lf (.str z))) (.d (.lf (.int i))) S) P ↔ z.length ≤ sizeLine ∧ (match atI z.cps.toList i with
    | some c => P (.str ⟨#[c]⟩) S
    | none => False) := by
  unfold getO
  dsimp only
  split
  · rename_i h
    cases atI z.cps.toList i with
    | none => exact ⟨fun q => q.elim, fun q => q.2.elim⟩
    | some c => exact ⟨fun q => ⟨h, q⟩, fun q => q.2⟩
  · rename_i h
    exact ⟨fun q => q.elim, fun q => h q.1⟩
@[simp ↓] theorem wpo_lenT : wpO (lenF b [.d (.box .tup ds)] S) P ↔ P (.int ds.length) S := by
  unfold lenF viewQ
  simp
@[simp ↓] theorem wpo_lenL : wpO (lenF b [.d (.box .lst ds)] S) P ↔ P (.int ds.length) S := by
  unfold lenF viewQ viewL
  simp
@[simp ↓] theorem wpo_lenK : wpO (lenF b [.d (.box .lck ds)] S) P ↔ P (.int ds.length) S := by
  unfold lenF viewQ viewL
  simp
@[simp ↓] theorem wpo_lenS {z : Str} : wpO (lenF b [.d (.lf (.str z))] S) P ↔ z.length ≤ sizeLine ∧ P (.int z.length) S := wpO_ite
@[simp ↓] theorem wpo_lenR : wpO (lenF b [.loc l] S) P ↔ (match S[l]? with
    | some (.box .lst rs) => P (.int rs.length) S
    | _ => False) := by
  unfold lenF viewQ viewL
  dsimp only
  cases S[l]? with
  | none => exact Iff.rfl
  | some o => cases o with
    | dead => exact Iff.rfl
    | box k rs => cases k <;> exact Iff.rfl
@[simp ↓] theorem wpo_int : wpO (intF b [.d (.lf (.int i))] S) P ↔ P (.int i) S := Iff.rfl
@[simp ↓] theorem wpo_intB {k : Bool} : wpO (intF b [.d (.lf (.bl k))] S) P ↔ P (.int (if k then 1 else 0)) S := Iff.rfl
@[simp ↓] theorem wpo_max : wpO (maxF b [.d (.lf (.int i)), .d (.lf (.int j))] S) P ↔ P (.int (if j > i then j else i)) S := Iff.rfl
@[simp ↓] theorem wpo_min : wpO (minF b [.d (.lf (.int i)), .d (.lf (.int j))] S) P ↔ P (.int (if j < i then j else i)) S := Iff.rfl
@[simp ↓] theorem wpo_tupT : wpO (tupF b [.d (.box .tup ds)] S) P ↔ P (.tup ds) S := Iff.rfl
@[simp ↓] theorem wpo_tupL : wpO (tupF b [.d (.box .lst ds)] S) P ↔ P (.tup ds) S := by
  unfold tupF viewL
  simp
@[simp ↓] theorem wpo_tupK : wpO (tupF b [.d (.box .lck ds)] S) P ↔ P (.tup ds) S := by
  unfold tupF viewL
  simp
@[simp ↓] theorem wpo_tupR : wpO (tupF b [.loc l] S) P ↔ (match S[l]? with
    | some (.box .lst rs) => (match unD rs with
      | some ds => P (.tup ds) S
      | none => False)
    | _ => False) := by
  unfold tupF viewL
  dsimp only
  cases S[l]? with
  | none => exact Iff.rfl
  | some o => cases o with
    | dead => exact Iff.rfl
    | box k rs => cases k with
      | lst => exact wpo_newT
      | _ => exact Iff.rfl
@[simp ↓] theorem wpo_app : wpO (appF b x [y] S) P ↔ (match lstAt x S with
    | some (l, rs) => (rs.length < sizeLine ∧ fits b l y = true) ∧ P .non (S.set l (.box .lst (rs ++ [y])))
    | none => False) := by
  unfold appF
  cases lstAt x S with
  | none => exact Iff.rfl
  | some p => exact wpO_ite
@[simp ↓] theorem wpo_pop0 : wpO (popAtF b x [.d (.lf (.int 0))] S) P ↔ (match lstAt x S with
    | some (l, y :: rs) => P y (S.set l (.box .lst rs))
    | _ => False) := by
  unfold popAtF
  cases lstAt x S with
  | none => exact Iff.rfl
  | some p =>
    obtain ⟨l, rs⟩ := p
    cases rs with
    | nil => simp [seqIndex?]
    | cons y rs => simp [seqIndex?]
@[simp] theorem lstAt_loc : lstAt (.loc l) S = (match S[l]? with
    | some (.box .lst rs) => some (l, rs)
    | _ => none) := rfl
@[simp] theorem isLst_loc : isLst (.loc l) S = (match S[l]? with
    | some (.box .lst _) => true
    | _ => false) := by
  unfold isLst viewL
  dsimp only
  cases S[l]? with
  | none => rfl
  | some o => cases o with
    | dead => rfl
    | box k rs => cases k <;> rfl
@[simp] theorem isLst_l : isLst (.d (.box .lst ds)) S = true := rfl
@[simp] theorem fits_d {d : D} : fits b l (.d d) = true := rfl
@[simp] theorem fits_l {k : Nat} : fits b l (.loc k) = decide (b ≤ l) := rfl
@[simp] theorem tyR_n : tyR (.d (.lf .non)) S = some .non := rfl
@[simp] theorem tyR_i : tyR (.d (.lf (.int i))) S = some .int := rfl
@[simp] theorem tyR_b {k : Bool} : tyR (.d (.lf (.bl k))) S = some .bl := rfl
@[simp] theorem tyR_s {z : Str} : tyR (.d (.lf (.str z))) S = some .str := rfl
@[simp] theorem tyR_t : tyR (.d (.box .tup ds)) S = some .tup := rfl
@[simp] theorem tyR_l : tyR (.d (.box .lst ds)) S = some .lst := rfl
@[simp] theorem tyR_k : tyR (.d (.box .lck ds)) S = some .lst := rfl
@[simp] theorem tyR_loc : tyR (.loc l) S = (match S[l]? with
    | some (.box k _) => tyK k
    | _ => none) := rfl
@[simp] theorem srcOf_t : srcOf (.d (.box .tup ds)) = some (.fix (ds.map .d)) := rfl
@[simp] theorem srcOf_l : srcOf (.d (.box .lst ds)) = some (.fix (ds.map .d)) := rfl
@[simp] theorem srcOf_k : srcOf (.d (.box .lck ds)) = some (.fix (ds.map .d)) := rfl
@[simp] theorem srcOf_s {z : Str} : srcOf (.d (.lf (.str z))) = some (.fix (chars z)) := rfl
@[simp] theorem srcOf_loc : srcOf (.loc l) = some (.at_ l) := rfl
@[simp] theorem objOf_d {c : Nat} : objOf (.d (.box (.obj c) ds)) S = some (c, ds.map .d) := rfl
@[simp] theorem objOf_loc : objOf (.loc l) S = (match S[l]? with
    | some (.box (.obj c) rs) => some (c, rs)
    | _ => none) := rfl
@[simp] theorem frz_d {n : Nat} {d : D} : frzR n S (.d d) = some (d, S) := by cases n <;> rfl
theorem okR_of {i : Int} (h0 : -(2 ^ 62) ≤ i) (h : i < 2 ^ 62) : okR i = true := by
  unfold okR
  rw [decide_eq_true h0, decide_eq_true h]; rfl
theorem log2_le {n k : Nat} (h : n < 2 ^ k) : n.log2 ≤ k := by
  by_cases z : n = 0
  · subst z; simp [Nat.log2_zero]
  · exact Nat.le_of_lt ((Nat.log2_lt z).mpr h)
theorem mulOk_of {i j : Int} (hi : i.natAbs < 2 ^ 200) (hj : j.natAbs < 2 ^ 200) : mulOk i j = true := by
  have h1 := log2_le hi
  have h2 := log2_le hj
  unfold mulOk
  exact decide_eq_true (by omega)
theorem frz_flat {S : Sto} {ds : List D} {l : Nat} {k : Kd} {n : Nat} (h : S[l]? = some (.box k (ds.map .d))) : frzR (n + 1) S (.loc l) = some (.box k ds, S.set l .dead) := by
  have key : ∀ (ds : List D) (S : Sto), frzL (frzR n) S (ds.map .d) = some (ds, S) := fun ds => by
    induction ds with
    | nil => intro S; rfl
    | cons d ds ih =>
      intro S
      simp only [List.map_cons, frzL, frz_d, ih]
  simp only [frzR, h, key]
end
end DL

set_option maxHeartbeats 1000000
/-! DL12: defs that many laws share: the script's cells, their digits. -/
namespace DL
open PySem PySem.Spec PyProof.Rows L2
section
variable {S : Sto}
theorem ml {i j : Int} (hi : -(10 ^ 18) < i ∧ i < 10 ^ 18) (hj : -(10 ^ 18) < j ∧ j < 10 ^ 18) : mulOk i j = true := mulOk_of (by omega) (by omega)
theorem lg {j : Int} (hj : -(10 ^ 18) < j ∧ j < 10 ^ 18) : j.natAbs.log2 < 9000 := by
  have := log2_le (n := j.natAbs) (k := 64) (by omega)
  omega
theorem lg' {j : Int} (hj : -(10 ^ 40) < j ∧ j < 10 ^ 40) : j.natAbs.log2 < 9000 := by
  have := log2_le (n := j.natAbs) (k := 200) (by omega)
  omega
def cellB : MS := mSeq (mIfS (mB (mBin (cmpO fun i j => decide (i < j)) (mVar 1) (mCall lenF (mCons (mVar 0) (mNil))))) (mRet (mBin getO (mVar 0) (mVar 1))) (mSkip)) (mSeq (mSet 2 (mC (.int 17))) (mSeq (mFor (gN 3) (mVar 0) (mSet 2 (mBin (modO) (mCall intF (mCons (mBin (addO false) (mBin (mulO false) (mVar 2) (mC (.int 31))) (mBin (modO) (mCall intF (mCons (mVar 3) (mNil))) (mC (.int 1000003)))) (mNil))) (mC (.int 1000003))))) (mRet (mBin (modO) (mCall intF (mCons (mBin (mulO false) (mBin (mulO false) (mBin (addO false) (mVar 2) (mC (.int 7))) (mBin (addO false) (mVar 1) (mC (.int 3)))) (mC (.int 69621))) (mNil))) (mC (.int 2147483647))))))
def digB : MS := mSeq (mSet 2 (mLst true (mNil))) (mSeq (mSet 3 (mCall intF (mCons (mVar 0) (mNil)))) (mSeq (mIfS (mB (mBin (cmpO fun i j => decide (j ≤ i)) (mVar 3) (mBin (powO) (mC (.int 10)) (mC (.int 18))))) (mSeq (mSet 3 (mBin (modO) (mCall intF (mCons (mBin (subO) (mVar 3) (mBin (powO) (mC (.int 10)) (mC (.int 18)))) (mNil))) (mBin (mulO false) (mBin (mulO false) (mBin (powO) (mC (.int 10)) (mC (.int 60))) (mBin (powO) (mC (.int 10)) (mC (.int 60)))) (mBin (powO) (mC (.int 10)) (mC (.int 60)))))) (mSeq (mFor (gN 6) (mVar 1) (mSeq (mDrop (mMeth appF (mVar 2) (mCons (mBin (modO) (mCall intF (mCons (mVar 3) (mNil))) (mVar 6)) (mNil)))) (mSet 3 (mBin (divO) (mCall intF (mCons (mVar 3) (mNil))) (mVar 6))))) (mRet (mVar 2)))) (mSkip)) (mSeq (mSet 4 (mBin (modO) (mCall intF (mCons (mVar 3) (mNil))) (mC (.int 2147483629)))) (mSeq (mForR rngOf1 (gN 5) (mCons (mCall lenF (mCons (mVar 1) (mNil))) (mNil)) (mSeq (mSet 4 (mBin (modO) (mCall intF (mCons (mBin (addO false) (mBin (addO false) (mBin (mulO false) (mVar 4) (mC (.int 48271))) (mBin (mulO false) (mC (.int 974711)) (mVar 5))) (mC (.int 12345))) (mNil))) (mC (.int 2147483647)))) (mSeq (mSet 7 (mBin (modO) (mCall intF (mCons (mBin (mulO false) (mVar 4) (mBin (addO false) (mBin (divO) (mVar 4) (mC (.int 65537))) (mC (.int 3)))) (mNil))) (mC (.int 2147483629)))) (mDrop (mMeth appF (mVar 2) (mCons (mBin (modO) (mBin (divO) (mVar 7) (mC (.int 19))) (mBin getO (mVar 1) (mVar 5))) (mNil))))))) (mRet (mVar 2))))))
def takeB : MS := mSeq (mIfS (mB (mBin eqO (mCall lenF (mCons (mVar 0) (mNil))) (mC (.int 0)))) (mRet (mC (.int 0))) (mSkip)) (mRet (mBin (modO) (mCall intF (mCons (mMeth popAtF (mVar 0) (mCons (mC (.int 0)) (mNil))) (mNil))) (mVar 1)))
def sameB : MS := mSeq (mIfS (mOr (mB (mBin isO (mVar 0) (mC .non))) (mB (mBin isO (mVar 1) (mC .non)))) (mRet (mAndV (mBin isO (mVar 0) (mC .non)) (mBin isO (mVar 1) (mC .non)))) (mSkip)) (mSeq (mIfS (mOr (mB (mIsi .bl (mVar 0))) (mB (mIsi .bl (mVar 1)))) (mRet (mAndV (mIsi .bl (mVar 0)) (mAndV (mIsi .bl (mVar 1)) (mBin eqO (mVar 0) (mVar 1))))) (mSkip)) (mRet (mAndV (mBin eqO (mIsi .int (mVar 0)) (mIsi .int (mVar 1))) (mAndV (mBin eqO (mIsi .str (mVar 0)) (mIsi .str (mVar 1))) (mBin eqO (mVar 0) (mVar 1))))))
theorem sp_cellB {ns : List Int} {k : Int} (hn : ns.length ≤ 63) (h0 : 0 ≤ k) (h1 : k ≤ 1000) : ∃ x, runF .pure 4 cellB [scr ns, .int k] S = .ok x S ∧ ∃ v, x = .int v := by
  apply Out.wp_get
  rw [wp_run]
  simp [cellB, scr]
  obtain ⟨k, rfl⟩ := Int.eq_ofNat_of_zero_le h0
  by_cases h : k < ns.length
  · simp [h]
  · simp [h]
    refine wpl_inv (fun i ρ S1 => S1 = S ∧ ∃ s a, (0 ≤ s ∧ s < 1000003) ∧ ρ = [some (scr ns), some (.int k), some (.int s), a]) ?_ ?_ ?_
    · simp [scr]
    · rintro i x ρ S1 hx ⟨rfl, s, a, hs, rfl⟩
      simp at hx
      obtain ⟨v, hx, rfl⟩ := hx
      have m1 : mulOk s 31 = true := ml (by omega) (by omega)
      simp [gN, m1]
      omega
    · rintro ρ S1 ⟨rfl, s, a, hs, rfl⟩
      have m1 : mulOk (s + 7) (k + 3) = true := ml (by omega) (by omega)
      have e : 0 ≤ (s + 7) * ((k : Int) + 3) := Int.mul_nonneg (by omega) (by omega)
      have e2 : (s + 7) * ((k : Int) + 3) ≤ (s + 7) * 1003 := Int.mul_le_mul_of_nonneg_left (by omega) (by omega)
      have m2 : mulOk ((s + 7) * (k + 3)) 69621 = true := ml (by omega) (by omega)
      simp [m1, m2]
/-- digits within their sizes -/
structure Dg (zs vs : List Int) : Prop where
  b : ∀ (i : Nat) (v z : Int), vs[i]? = some v → zs[i]? = some z → 0 ≤ v ∧ v < z
theorem Dg.add {zs vs : List Int} {v z : Int} (h : Dg zs vs) (hz : zs[vs.length]? = some z) (hv : 0 ≤ v ∧ v < z) : Dg zs (vs ++ [v]) := ⟨fun i w y h1 h2 => by
  by_cases hi : i < vs.length
  · rw [List.getElem?_append_left hi] at h1
    exact h.b i w y h1 h2
  · have hl := (List.getElem?_eq_some_iff.mp h1).1
    simp at hl
    obtain rfl : i = vs.length := by omega
    rw [hz] at h2
    cases h2
    simp at h1
    subst h1
    exact hv⟩
theorem un_ints (vs : List Int) : unD (vs.map fun v => R.int v) = some (vs.map .int) := by
  rw [show (vs.map fun v => R.int v) = (vs.map D.int).map R.d by simp [Function.comp_def]]
  exact unD_map _
theorem frz_ints {vs : List Int} : frzR 8 (S ++ [.box .lst (vs.map fun v => R.int v)]) (.loc S.length) = some (.lst (vs.map .int), S ++ [.dead]) := by
  have h := frz_flat (S := S ++ [.box .lst ((vs.map D.int).map R.d)]) (l := S.length) (k := .lst) (ds := vs.map D.int) (n := 7) (by simp)
  simp [Function.comp_def] at h
  exact h
theorem digB_core {c : Int} {zs : List Int} (hz : ∀ z ∈ zs, 0 < z ∧ z < 10 ^ 40) (hl : zs.length ≤ 100000) : wpS digB S.length [some (.int c), some (.d (.lst (zs.map .int))), none, none, none, none, none, none] S (fun _ _ => False) (fun r S1 => r = .loc S.length ∧ ∃ vs : List Int, S1 = S ++ [.box .lst (vs.map R.int)] ∧ vs.length = zs.length ∧ Dg zs vs) (fun _ _ => False) (fun _ _ => False) (fun _ _ _ => False) := by
  have m1 : mulOk (10 ^ 60) (10 ^ 60) = true := by decide +kernel
  have m2 : mulOk (10 ^ 60 * 10 ^ 60) (10 ^ 60) = true := by decide +kernel
  simp [digB] at m1 m2 ⊢
  by_cases hc : 1000000000000000000 ≤ c
  · simp [hc, m1, m2]
    refine wpl_inv (fun i ρ S1 => ∃ (vs : List Int) (r : Int) (a b d e : Option R), vs.length = i ∧ Dg zs vs ∧ S1 = S ++ [.box .lst (vs.map fun v => .int v)] ∧ ρ = [some (.int c), some (.d (.lst (zs.map .int))), some (.loc S.length), some (.int r), a, b, d, e]) ?_ ?_ ?_
    · exact ⟨[], _, none, none, none, none, rfl, ⟨fun i v z h => by simp at h⟩, rfl, rfl⟩
    · rintro i x ρ S1 hx ⟨vs, r, a, b, d, e, rfl, hd, rfl, rfl⟩
      simp at hx
      obtain ⟨z, hx, rfl⟩ := hx
      obtain ⟨z0, z1⟩ := hz z (List.mem_of_getElem? hx)
      have l1 := lg' (j := z) (by omega)
      have hi := (List.getElem?_eq_some_iff.mp hx).1
      simp [gN, z0, l1]
      refine ⟨by omega, vs ++ [r % z], by simp, hd.add hx ⟨Int.emod_nonneg _ (by omega), Int.emod_lt_of_pos _ z0⟩, by simp⟩
    · rintro ρ S1 ⟨vs, r, a, b, d, e, hl, hd, rfl, rfl⟩
      simp
      exact ⟨vs, rfl, by simpa using hl, hd⟩
  · simp [hc, okR_of (i := zs.length) (by omega) (by omega)]
    refine wpl_rng (fun i ρ S1 => ∃ (vs : List Int) (s : Int) (r b d e : Option R), (0 ≤ s ∧ s < 2147483648) ∧ vs.length = i ∧ Dg zs vs ∧ S1 = S ++ [.box .lst (vs.map fun v => .int v)] ∧ ρ = [some (.int c), some (.d (.lst (zs.map .int))), some (.loc S.length), r, some (.int s), b, d, e]) ?_ ?_ ?_
    · exact ⟨[], _, _, none, none, none, by omega, rfl, ⟨fun i v z h => by simp at h⟩, rfl, rfl⟩
    · rintro i ρ S1 hi ⟨vs, s, r, b, d, e, hs, rfl, hd, rfl, rfl⟩
      have hx : zs[vs.length]? = some (zs[vs.length]) := List.getElem?_eq_getElem hi
      obtain ⟨z0, z1⟩ := hz _ (List.mem_of_getElem? hx)
      generalize zs[vs.length] = z at hx z0 z1
      have m3 : mulOk s 48271 = true := ml (by omega) (by omega)
      have m4 : mulOk 974711 (vs.length : Int) = true := ml (by omega) (by omega)
      have m5 : ∀ s : Int, mulOk (s % 2147483647) (s % 2147483647 / 65537 + 3) = true := fun s => ml (by omega) (by omega)
      simp [m3, m4, hx, z0, m5]
      exact ⟨by decide, by decide, by omega, vs ++ [_], _, by omega, by simp, hd.add hx ⟨Int.emod_nonneg _ (by omega), Int.emod_lt_of_pos _ z0⟩, by simp; rfl, rfl⟩
    · rintro ρ S1 ⟨vs, s, r, b, d, e, hs, hl, hd, rfl, rfl⟩
      simp
      exact ⟨vs, rfl, hl, hd⟩
theorem fin_flat_ints {vs : List Int} : fin .flat S.length (.loc S.length) (S ++ [.box .lst (vs.map R.int)]) = .ok (.loc S.length) (S ++ [.box .lst (vs.map R.int)]) := by
  have h : ∀ vs : List Int, locsB S.length (vs.map R.int) = true := fun vs => by
    induction vs with
    | nil => rfl
    | cons v vs ih => exact ih
  unfold fin
  dsimp only
  rw [if_neg (by omega), List.getElem?_append_right (Nat.le_refl _), Nat.sub_self]
  dsimp only [List.getElem?_cons_zero]
  rw [if_pos (h vs), List.take_left]
theorem sp_digB {c : Int} {zs : List Int} (hz : ∀ z ∈ zs, 0 < z ∧ z < 10 ^ 40) (hl : zs.length ≤ 100000) : ∃ x, runF .pure 8 digB [.int c, .d (.lst (zs.map .int))] S = .ok x S ∧ ∃ vs : List Int, x = .d (.lst (vs.map .int)) ∧ vs.length = zs.length ∧ Dg zs vs := by
  apply Out.wp_get
  rw [wp_run]
  refine wps_mono (digB_core hz hl) (fun _ _ h => h.elim) (fun r S1 h => ?_) (fun _ _ h => h.elim) (fun _ _ h => h.elim) fun _ _ _ h => h.elim
  obtain ⟨rfl, vs, rfl, h1, h2⟩ := h
  rw [fin_pure_loc]
  exact ⟨_, _, frz_ints, by simp, vs, rfl, h1, h2⟩
theorem sp_digF {c : Int} {zs : List Int} (hz : ∀ z ∈ zs, 0 < z ∧ z < 10 ^ 40) (hl : zs.length ≤ 100000) : ∃ vs : List Int, runF .flat 8 digB [.int c, .d (.lst (zs.map .int))] S = .ok (.loc S.length) (S ++ [.box .lst (vs.map R.int)]) ∧ vs.length = zs.length ∧ Dg zs vs := by
  have h : (runF .flat 8 digB [.int c, .d (.lst (zs.map .int))] S).wp (fun r S1 => r = .loc S.length ∧ ∃ vs : List Int, S1 = S ++ [.box .lst (vs.map R.int)] ∧ vs.length = zs.length ∧ Dg zs vs) fun _ _ => False := by
    rw [wp_run]
    refine wps_mono (digB_core hz hl) (fun _ _ h => h.elim) (fun r S1 h => ?_) (fun _ _ h => h.elim) (fun _ _ h => h.elim) fun _ _ _ h => h.elim
    obtain ⟨rfl, vs, rfl, h1, h2⟩ := h
    rw [fin_flat_ints]
    exact ⟨rfl, vs, rfl, h1, h2⟩
  cases q : runF .flat 8 digB [.int c, .d (.lst (zs.map .int))] S with
  | ok r S1 =>
    rw [q] at h
    obtain ⟨rfl, vs, rfl, h1, h2⟩ := h
    exact ⟨vs, rfl, h1, h2⟩
  | exc e S1 => rw [q] at h; exact h.elim
  | bad => rw [q] at h; exact h.elim
def hd (vs : List Int) : Int := vs.headD 0
def tl (vs : List Int) : List Int := vs.tail
theorem sp_takeB {l : Nat} {z : Int} {vs : List Int} (hl : l < S.length) (hz : 0 < z) : runF .pure 2 takeB [.loc l, .int z] (S.set l (.box .lst (vs.map R.int))) = .ok (.int (hd vs % z)) (S.set l (.box .lst ((tl vs).map R.int))) := by
  apply Out.wp_eq
  rw [wp_run]
  cases vs with
  | nil => simp [takeB, hl, hz, hd, tl]
  | cons v vs =>
    have h : ¬ ((vs.length : Int) + 1 = 0) := by omega
    simp [takeB, hl, hz, h, hd, tl]
end
end DL

set_option maxHeartbeats 4000000
namespace G
open PySem PySem.Spec PyProof.Rows L2 DL
def top (i : Nat) : Stmt := PySem.Challenge.pw_oneheadeach_k75_signing_sayings.main.body.getD i (.Pass ⟨0, 0, 0, 0⟩)
abbrev Sem := Nat → List R → Sto → Out Exn R
def tab_ITEMS : List (Str × At) := [("yes", .str ""), ("no", .str ""), ("same", .str "xx"), ("head", .str "xx"), ("above", .str "xx"), ("first", .str "xxm"), ("mark", .str "xm"), ("in", .str "xA"), ("not", .str "s"), ("and", .str "p"), ("or", .str "p"), ("some", .str "ns"), ("all", .str "ns"), ("least", .str "kxs")]
def clsName : Nat → Str

  | _ => ""
def clsFlds : Nat → List Str

  | _ => []
abbrev s_frozen : Stmt := top 1
abbrev N_frozen : List Str := ["value", "item"]
abbrev P_frozen : List Str := ["value"]
def b_frozen (c : Sem) : MS := mSeq (mIfS (mB (mIsi2 .lst .tup (mVar 0))) (mRet (mCall tupF (mCons (mComp false 1 (mTrue) (mFn (c 0) 1 (mCons (mVar 1) (mNil))) (mVar 0)) (mNil)))) (mSkip)) (mRet (mVar 0))
abbrev s_bound_name : Stmt := top 4
abbrev N_bound_name : List Str := ["saying"]
abbrev P_bound_name : List Str := ["saying"]
def b_bound_name (c : Sem) : MS := mSeq (mIfS (mOr (mB (mBin eqO (mBin getO (mVar 0) (mC (.int 0))) (mC (.str "some")))) (mB (mBin eqO (mBin getO (mVar 0) (mC (.int 0))) (mC (.str "all"))))) (mRet (mBin getO (mVar 0) (mC (.int 1)))) (mSkip)) (mSeq (mIfS (mB (mBin eqO (mBin getO (mVar 0) (mC (.int 0))) (mC (.str "least")))) (mRet (mBin getO (mVar 0) (mC (.int 2)))) (mSkip)) (mRet (mC .non)))
abbrev s_with_name : Stmt := top 5
abbrev N_with_name : List Str := ["saying", "old", "new", "shape", "items", "at", "item", "part"]
abbrev P_with_name : List Str := ["saying", "old", "new"]
def b_with_name (c : Sem) : MS := mSeq (mIfS (mB (mBin eqO (mFn (c 1) 1 (mCons (mVar 0) (mNil))) (mVar 1))) (mRet (mVar 0)) (mSkip)) (mSeq (mSet 3 (mTab tab_ITEMS (mBin getO (mVar 0) (mC (.int 0))))) (mSeq (mSet 4 (mLst true (mCons (mBin getO (mVar 0) (mC (.int 0))) (mNil)))) (mSeq (mForR rngOf1 (gN 5) (mCons (mCall lenF (mCons (mVar 3) (mNil))) (mNil)) (mSeq (mSet 6 (mBin getO (mVar 0) (mBin (addO false) (mVar 5) (mC (.int 1))))) (mSeq (mIfS (mB (mBin eqO (mBin getO (mVar 3) (mVar 5)) (mC (.str "s")))) (mSet 6 (mFn (c 2) 3 (mCons (mVar 6) (mCons (mVar 1) (mCons (mVar 2) (mNil)))))) (mIfS (mB (mBin eqO (mBin getO (mVar 3) (mVar 5)) (mC (.str "p")))) (mSet 6 (mCall tupF (mCons (mComp false 7 (mTrue) (mFn (c 2) 3 (mCons (mVar 7) (mCons (mVar 1) (mCons (mVar 2) (mNil))))) (mVar 6)) (mNil)))) (mIfS (mAnd (mB (mBin inO (mBin getO (mVar 3) (mVar 5)) (mC (.str "xA")))) (mB (mBin eqO (mVar 6) (mVar 1)))) (mSet 6 (mVar 2)) (mSkip)))) (mDrop (mMeth appF (mVar 4) (mCons (mVar 6) (mNil))))))) (mRet (mCall tupF (mCons (mVar 4) (mNil)))))))
abbrev s_renamed_saying : Stmt := top 6
abbrev N_renamed_saying : List Str := ["saying", "old", "new"]
abbrev P_renamed_saying : List Str := ["saying", "old", "new"]
def b_renamed_saying (c : Sem) : MS := mRet (mFn (c 2) 3 (mCons (mFn (c 0) 1 (mCons (mVar 0) (mNil))) (mCons (mVar 1) (mCons (mVar 2) (mNil)))))
abbrev s_signing_sayings : Stmt := top 8
abbrev N_signing_sayings : List Str := ["rule", "signed", "all_signed"]
abbrev P_signing_sayings : List Str := ["rule"]
def b_signing_sayings (c : Sem) : MS := mSeq (mSet 0 (mFn (c 0) 1 (mCons (mVar 0) (mNil)))) (mSeq (mSet 1 (mTup (mCons (mC (.str "some")) (mCons (mC (.str "y")) (mCons (mTup (mCons (mC (.str "and")) (mCons (mTup (mCons (mTup (mCons (mC (.str "in")) (mCons (mC (.str "y")) (mCons (mC (.str "C")) (mNil))))) (mCons (mVar 0) (mNil)))) (mNil)))) (mNil)))))) (mSeq (mSet 2 (mTup (mCons (mC (.str "all")) (mCons (mC (.str "x")) (mCons (mTup (mCons (mC (.str "or")) (mCons (mTup (mCons (mTup (mCons (mC (.str "not")) (mCons (mTup (mCons (mC (.str "in")) (mCons (mC (.str "x")) (mCons (mC (.str "C")) (mNil))))) (mNil)))) (mCons (mVar 1) (mNil)))) (mNil)))) (mNil)))))) (mRet (mTup (mCons (mTup (mCons (mC (.str "not")) (mCons (mTup (mCons (mC (.str "some")) (mCons (mC (.str "y")) (mCons (mVar 0) (mNil))))) (mNil)))) (mCons (mTup (mCons (mC (.str "least")) (mCons (mC (.int 2)) (mCons (mC (.str "y")) (mCons (mVar 0) (mNil)))))) (mCons (mFn (c 3) 3 (mCons (mVar 0) (mCons (mC (.str "y")) (mCons (mC (.str "x")) (mNil))))) (mCons (mTup (mCons (mC (.str "and")) (mCons (mTup (mCons (mTup (mCons (mC (.str "some")) (mCons (mC (.str "x")) (mCons (mTup (mCons (mC (.str "in")) (mCons (mC (.str "x")) (mCons (mC (.str "C")) (mNil))))) (mNil))))) (mCons (mVar 2) (mNil)))) (mNil)))) (mNil)))))))))
abbrev s__law_cell : Stmt := top 10
abbrev N__law_cell : List Str := ["script", "k", "seed", "cell"]
abbrev P__law_cell : List Str := ["script", "k"]
def b__law_cell (c : Sem) : MS := mSeq (mIfS (mB (mBin (cmpO fun i j => decide (i < j)) (mVar 1) (mCall lenF (mCons (mVar 0) (mNil))))) (mRet (mBin getO (mVar 0) (mVar 1))) (mSkip)) (mSeq (mSet 2 (mC (.int 17))) (mSeq (mFor (gN 3) (mVar 0) (mSet 2 (mBin (modO) (mCall intF (mCons (mBin (addO false) (mBin (mulO false) (mVar 2) (mC (.int 31))) (mBin (modO) (mCall intF (mCons (mVar 3) (mNil))) (mC (.int 1000003)))) (mNil))) (mC (.int 1000003))))) (mRet (mBin (modO) (mCall intF (mCons (mBin (mulO false) (mBin (mulO false) (mBin (addO false) (mVar 2) (mC (.int 7))) (mBin (addO false) (mVar 1) (mC (.int 3)))) (mC (.int 69621))) (mNil))) (mC (.int 2147483647))))))
abbrev s__law_digits : Stmt := top 11
abbrev N__law_digits : List Str := ["cell", "sizes", "row", "rest", "seed", "k", "size", "twice"]
abbrev P__law_digits : List Str := ["cell", "sizes"]
def b__law_digits (c : Sem) : MS := mSeq (mSet 2 (mLst true (mNil))) (mSeq (mSet 3 (mCall intF (mCons (mVar 0) (mNil)))) (mSeq (mIfS (mB (mBin (cmpO fun i j => decide (j ≤ i)) (mVar 3) (mBin (powO) (mC (.int 10)) (mC (.int 18))))) (mSeq (mSet 3 (mBin (modO) (mCall intF (mCons (mBin (subO) (mVar 3) (mBin (powO) (mC (.int 10)) (mC (.int 18)))) (mNil))) (mBin (mulO false) (mBin (mulO false) (mBin (powO) (mC (.int 10)) (mC (.int 60))) (mBin (powO) (mC (.int 10)) (mC (.int 60)))) (mBin (powO) (mC (.int 10)) (mC (.int 60)))))) (mSeq (mFor (gN 6) (mVar 1) (mSeq (mDrop (mMeth appF (mVar 2) (mCons (mBin (modO) (mCall intF (mCons (mVar 3) (mNil))) (mVar 6)) (mNil)))) (mSet 3 (mBin (divO) (mCall intF (mCons (mVar 3) (mNil))) (mVar 6))))) (mRet (mVar 2)))) (mSkip)) (mSeq (mSet 4 (mBin (modO) (mCall intF (mCons (mVar 3) (mNil))) (mC (.int 2147483629)))) (mSeq (mForR rngOf1 (gN 5) (mCons (mCall lenF (mCons (mVar 1) (mNil))) (mNil)) (mSeq (mSet 4 (mBin (modO) (mCall intF (mCons (mBin (addO false) (mBin (addO false) (mBin (mulO false) (mVar 4) (mC (.int 48271))) (mBin (mulO false) (mC (.int 974711)) (mVar 5))) (mC (.int 12345))) (mNil))) (mC (.int 2147483647)))) (mSeq (mSet 7 (mBin (modO) (mCall intF (mCons (mBin (mulO false) (mVar 4) (mBin (addO false) (mBin (divO) (mVar 4) (mC (.int 65537))) (mC (.int 3)))) (mNil))) (mC (.int 2147483629)))) (mDrop (mMeth appF (mVar 2) (mCons (mBin (modO) (mBin (divO) (mVar 7) (mC (.int 19))) (mBin getO (mVar 1) (mVar 5))) (mNil))))))) (mRet (mVar 2))))))
abbrev s__law_same : Stmt := top 12
abbrev N__law_same : List Str := ["one", "two"]
abbrev P__law_same : List Str := ["one", "two"]
def b__law_same (c : Sem) : MS := mSeq (mIfS (mOr (mB (mBin isO (mVar 0) (mC .non))) (mB (mBin isO (mVar 1) (mC .non)))) (mRet (mAndV (mBin isO (mVar 0) (mC .non)) (mBin isO (mVar 1) (mC .non)))) (mSkip)) (mSeq (mIfS (mOr (mB (mIsi .bl (mVar 0))) (mB (mIsi .bl (mVar 1)))) (mRet (mAndV (mIsi .bl (mVar 0)) (mAndV (mIsi .bl (mVar 1)) (mBin eqO (mVar 0) (mVar 1))))) (mSkip)) (mRet (mAndV (mBin eqO (mIsi .int (mVar 0)) (mIsi .int (mVar 1))) (mAndV (mBin eqO (mIsi .str (mVar 0)) (mIsi .str (mVar 1))) (mBin eqO (mVar 0) (mVar 1))))))
abbrev s__law_take : Stmt := top 13
abbrev N__law_take : List Str := ["row", "size"]
abbrev P__law_take : List Str := ["row", "size"]
def b__law_take (c : Sem) : MS := mSeq (mIfS (mB (mBin eqO (mCall lenF (mCons (mVar 0) (mNil))) (mC (.int 0)))) (mRet (mC (.int 0))) (mSkip)) (mRet (mBin (modO) (mCall intF (mCons (mMeth popAtF (mVar 0) (mCons (mC (.int 0)) (mNil))) (mNil))) (mVar 1)))
abbrev s__law_atom : Stmt := top 14
abbrev N__law_atom : List Str := ["row", "terms", "sets", "one", "two", "kind", "sign", "menu"]
abbrev P__law_atom : List Str := ["row", "terms", "sets"]
def b__law_atom (c : Sem) : MS := mSeq (mSet 3 (mBin getO (mVar 1) (mFn (c 8) 2 (mCons (mVar 0) (mCons (mCall lenF (mCons (mVar 1) (mNil))) (mNil)))))) (mSeq (mSet 4 (mBin getO (mVar 1) (mFn (c 8) 2 (mCons (mVar 0) (mCons (mCall lenF (mCons (mVar 1) (mNil))) (mNil)))))) (mSeq (mSet 5 (mFn (c 8) 2 (mCons (mVar 0) (mCons (mC (.int 9)) (mNil))))) (mSeq (mSet 6 (mBin getO (mLst false (mCons (mFn (c 8) 2 (mCons (mVar 0) (mCons (mC (.int 2)) (mNil)))) (mCons (mFn (c 8) 2 (mCons (mVar 0) (mCons (mC (.int 512)) (mNil)))) (mCons (mC (.int 511)) (mCons (mC (.int 10)) (mNil)))))) (mFn (c 8) 2 (mCons (mVar 0) (mCons (mC (.int 4)) (mNil)))))) (mSeq (mSet 7 (mLst false (mCons (mTup (mCons (mC (.str "head")) (mCons (mVar 3) (mCons (mVar 4) (mNil))))) (mCons (mTup (mCons (mC (.str "first")) (mCons (mVar 3) (mCons (mVar 4) (mCons (mVar 6) (mNil)))))) (mCons (mTup (mCons (mC (.str "above")) (mCons (mVar 3) (mCons (mVar 4) (mNil))))) (mCons (mTup (mCons (mC (.str "same")) (mCons (mVar 3) (mCons (mVar 4) (mNil))))) (mCons (mTup (mCons (mC (.str "mark")) (mCons (mVar 3) (mCons (mVar 6) (mNil))))) (mNil)))))))) (mSeq (mSet 7 (mBin (addO false) (mVar 7) (mLst false (mCons (mTup (mCons (mC (.str "mark")) (mCons (mVar 4) (mCons (mVar 6) (mNil))))) (mCons (mTup (mCons (mC (.str "yes")) (mNil))) (mCons (mTup (mCons (mC (.str "no")) (mNil))) (mCons (mTup (mCons (mC (.str "above")) (mCons (mVar 4) (mCons (mVar 3) (mNil))))) (mNil)))))))) (mSeq (mIfS (mAnd (mB (mBin (cmpO fun i j => decide (j ≤ i)) (mVar 5) (mC (.int 5)))) (mB (mBin (cmpO fun i j => decide (j < i)) (mCall lenF (mCons (mVar 2) (mNil))) (mC (.int 0))))) (mRet (mTup (mCons (mC (.str "in")) (mCons (mVar 3) (mCons (mBin getO (mVar 2) (mFn (c 8) 2 (mCons (mVar 0) (mCons (mCall lenF (mCons (mVar 2) (mNil))) (mNil))))) (mNil)))))) (mSkip)) (mRet (mBin getO (mVar 7) (mVar 5)))))))))
abbrev s__law_rule : Stmt := top 15
abbrev N__law_rule : List Str := ["row", "deep", "terms", "sets", "kind", "term", "lot", "parts", "k"]
abbrev P__law_rule : List Str := ["row", "deep", "terms", "sets"]
def r__law_rule_10 (c : Sem) : MS := mRet (mTup (mCons (mBin getO (mLst false (mCons (mC (.str "and")) (mCons (mC (.str "or")) (mNil)))) (mBin (modO) (mVar 4) (mC (.int 2)))) (mCons (mCall tupF (mCons (mVar 7) (mNil))) (mNil))))
def r__law_rule_17 (c : Sem) : MS := mRet (mTup (mCons (mBin getO (mLst false (mCons (mC (.str "some")) (mCons (mC (.str "all")) (mNil)))) (mBin (modO) (mVar 4) (mC (.int 2)))) (mCons (mVar 6) (mCons (mFn (c 10) 4 (mCons (mVar 0) (mCons (mBin (subO) (mVar 1) (mC (.int 1))) (mCons (mVar 2) (mCons (mBin (addO false) (mVar 3) (mLst false (mCons (mVar 6) (mNil)))) (mNil)))))) (mNil)))))
def r__law_rule_15 (c : Sem) : MS := mSeq (mIfS (mB (mBin eqO (mVar 4) (mC (.int 11)))) (mRet (mTup (mCons (mC (.str "least")) (mCons (mBin (addO false) (mC (.int 1)) (mFn (c 8) 2 (mCons (mVar 0) (mCons (mC (.int 6)) (mNil))))) (mCons (mVar 5) (mCons (mFn (c 10) 4 (mCons (mVar 0) (mCons (mBin (subO) (mVar 1) (mC (.int 1))) (mCons (mBin (addO false) (mVar 2) (mLst false (mCons (mVar 5) (mNil)))) (mCons (mVar 3) (mNil)))))) (mNil))))))) (mSkip)) (r__law_rule_17 c)
def r__law_rule_13 (c : Sem) : MS := mSeq (mIfS (mB (mBin (cmpO fun i j => decide (i < j)) (mVar 4) (mC (.int 11)))) (mRet (mTup (mCons (mBin getO (mLst false (mCons (mC (.str "some")) (mCons (mC (.str "all")) (mNil)))) (mBin (modO) (mVar 4) (mC (.int 2)))) (mCons (mVar 5) (mCons (mFn (c 10) 4 (mCons (mVar 0) (mCons (mBin (subO) (mVar 1) (mC (.int 1))) (mCons (mBin (addO false) (mVar 2) (mLst false (mCons (mVar 5) (mNil)))) (mCons (mVar 3) (mNil)))))) (mNil)))))) (mSkip)) (r__law_rule_15 c)
def r__law_rule_12 (c : Sem) : MS := mSeq (mSet 6 (mBin getO (mLst false (mCons (mC (.str "A")) (mCons (mC (.str "B")) (mCons (mC (.str "CC")) (mCons (mC (.str "LOT")) (mCons (mC (.str "D")) (mCons (mC (.str "E")) (mNil)))))))) (mVar 1))) (r__law_rule_13 c)
def r__law_rule_11 (c : Sem) : MS := mSeq (mSet 5 (mBin getO (mLst false (mCons (mC (.str "a")) (mCons (mC (.str "yy")) (mCons (mC (.str "boss")) (mCons (mC (.str "xy")) (mCons (mC (.str "c")) (mCons (mC (.str "q")) (mNil)))))))) (mVar 1))) (r__law_rule_12 c)
def r__law_rule_8 (c : Sem) : MS := mSeq (mIfS (mB (mBin (cmpO fun i j => decide (i < j)) (mVar 4) (mC (.int 9)))) (mSeq (mSet 7 (mCompR rngOf1 false 8 (mTrue) (mFn (c 10) 4 (mCons (mVar 0) (mCons (mBin (subO) (mVar 1) (mC (.int 1))) (mCons (mVar 2) (mCons (mVar 3) (mNil)))))) (mCons (mBin (addO false) (mC (.int 2)) (mFn (c 8) 2 (mCons (mVar 0) (mCons (mC (.int 3)) (mNil))))) (mNil)))) (r__law_rule_10 c)) (mSkip)) (r__law_rule_11 c)
def r__law_rule_6 (c : Sem) : MS := mSeq (mIfS (mB (mBin eqO (mVar 4) (mC (.int 5)))) (mRet (mTup (mCons (mC (.str "not")) (mCons (mFn (c 10) 4 (mCons (mVar 0) (mCons (mBin (subO) (mVar 1) (mC (.int 1))) (mCons (mVar 2) (mCons (mVar 3) (mNil)))))) (mNil))))) (mSkip)) (r__law_rule_8 c)
def r__law_rule_4 (c : Sem) : MS := mSeq (mIfS (mOr (mB (mBin eqO (mVar 1) (mC (.int 0)))) (mB (mBin (cmpO fun i j => decide (i < j)) (mVar 4) (mC (.int 5))))) (mRet (mFn (c 9) 3 (mCons (mVar 0) (mCons (mVar 2) (mCons (mVar 3) (mNil)))))) (mSkip)) (r__law_rule_6 c)
def r__law_rule_2 (c : Sem) : MS := mSeq (mIfS (mAnd (mB (mBin eqO (mVar 1) (mC (.int 5)))) (mB (mBin (cmpO fun i j => decide (i < j)) (mVar 4) (mC (.int 5))))) (mSet 4 (mBin (addO false) (mC (.int 6)) (mBin (modO) (mVar 4) (mC (.int 3))))) (mSkip)) (r__law_rule_4 c)
def b__law_rule (c : Sem) : MS := mSeq (mSet 4 (mFn (c 8) 2 (mCons (mVar 0) (mCons (mC (.int 14)) (mNil))))) (r__law_rule_2 c)
abbrev s__law_listed : Stmt := top 16
abbrev N__law_listed : List Str := ["value", "part"]
abbrev P__law_listed : List Str := ["value"]
def b__law_listed (c : Sem) : MS := mSeq (mIfS (mB (mIsi .tup (mVar 0))) (mRet (mComp false 1 (mTrue) (mFn (c 11) 1 (mCons (mVar 1) (mNil))) (mVar 0))) (mSkip)) (mRet (mVar 0))
abbrev s__law_turned : Stmt := top 17
abbrev N__law_turned : List Str := ["rule", "kind", "items", "item", "part"]
abbrev P__law_turned : List Str := ["rule"]
def b__law_turned (c : Sem) : MS := mSeq (mSet 1 (mBin getO (mVar 0) (mC (.int 0)))) (mSeq (mIfS (mB (mBin eqO (mVar 1) (mC (.str "not")))) (mRet (mTup (mCons (mC (.str "not")) (mCons (mFn (c 12) 1 (mCons (mBin getO (mVar 0) (mC (.int 1))) (mNil))) (mNil))))) (mSkip)) (mSeq (mIfS (mOr (mB (mBin eqO (mVar 1) (mC (.str "and")))) (mB (mBin eqO (mVar 1) (mC (.str "or"))))) (mRet (mTup (mCons (mVar 1) (mCons (mCall tupF (mCons (mComp false 4 (mTrue) (mFn (c 12) 1 (mCons (mVar 4) (mNil))) (mBin getO (mVar 0) (mC (.int 1)))) (mNil))) (mNil))))) (mSkip)) (mSeq (mIfS (mOr (mB (mBin eqO (mVar 1) (mC (.str "some")))) (mB (mBin eqO (mVar 1) (mC (.str "all"))))) (mRet (mTup (mCons (mVar 1) (mCons (mBin getO (mVar 0) (mC (.int 1))) (mCons (mFn (c 12) 1 (mCons (mBin getO (mVar 0) (mC (.int 2))) (mNil))) (mNil)))))) (mSkip)) (mSeq (mIfS (mB (mBin eqO (mVar 1) (mC (.str "least")))) (mRet (mTup (mCons (mVar 1) (mCons (mBin getO (mVar 0) (mC (.int 1))) (mCons (mBin getO (mVar 0) (mC (.int 2))) (mCons (mFn (c 12) 1 (mCons (mBin getO (mVar 0) (mC (.int 3))) (mNil))) (mNil))))))) (mSkip)) (mSeq (mSet 2 (mLst true (mNil))) (mSeq (mFor (gN 3) (mVar 0) (mIfS (mB (mBin eqO (mVar 3) (mC (.str "y")))) (mDrop (mMeth appF (mVar 2) (mCons (mC (.str "x")) (mNil)))) (mDrop (mMeth appF (mVar 2) (mCons (mVar 3) (mNil)))))) (mRet (mCall tupF (mCons (mVar 2) (mNil))))))))))
abbrev s__law_faults : Stmt := top 18
abbrev N__law_faults : List Str := ["rule", "served", "none_out", "round_saying"]
abbrev P__law_faults : List Str := ["rule"]
def b__law_faults (c : Sem) : MS := mSeq (mSet 1 (mTup (mCons (mC (.str "some")) (mCons (mC (.str "y")) (mCons (mTup (mCons (mC (.str "and")) (mCons (mTup (mCons (mTup (mCons (mC (.str "in")) (mCons (mC (.str "y")) (mCons (mC (.str "C")) (mNil))))) (mCons (mVar 0) (mNil)))) (mNil)))) (mNil)))))) (mSeq (mSet 2 (mTup (mCons (mC (.str "all")) (mCons (mC (.str "x")) (mCons (mTup (mCons (mC (.str "or")) (mCons (mTup (mCons (mTup (mCons (mC (.str "not")) (mCons (mTup (mCons (mC (.str "in")) (mCons (mC (.str "x")) (mCons (mC (.str "C")) (mNil))))) (mNil)))) (mCons (mVar 1) (mNil)))) (mNil)))) (mNil)))))) (mSeq (mSet 3 (mTup (mCons (mC (.str "and")) (mCons (mTup (mCons (mTup (mCons (mC (.str "some")) (mCons (mC (.str "x")) (mCons (mTup (mCons (mC (.str "in")) (mCons (mC (.str "x")) (mCons (mC (.str "C")) (mNil))))) (mNil))))) (mCons (mVar 2) (mNil)))) (mNil))))) (mRet (mTup (mCons (mTup (mCons (mC (.str "not")) (mCons (mTup (mCons (mC (.str "some")) (mCons (mC (.str "y")) (mCons (mVar 0) (mNil))))) (mNil)))) (mCons (mTup (mCons (mC (.str "least")) (mCons (mC (.int 2)) (mCons (mC (.str "y")) (mCons (mVar 0) (mNil)))))) (mCons (mFn (c 12) 1 (mCons (mVar 0) (mNil))) (mCons (mVar 3) (mNil)))))))))
abbrev s__law_very : Stmt := top 19
abbrev N__law_very : List Str := ["told", "due", "k"]
abbrev P__law_very : List Str := ["told", "due"]
def b__law_very (c : Sem) : MS := mSeq (mIfS (mB (mIsi .tup (mVar 1))) (mSeq (mIfS (mOr (mNot (mB (mIsi .tup (mVar 0)))) (mB (mBin neO (mCall lenF (mCons (mVar 0) (mNil))) (mCall lenF (mCons (mVar 1) (mNil)))))) (mRet (mC (.bl false))) (mSkip)) (mSeq (mForR rngOf1 (gN 2) (mCons (mCall lenF (mCons (mVar 1) (mNil))) (mNil)) (mIfS (mNot (mB (mFn (c 14) 2 (mCons (mBin getO (mVar 0) (mVar 2)) (mCons (mBin getO (mVar 1) (mVar 2)) (mNil)))))) (mRet (mC (.bl false))) (mSkip))) (mRet (mC (.bl true))))) (mSkip)) (mRet (mAndV (mNotV (mIsi .tup (mVar 0))) (mAndV (mNotV (mIsi .lst (mVar 0))) (mFn (c 7) 2 (mCons (mVar 0) (mCons (mVar 1) (mNil)))))))
abbrev s_law : Stmt := top 20
abbrev N_law : List Str := ["script", "shape", "row", "rule", "second", "one", "many", "k", "handed", "told"]
abbrev P_law : List Str := ["script"]
def r_law_6 (c : Sem) : MS := mSet 3 (mTup (mCons (mBin getO (mLst false (mCons (mC (.str "and")) (mCons (mC (.str "or")) (mNil)))) (mBin getO (mVar 1) (mC (.int 3)))) (mCons (mCall tupF (mCons (mCompR rngOf1 false 7 (mTrue) (mFn (c 9) 3 (mCons (mVar 6) (mCons (mLst false (mCons (mC (.str "x")) (mCons (mC (.str "y")) (mNil)))) (mCons (mLst false (mNil)) (mNil))))) (mCons (mBin (addO false) (mC (.int 2)) (mBin getO (mVar 1) (mC (.int 1)))) (mNil))) (mNil))) (mNil))))
def r_law_9 (c : Sem) : MS := mSet 3 (mTup (mCons (mC (.str "not")) (mCons (mVar 3) (mNil))))
def r_law_18 (c : Sem) : MS := mIfS (mAnd (mB (mBin eqO (mBin getO (mVar 1) (mC (.int 4))) (mC (.int 1)))) (mB (mBin neO (mVar 8) (mFn (c 11) 1 (mCons (mVar 5) (mNil)))))) (mRet (mC (.bl false))) (mSkip)
def r_law_16 (c : Sem) : MS := mSeq (mIfS (mNot (mB (mFn (c 14) 2 (mCons (mVar 9) (mCons (mFn (c 13) 1 (mCons (mVar 5) (mNil))) (mNil)))))) (mRet (mC (.bl false))) (mSkip)) (r_law_18 c)
def r_law_15 (c : Sem) : MS := mSeq (mSet 9 (mFn (c 4) 1 (mCons (mVar 8) (mNil)))) (r_law_16 c)
def r_law_13 (c : Sem) : MS := mSeq (mIfS (mB (mBin eqO (mBin getO (mVar 1) (mC (.int 4))) (mC (.int 1)))) (mSet 8 (mFn (c 11) 1 (mCons (mVar 5) (mNil)))) (mSkip)) (r_law_15 c)
def r_law_12 (c : Sem) : MS := mSeq (mSet 8 (mVar 5)) (r_law_13 c)
def r_law_20 (c : Sem) : MS := mRet (mC (.bl true))
def r_law_11 (c : Sem) : MS := mSeq (mFor (gN 5) (mLst false (mCons (mVar 3) (mCons (mVar 4) (mCons (mTup (mCons (mC (.str "head")) (mCons (mC (.str "x")) (mCons (mC (.str "y")) (mNil))))) (mCons (mTup (mCons (mC (.str "no")) (mNil))) (mCons (mTup (mCons (mC (.str "yes")) (mNil))) (mCons (mVar 3) (mNil)))))))) (r_law_12 c)) (r_law_20 c)
def r_law_10 (c : Sem) : MS := mSeq (mSet 4 (mFn (c 10) 4 (mCons (mFn (c 6) 2 (mCons (mFn (c 5) 2 (mCons (mVar 0) (mCons (mC (.int 4)) (mNil)))) (mCons (mBin (mulO false) (mLst false (mCons (mC (.int 5040)) (mNil))) (mC (.int 40))) (mNil)))) (mCons (mC (.int 3)) (mCons (mLst false (mCons (mC (.str "y")) (mCons (mC (.str "x")) (mNil)))) (mCons (mLst false (mNil)) (mNil))))))) (r_law_11 c)
def r_law_7 (c : Sem) : MS := mSeq (mIfS (mB (mBin eqO (mBin getO (mVar 1) (mC (.int 0))) (mC (.int 2)))) (mForR rngOf1 (gN 7) (mCons (mBin getO (mVar 1) (mC (.int 2))) (mNil)) (r_law_9 c)) (mSkip)) (r_law_10 c)
def r_law_4 (c : Sem) : MS := mSeq (mIfS (mB (mBin eqO (mBin getO (mVar 1) (mC (.int 0))) (mC (.int 1)))) (mSeq (mSet 6 (mFn (c 6) 2 (mCons (mFn (c 5) 2 (mCons (mVar 0) (mCons (mC (.int 3)) (mNil)))) (mCons (mBin (mulO false) (mLst false (mCons (mC (.int 5040)) (mNil))) (mC (.int 2400))) (mNil))))) (r_law_6 c)) (mSkip)) (r_law_7 c)
def r_law_3 (c : Sem) : MS := mSeq (mSet 3 (mFn (c 10) 4 (mCons (mVar 2) (mCons (mC (.int 5)) (mCons (mLst false (mCons (mC (.str "x")) (mCons (mC (.str "y")) (mNil)))) (mCons (mLst false (mNil)) (mNil))))))) (r_law_4 c)
def r_law_2 (c : Sem) : MS := mSeq (mSet 2 (mBin (addO true) (mFn (c 6) 2 (mCons (mFn (c 5) 2 (mCons (mVar 0) (mCons (mC (.int 1)) (mNil)))) (mCons (mBin (mulO false) (mLst false (mCons (mC (.int 5040)) (mNil))) (mC (.int 40))) (mNil)))) (mFn (c 6) 2 (mCons (mFn (c 5) 2 (mCons (mVar 0) (mCons (mC (.int 2)) (mNil)))) (mCons (mBin (mulO false) (mLst false (mCons (mC (.int 5040)) (mNil))) (mC (.int 40))) (mNil)))))) (r_law_3 c)
def b_law (c : Sem) : MS := mSeq (mSet 1 (mFn (c 6) 2 (mCons (mFn (c 5) 2 (mCons (mVar 0) (mCons (mC (.int 0)) (mNil)))) (mCons (mLst false (mCons (mC (.int 8)) (mCons (mC (.int 399)) (mCons (mC (.int 35)) (mCons (mC (.int 2)) (mCons (mC (.int 2)) (mNil))))))) (mNil))))) (r_law_2 c)
def sem : Nat → Sem
  | 0 => fun _ _ _ => .bad
  | n + 1 => fun f => match f with
    | 0 => runF .pure 2 (b_frozen (sem n))
    | 1 => runF .pure 1 (b_bound_name (sem n))
    | 2 => runF .pure 8 (b_with_name (sem n))
    | 3 => runF .pure 3 (b_renamed_saying (sem n))
    | 4 => runF .pure 3 (b_signing_sayings (sem n))
    | 5 => runF .pure 4 (b__law_cell (sem n))
    | 6 => runF .flat 8 (b__law_digits (sem n))
    | 7 => runF .pure 2 (b__law_same (sem n))
    | 8 => runF .pure 2 (b__law_take (sem n))
    | 9 => runF .pure 8 (b__law_atom (sem n))
    | 10 => runF .pure 9 (b__law_rule (sem n))
    | 11 => runF .pure 2 (b__law_listed (sem n))
    | 12 => runF .pure 5 (b__law_turned (sem n))
    | 13 => runF .pure 4 (b__law_faults (sem n))
    | 14 => runF .pure 3 (b__law_very (sem n))
    | 15 => runF .pure 10 (b_law (sem n))
    | _ => fun _ _ => .bad
theorem sem_frozen (n : Nat) : sem (n + 1) 0 = runF .pure 2 (b_frozen (sem n)) := rfl
theorem sem_bound_name (n : Nat) : sem (n + 1) 1 = runF .pure 1 (b_bound_name (sem n)) := rfl
theorem sem_with_name (n : Nat) : sem (n + 1) 2 = runF .pure 8 (b_with_name (sem n)) := rfl
theorem sem_renamed_saying (n : Nat) : sem (n + 1) 3 = runF .pure 3 (b_renamed_saying (sem n)) := rfl
theorem sem_signing_sayings (n : Nat) : sem (n + 1) 4 = runF .pure 3 (b_signing_sayings (sem n)) := rfl
theorem sem__law_cell (n : Nat) : sem (n + 1) 5 = runF .pure 4 (b__law_cell (sem n)) := rfl
theorem sem__law_digits (n : Nat) : sem (n + 1) 6 = runF .flat 8 (b__law_digits (sem n)) := rfl
theorem sem__law_same (n : Nat) : sem (n + 1) 7 = runF .pure 2 (b__law_same (sem n)) := rfl
theorem sem__law_take (n : Nat) : sem (n + 1) 8 = runF .pure 2 (b__law_take (sem n)) := rfl
theorem sem__law_atom (n : Nat) : sem (n + 1) 9 = runF .pure 8 (b__law_atom (sem n)) := rfl
theorem sem__law_rule (n : Nat) : sem (n + 1) 10 = runF .pure 9 (b__law_rule (sem n)) := rfl
theorem sem__law_listed (n : Nat) : sem (n + 1) 11 = runF .pure 2 (b__law_listed (sem n)) := rfl
theorem sem__law_turned (n : Nat) : sem (n + 1) 12 = runF .pure 5 (b__law_turned (sem n)) := rfl
theorem sem__law_faults (n : Nat) : sem (n + 1) 13 = runF .pure 4 (b__law_faults (sem n)) := rfl
theorem sem__law_very (n : Nat) : sem (n + 1) 14 = runF .pure 3 (b__law_very (sem n)) := rfl
theorem sem_law (n : Nat) : sem (n + 1) 15 = runF .pure 10 (b_law (sem n)) := rfl
theorem sc_frozen : FnScope N_frozen P_frozen (defScope s_frozen) := ⟨rfl, rfl, rfl, by decide +kernel, rfl, by decide +kernel, by decide +kernel⟩
theorem sc_bound_name : FnScope N_bound_name P_bound_name (defScope s_bound_name) := ⟨rfl, rfl, rfl, by decide +kernel, rfl, by decide +kernel, by decide +kernel⟩
theorem sc_with_name : FnScope N_with_name P_with_name (defScope s_with_name) := ⟨rfl, rfl, rfl, by decide +kernel, rfl, by decide +kernel, by decide +kernel⟩
theorem sc_renamed_saying : FnScope N_renamed_saying P_renamed_saying (defScope s_renamed_saying) := ⟨rfl, rfl, rfl, by decide +kernel, rfl, by decide +kernel, by decide +kernel⟩
theorem sc_signing_sayings : FnScope N_signing_sayings P_signing_sayings (defScope s_signing_sayings) := ⟨rfl, rfl, rfl, by decide +kernel, rfl, by decide +kernel, by decide +kernel⟩
theorem sc__law_cell : FnScope N__law_cell P__law_cell (defScope s__law_cell) := ⟨rfl, rfl, rfl, by decide +kernel, rfl, by decide +kernel, by decide +kernel⟩
theorem sc__law_digits : FnScope N__law_digits P__law_digits (defScope s__law_digits) := ⟨rfl, rfl, rfl, by decide +kernel, rfl, by decide +kernel, by decide +kernel⟩
theorem sc__law_same : FnScope N__law_same P__law_same (defScope s__law_same) := ⟨rfl, rfl, rfl, by decide +kernel, rfl, by decide +kernel, by decide +kernel⟩
theorem sc__law_take : FnScope N__law_take P__law_take (defScope s__law_take) := ⟨rfl, rfl, rfl, by decide +kernel, rfl, by decide +kernel, by decide +kernel⟩
theorem sc__law_atom : FnScope N__law_atom P__law_atom (defScope s__law_atom) := ⟨rfl, rfl, rfl, by decide +kernel, rfl, by decide +kernel, by decide +kernel⟩
theorem sc__law_rule : FnScope N__law_rule P__law_rule (defScope s__law_rule) := ⟨rfl, rfl, rfl, by decide +kernel, rfl, by decide +kernel, by decide +kernel⟩
theorem sc__law_listed : FnScope N__law_listed P__law_listed (defScope s__law_listed) := ⟨rfl, rfl, rfl, by decide +kernel, rfl, by decide +kernel, by decide +kernel⟩
theorem sc__law_turned : FnScope N__law_turned P__law_turned (defScope s__law_turned) := ⟨rfl, rfl, rfl, by decide +kernel, rfl, by decide +kernel, by decide +kernel⟩
theorem sc__law_faults : FnScope N__law_faults P__law_faults (defScope s__law_faults) := ⟨rfl, rfl, rfl, by decide +kernel, rfl, by decide +kernel, by decide +kernel⟩
theorem sc__law_very : FnScope N__law_very P__law_very (defScope s__law_very) := ⟨rfl, rfl, rfl, by decide +kernel, rfl, by decide +kernel, by decide +kernel⟩
theorem sc_law : FnScope N_law P_law (defScope s_law) := ⟨rfl, rfl, rfl, by decide +kernel, rfl, by decide +kernel, by decide +kernel⟩
/-- the module's facts -/
structure Txt (K : PySem.W.Frag) (w : World) (mg : Str → Option Value) (C : DC) : Prop where
  z_bool : mg "bool" = none
  z_int : mg "int" = none
  z_isinstance : mg "isinstance" = none
  z_len : mg "len" = none
  z_list : mg "list" = none
  z_range : mg "range" = none
  z_str : mg "str" = none
  t_ITEMS : TabOk K w mg "ITEMS" tab_ITEMS
  z_tuple : mg "tuple" = none
/-- every def keeps its promise at depth n -/
structure AllOk (P : Program) (w : World) (K : PySem.W.Frag) (mg : Str → Option Value) (base : Heap) (C : DC) (n : Nat) : Prop where
  c_frozen : Callee P w K mg base C (2 * n) "frozen" P_frozen (sem n 0)
  c_bound_name : Callee P w K mg base C (2 * n) "bound_name" P_bound_name (sem n 1)
  c_with_name : Callee P w K mg base C (2 * n) "with_name" P_with_name (sem n 2)
  c_renamed_saying : Callee P w K mg base C (2 * n) "renamed_saying" P_renamed_saying (sem n 3)
  c_signing_sayings : Callee P w K mg base C (2 * n) "signing_sayings" P_signing_sayings (sem n 4)
  c__law_cell : Callee P w K mg base C (2 * n) "_law_cell" P__law_cell (sem n 5)
  c__law_digits : Callee P w K mg base C (2 * n) "_law_digits" P__law_digits (sem n 6)
  c__law_same : Callee P w K mg base C (2 * n) "_law_same" P__law_same (sem n 7)
  c__law_take : Callee P w K mg base C (2 * n) "_law_take" P__law_take (sem n 8)
  c__law_atom : Callee P w K mg base C (2 * n) "_law_atom" P__law_atom (sem n 9)
  c__law_rule : Callee P w K mg base C (2 * n) "_law_rule" P__law_rule (sem n 10)
  c__law_listed : Callee P w K mg base C (2 * n) "_law_listed" P__law_listed (sem n 11)
  c__law_turned : Callee P w K mg base C (2 * n) "_law_turned" P__law_turned (sem n 12)
  c__law_faults : Callee P w K mg base C (2 * n) "_law_faults" P__law_faults (sem n 13)
  c__law_very : Callee P w K mg base C (2 * n) "_law_very" P__law_very (sem n 14)
  c_law : Callee P w K mg base C (2 * n) "law" P_law (sem n 15)
section
variable {P : Program} {w : World} {K : PySem.W.Frag} {mg : Str → Option Value} {base : Heap} {C : DC} {n : Nat} {f : Addr} {fd : FuncData}
abbrev FnP (K : PySem.W.Frag) (x qual : Str) (st : Stmt) (f : Addr) (fd : FuncData) : Prop := FunD K x qual (defArgs st) (defBody st) (defScope st) [] [] f fd
theorem ok_frozen (T : Txt K w mg C) (IH : AllOk P w K mg base C n) (F : FnP K "frozen" "frozen" s_frozen f fd) : FnOk P w K mg base (L2.CX P w) (2 * n + 2) f fd P_frozen (spD K C P_frozen.length (sem (n + 1) 0)) := by
  rw [sem_frozen]
  refine fn_ok (k := 2 * n + 1) .pure F sc_frozen fun cdv A outer s H E hr => ?_
  have hr' := hr.mono (show 2 * n ≤ 2 * n + 1 by omega)
  have hu := hr.units
  have tk : Takes (cxOf (L2.CX P w) P w K mg base N_frozen "frozen" (defScope s_frozen) f cdv A outer s H E) (WS E) := takes_of rfl rfl rfl rfl
  unfold b_frozen
  exact dss_cons (ds_if (dt_val (de_isi2 .lst .tup (by decide) (by decide) (by rfl) T.z_isinstance (by rfl) T.z_list bt_list (by rfl) T.z_tuple bt_tuple (ha := dv 0))) (dss_one (ds_ret (de_callT c_tup (by rfl) T.z_tuple bt_tuple (da_cons (de_comp false 1 rfl sc_frozen.nd (dv 0) (blkOk_by (N := N_frozen) (sc := defScope s_frozen) (own := [("item", 1)]) (by decide +kernel)) (fun _ _ _ _ _ => pg_name (i := 1) sc_frozen.nd rfl (Or.inl rfl)) (by intros; refine with_tkT (fun tk0 => ?_) takes0; exact dts_nil) (by intros; refine with_tk (fun tk0 => ?_) takes0; exact de_call IH.c_frozen hr' tk0 (by rfl) (da_cons (dv 1) (da_nil)))) (da_nil))))) (dss_nil)) (dss_one (ds_ret (dv 0)))
theorem ok_bound_name (T : Txt K w mg C) (IH : AllOk P w K mg base C n) (F : FnP K "bound_name" "bound_name" s_bound_name f fd) : FnOk P w K mg base (L2.CX P w) (2 * n + 2) f fd P_bound_name (spD K C P_bound_name.length (sem (n + 1) 1)) := by
  rw [sem_bound_name]
  refine fn_ok (k := 2 * n + 1) .pure F sc_bound_name fun cdv A outer s H E hr => ?_
  have hr' := hr.mono (show 2 * n ≤ 2 * n + 1 by omega)
  have hu := hr.units
  have tk : Takes (cxOf (L2.CX P w) P w K mg base N_bound_name "bound_name" (defScope s_bound_name) f cdv A outer s H E) (WS E) := takes_of rfl rfl rfl rfl
  unfold b_bound_name
  exact dss_cons (ds_if (dw_t (dw_or (dt_cmp (o_eq hu) (de_get i_get (dv 0) (de_int)) (de_str)) (dw_or1 (dt_cmp (o_eq hu) (de_get i_get (dv 0) (de_int)) (de_str))))) (dss_one (ds_ret (de_get i_get (dv 0) (de_int)))) (dss_nil)) (dss_cons (ds_if (dt_cmp (o_eq hu) (de_get i_get (dv 0) (de_int)) (de_str)) (dss_one (ds_ret (de_get i_get (dv 0) (de_int)))) (dss_nil)) (dss_one (ds_ret (de_non))))
theorem ok_with_name (T : Txt K w mg C) (IH : AllOk P w K mg base C n) (F : FnP K "with_name" "with_name" s_with_name f fd) : FnOk P w K mg base (L2.CX P w) (2 * n + 2) f fd P_with_name (spD K C P_with_name.length (sem (n + 1) 2)) := by
  rw [sem_with_name]
  refine fn_ok (k := 2 * n + 1) .pure F sc_with_name fun cdv A outer s H E hr => ?_
  have hr' := hr.mono (show 2 * n ≤ 2 * n + 1 by omega)
  have hu := hr.units
  have tk : Takes (cxOf (L2.CX P w) P w K mg base N_with_name "with_name" (defScope s_with_name) f cdv A outer s H E) (WS E) := takes_of rfl rfl rfl rfl
  unfold b_with_name
  exact dss_cons (ds_if (dt_cmp (o_eq hu) (de_call IH.c_bound_name hr' tk (by rfl) (da_cons (dv 0) (da_nil))) (dv 1)) (dss_one (ds_ret (dv 0))) (dss_nil)) (dss_cons (ds_set 3 sc_with_name.nd (de_tab (by rfl) T.t_ITEMS (de_get i_get (dv 0) (de_int)))) (dss_cons (ds_set 4 sc_with_name.nd (de_lst true (da_cons (de_get i_get (dv 0) (de_int)) (da_nil)))) (dss_cons (ds_for1 (passes_of rfl) rfl (by rfl) T.z_range (da_cons (de_callB c_len (by rfl) T.z_len bt_len (da_cons (dv 3) (da_nil))) (da_nil)) (dg_name 5 sc_with_name.nd) (dss_cons (ds_set 6 sc_with_name.nd (de_get i_get (dv 0) (de_op (o_add false) (dv 5) (de_int)))) (dss_cons (ds_if (dt_cmp (o_eq hu) (de_get i_get (dv 3) (dv 5)) (de_str)) (dss_one (ds_set 6 sc_with_name.nd (de_call IH.c_with_name hr' tk (by rfl) (da_cons (dv 6) (da_cons (dv 1) (da_cons (dv 2) (da_nil))))))) (dss_one (ds_if (dt_cmp (o_eq hu) (de_get i_get (dv 3) (dv 5)) (de_str)) (dss_one (ds_set 6 sc_with_name.nd (de_callT c_tup (by rfl) T.z_tuple bt_tuple (da_cons (de_comp false 7 rfl sc_with_name.nd (dv 6) (blkOk_by (N := N_with_name) (sc := defScope s_with_name) (own := [("part", 7)]) (by decide +kernel)) (fun _ _ _ _ _ => pg_name (i := 7) sc_with_name.nd rfl (Or.inl rfl)) (by intros; refine with_tkT (fun tk0 => ?_) takes0; exact dts_nil) (by intros; refine with_tk (fun tk0 => ?_) takes0; exact de_call IH.c_with_name hr' tk0 (by rfl) (da_cons (dv 7) (da_cons (dv 1) (da_cons (dv 2) (da_nil)))))) (da_nil))))) (dss_one (ds_if (dw_t (dw_and (dt_cmp o_in (de_get i_get (dv 3) (dv 5)) (de_str)) (dw_and1 (dt_cmp (o_eq hu) (dv 6) (dv 1))))) (dss_one (ds_set 6 sc_with_name.nd (dv 2))) (dss_nil)))))) (dss_one (ds_expr (de_bm PySem.F.slot_list_append PySem.F.type_list_append m_append (dv 4) (da_cons (dv 6) (da_nil)))))))) (dss_one (ds_ret (de_callT c_tup (by rfl) T.z_tuple bt_tuple (da_cons (dv 4) (da_nil))))))))
theorem ok_renamed_saying (T : Txt K w mg C) (IH : AllOk P w K mg base C n) (F : FnP K "renamed_saying" "renamed_saying" s_renamed_saying f fd) : FnOk P w K mg base (L2.CX P w) (2 * n + 2) f fd P_renamed_saying (spD K C P_renamed_saying.length (sem (n + 1) 3)) := by
  rw [sem_renamed_saying]
  refine fn_ok (k := 2 * n + 1) .pure F sc_renamed_saying fun cdv A outer s H E hr => ?_
  have hr' := hr.mono (show 2 * n ≤ 2 * n + 1 by omega)
  have hu := hr.units
  have tk : Takes (cxOf (L2.CX P w) P w K mg base N_renamed_saying "renamed_saying" (defScope s_renamed_saying) f cdv A outer s H E) (WS E) := takes_of rfl rfl rfl rfl
  unfold b_renamed_saying
  exact dss_one (ds_ret (de_call IH.c_with_name hr' tk (by rfl) (da_cons (de_call IH.c_frozen hr' tk (by rfl) (da_cons (dv 0) (da_nil))) (da_cons (dv 1) (da_cons (dv 2) (da_nil))))))
theorem ok_signing_sayings (T : Txt K w mg C) (IH : AllOk P w K mg base C n) (F : FnP K "signing_sayings" "signing_sayings" s_signing_sayings f fd) : FnOk P w K mg base (L2.CX P w) (2 * n + 2) f fd P_signing_sayings (spD K C P_signing_sayings.length (sem (n + 1) 4)) := by
  rw [sem_signing_sayings]
  refine fn_ok (k := 2 * n + 1) .pure F sc_signing_sayings fun cdv A outer s H E hr => ?_
  have hr' := hr.mono (show 2 * n ≤ 2 * n + 1 by omega)
  have hu := hr.units
  have tk : Takes (cxOf (L2.CX P w) P w K mg base N_signing_sayings "signing_sayings" (defScope s_signing_sayings) f cdv A outer s H E) (WS E) := takes_of rfl rfl rfl rfl
  unfold b_signing_sayings
  exact dss_cons (ds_set 0 sc_signing_sayings.nd (de_call IH.c_frozen hr' tk (by rfl) (da_cons (dv 0) (da_nil)))) (dss_cons (ds_set 1 sc_signing_sayings.nd (de_tup (da_cons (de_str) (da_cons (de_str) (da_cons (de_tup (da_cons (de_str) (da_cons (de_tup (da_cons (de_tup (da_cons (de_str) (da_cons (de_str) (da_cons (de_str) (da_nil))))) (da_cons (dv 0) (da_nil)))) (da_nil)))) (da_nil)))))) (dss_cons (ds_set 2 sc_signing_sayings.nd (de_tup (da_cons (de_str) (da_cons (de_str) (da_cons (de_tup (da_cons (de_str) (da_cons (de_tup (da_cons (de_tup (da_cons (de_str) (da_cons (de_tup (da_cons (de_str) (da_cons (de_str) (da_cons (de_str) (da_nil))))) (da_nil)))) (da_cons (dv 1) (da_nil)))) (da_nil)))) (da_nil)))))) (dss_one (ds_ret (de_tup (da_cons (de_tup (da_cons (de_str) (da_cons (de_tup (da_cons (de_str) (da_cons (de_str) (da_cons (dv 0) (da_nil))))) (da_nil)))) (da_cons (de_tup (da_cons (de_str) (da_cons (de_int) (da_cons (de_str) (da_cons (dv 0) (da_nil)))))) (da_cons (de_call IH.c_renamed_saying hr' tk (by rfl) (da_cons (dv 0) (da_cons (de_str) (da_cons (de_str) (da_nil))))) (da_cons (de_tup (da_cons (de_str) (da_cons (de_tup (da_cons (de_tup (da_cons (de_str) (da_cons (de_str) (da_cons (de_tup (da_cons (de_str) (da_cons (de_str) (da_cons (de_str) (da_nil))))) (da_nil))))) (da_cons (dv 2) (da_nil)))) (da_nil)))) (da_nil))))))))))
theorem ok__law_cell (T : Txt K w mg C) (IH : AllOk P w K mg base C n) (F : FnP K "_law_cell" "_law_cell" s__law_cell f fd) : FnOk P w K mg base (L2.CX P w) (2 * n + 2) f fd P__law_cell (spD K C P__law_cell.length (sem (n + 1) 5)) := by
  rw [sem__law_cell]
  refine fn_ok (k := 2 * n + 1) .pure F sc__law_cell fun cdv A outer s H E hr => ?_
  have hr' := hr.mono (show 2 * n ≤ 2 * n + 1 by omega)
  have hu := hr.units
  have tk : Takes (cxOf (L2.CX P w) P w K mg base N__law_cell "_law_cell" (defScope s__law_cell) f cdv A outer s H E) (WS E) := takes_of rfl rfl rfl rfl
  unfold b__law_cell
  exact dss_cons (ds_if (dt_cmp o_lt (dv 1) (de_callB c_len (by rfl) T.z_len bt_len (da_cons (dv 0) (da_nil)))) (dss_one (ds_ret (de_get i_get (dv 0) (dv 1)))) (dss_nil)) (dss_cons (ds_set 2 sc__law_cell.nd (de_int)) (dss_cons (ds_for (passes_of rfl) rfl (dv 0) (dg_name 3 sc__law_cell.nd) (dss_one (ds_set 2 sc__law_cell.nd (de_op (o_mod) (de_callT c_int (by rfl) T.z_int bt_int (da_cons (de_op (o_add false) (de_op (o_mul false) (dv 2) (de_int)) (de_op (o_mod) (de_callT c_int (by rfl) T.z_int bt_int (da_cons (dv 3) (da_nil))) (de_int))) (da_nil))) (de_int))))) (dss_one (ds_ret (de_op (o_mod) (de_callT c_int (by rfl) T.z_int bt_int (da_cons (de_op (o_mul false) (de_op (o_mul false) (de_op (o_add false) (dv 2) (de_int)) (de_op (o_add false) (dv 1) (de_int))) (de_int)) (da_nil))) (de_int))))))
theorem ok__law_digits (T : Txt K w mg C) (IH : AllOk P w K mg base C n) (F : FnP K "_law_digits" "_law_digits" s__law_digits f fd) : FnOk P w K mg base (L2.CX P w) (2 * n + 2) f fd P__law_digits (spD K C P__law_digits.length (sem (n + 1) 6)) := by
  rw [sem__law_digits]
  refine fn_ok (k := 2 * n + 1) .flat F sc__law_digits fun cdv A outer s H E hr => ?_
  have hr' := hr.mono (show 2 * n ≤ 2 * n + 1 by omega)
  have hu := hr.units
  have tk : Takes (cxOf (L2.CX P w) P w K mg base N__law_digits "_law_digits" (defScope s__law_digits) f cdv A outer s H E) (WS E) := takes_of rfl rfl rfl rfl
  unfold b__law_digits
  exact dss_cons (ds_set 2 sc__law_digits.nd (de_lst true (da_nil))) (dss_cons (ds_set 3 sc__law_digits.nd (de_callT c_int (by rfl) T.z_int bt_int (da_cons (dv 0) (da_nil)))) (dss_cons (ds_if (dt_cmp o_ge (dv 3) (de_op (o_pow) (de_int) (de_int))) (dss_cons (ds_set 3 sc__law_digits.nd (de_op (o_mod) (de_callT c_int (by rfl) T.z_int bt_int (da_cons (de_op (o_sub) (dv 3) (de_op (o_pow) (de_int) (de_int))) (da_nil))) (de_op (o_mul false) (de_op (o_mul false) (de_op (o_pow) (de_int) (de_int)) (de_op (o_pow) (de_int) (de_int))) (de_op (o_pow) (de_int) (de_int))))) (dss_cons (ds_for (passes_of rfl) rfl (dv 1) (dg_name 6 sc__law_digits.nd) (dss_cons (ds_expr (de_bm PySem.F.slot_list_append PySem.F.type_list_append m_append (dv 2) (da_cons (de_op (o_mod) (de_callT c_int (by rfl) T.z_int bt_int (da_cons (dv 3) (da_nil))) (dv 6)) (da_nil)))) (dss_one (ds_set 3 sc__law_digits.nd (de_op (o_div) (de_callT c_int (by rfl) T.z_int bt_int (da_cons (dv 3) (da_nil))) (dv 6)))))) (dss_one (ds_ret (dv 2))))) (dss_nil)) (dss_cons (ds_set 4 sc__law_digits.nd (de_op (o_mod) (de_callT c_int (by rfl) T.z_int bt_int (da_cons (dv 3) (da_nil))) (de_int))) (dss_cons (ds_for1 (passes_of rfl) rfl (by rfl) T.z_range (da_cons (de_callB c_len (by rfl) T.z_len bt_len (da_cons (dv 1) (da_nil))) (da_nil)) (dg_name 5 sc__law_digits.nd) (dss_cons (ds_set 4 sc__law_digits.nd (de_op (o_mod) (de_callT c_int (by rfl) T.z_int bt_int (da_cons (de_op (o_add false) (de_op (o_add false) (de_op (o_mul false) (dv 4) (de_int)) (de_op (o_mul false) (de_int) (dv 5))) (de_int)) (da_nil))) (de_int))) (dss_cons (ds_set 7 sc__law_digits.nd (de_op (o_mod) (de_callT c_int (by rfl) T.z_int bt_int (da_cons (de_op (o_mul false) (dv 4) (de_op (o_add false) (de_op (o_div) (dv 4) (de_int)) (de_int))) (da_nil))) (de_int))) (dss_one (ds_expr (de_bm PySem.F.slot_list_append PySem.F.type_list_append m_append (dv 2) (da_cons (de_op (o_mod) (de_op (o_div) (dv 7) (de_int)) (de_get i_get (dv 1) (dv 5))) (da_nil)))))))) (dss_one (ds_ret (dv 2)))))))
theorem ok__law_same (T : Txt K w mg C) (IH : AllOk P w K mg base C n) (F : FnP K "_law_same" "_law_same" s__law_same f fd) : FnOk P w K mg base (L2.CX P w) (2 * n + 2) f fd P__law_same (spD K C P__law_same.length (sem (n + 1) 7)) := by
  rw [sem__law_same]
  refine fn_ok (k := 2 * n + 1) .pure F sc__law_same fun cdv A outer s H E hr => ?_
  have hr' := hr.mono (show 2 * n ≤ 2 * n + 1 by omega)
  have hu := hr.units
  have tk : Takes (cxOf (L2.CX P w) P w K mg base N__law_same "_law_same" (defScope s__law_same) f cdv A outer s H E) (WS E) := takes_of rfl rfl rfl rfl
  unfold b__law_same
  exact dss_cons (ds_if (dw_t (dw_or (dt_cmp o_is (dv 0) (de_non)) (dw_or1 (dt_cmp o_is (dv 1) (de_non))))) (dss_one (ds_ret (de_and (de_cmp o_is (dv 0) (de_non)) (de_one (de_cmp o_is (dv 1) (de_non)))))) (dss_nil)) (dss_cons (ds_if (dw_t (dw_or (dt_val (de_isi .bl (by decide) (by rfl) T.z_isinstance (by rfl) T.z_bool bt_bool (ha := dv 0))) (dw_or1 (dt_val (de_isi .bl (by decide) (by rfl) T.z_isinstance (by rfl) T.z_bool bt_bool (ha := dv 1)))))) (dss_one (ds_ret (de_and (de_isi .bl (by decide) (by rfl) T.z_isinstance (by rfl) T.z_bool bt_bool (ha := dv 0)) (de_and (de_isi .bl (by decide) (by rfl) T.z_isinstance (by rfl) T.z_bool bt_bool (ha := dv 1)) (de_one (de_cmp (o_eq hu) (dv 0) (dv 1))))))) (dss_nil)) (dss_one (ds_ret (de_and (de_cmp (o_eq hu) (de_isi .int (by decide) (by rfl) T.z_isinstance (by rfl) T.z_int bt_int (ha := dv 0)) (de_isi .int (by decide) (by rfl) T.z_isinstance (by rfl) T.z_int bt_int (ha := dv 1))) (de_and (de_cmp (o_eq hu) (de_isi .str (by decide) (by rfl) T.z_isinstance (by rfl) T.z_str bt_str (ha := dv 0)) (de_isi .str (by decide) (by rfl) T.z_isinstance (by rfl) T.z_str bt_str (ha := dv 1))) (de_one (de_cmp (o_eq hu) (dv 0) (dv 1))))))))
theorem ok__law_take (T : Txt K w mg C) (IH : AllOk P w K mg base C n) (F : FnP K "_law_take" "_law_take" s__law_take f fd) : FnOk P w K mg base (L2.CX P w) (2 * n + 2) f fd P__law_take (spD K C P__law_take.length (sem (n + 1) 8)) := by
  rw [sem__law_take]
  refine fn_ok (k := 2 * n + 1) .pure F sc__law_take fun cdv A outer s H E hr => ?_
  have hr' := hr.mono (show 2 * n ≤ 2 * n + 1 by omega)
  have hu := hr.units
  have tk : Takes (cxOf (L2.CX P w) P w K mg base N__law_take "_law_take" (defScope s__law_take) f cdv A outer s H E) (WS E) := takes_of rfl rfl rfl rfl
  unfold b__law_take
  exact dss_cons (ds_if (dt_cmp (o_eq hu) (de_callB c_len (by rfl) T.z_len bt_len (da_cons (dv 0) (da_nil))) (de_int)) (dss_one (ds_ret (de_int))) (dss_nil)) (dss_one (ds_ret (de_op (o_mod) (de_callT c_int (by rfl) T.z_int bt_int (da_cons (de_bm PySem.F.slot_list_pop PySem.F.type_list_pop m_popAt (dv 0) (da_cons (de_int) (da_nil))) (da_nil))) (dv 1))))
theorem ok__law_atom (T : Txt K w mg C) (IH : AllOk P w K mg base C n) (F : FnP K "_law_atom" "_law_atom" s__law_atom f fd) : FnOk P w K mg base (L2.CX P w) (2 * n + 2) f fd P__law_atom (spD K C P__law_atom.length (sem (n + 1) 9)) := by
  rw [sem__law_atom]
  refine fn_ok (k := 2 * n + 1) .pure F sc__law_atom fun cdv A outer s H E hr => ?_
  have hr' := hr.mono (show 2 * n ≤ 2 * n + 1 by omega)
  have hu := hr.units
  have tk : Takes (cxOf (L2.CX P w) P w K mg base N__law_atom "_law_atom" (defScope s__law_atom) f cdv A outer s H E) (WS E) := takes_of rfl rfl rfl rfl
  unfold b__law_atom
  exact dss_cons (ds_set 3 sc__law_atom.nd (de_get i_get (dv 1) (de_call IH.c__law_take hr' tk (by rfl) (da_cons (dv 0) (da_cons (de_callB c_len (by rfl) T.z_len bt_len (da_cons (dv 1) (da_nil))) (da_nil)))))) (dss_cons (ds_set 4 sc__law_atom.nd (de_get i_get (dv 1) (de_call IH.c__law_take hr' tk (by rfl) (da_cons (dv 0) (da_cons (de_callB c_len (by rfl) T.z_len bt_len (da_cons (dv 1) (da_nil))) (da_nil)))))) (dss_cons (ds_set 5 sc__law_atom.nd (de_call IH.c__law_take hr' tk (by rfl) (da_cons (dv 0) (da_cons (de_int) (da_nil))))) (dss_cons (ds_set 6 sc__law_atom.nd (de_get i_get (de_lst false (da_cons (de_call IH.c__law_take hr' tk (by rfl) (da_cons (dv 0) (da_cons (de_int) (da_nil)))) (da_cons (de_call IH.c__law_take hr' tk (by rfl) (da_cons (dv 0) (da_cons (de_int) (da_nil)))) (da_cons (de_int) (da_cons (de_int) (da_nil)))))) (de_call IH.c__law_take hr' tk (by rfl) (da_cons (dv 0) (da_cons (de_int) (da_nil)))))) (dss_cons (ds_set 7 sc__law_atom.nd (de_lst false (da_cons (de_tup (da_cons (de_str) (da_cons (dv 3) (da_cons (dv 4) (da_nil))))) (da_cons (de_tup (da_cons (de_str) (da_cons (dv 3) (da_cons (dv 4) (da_cons (dv 6) (da_nil)))))) (da_cons (de_tup (da_cons (de_str) (da_cons (dv 3) (da_cons (dv 4) (da_nil))))) (da_cons (de_tup (da_cons (de_str) (da_cons (dv 3) (da_cons (dv 4) (da_nil))))) (da_cons (de_tup (da_cons (de_str) (da_cons (dv 3) (da_cons (dv 6) (da_nil))))) (da_nil)))))))) (dss_cons (ds_set 7 sc__law_atom.nd (de_op (o_add false) (dv 7) (de_lst false (da_cons (de_tup (da_cons (de_str) (da_cons (dv 4) (da_cons (dv 6) (da_nil))))) (da_cons (de_tup (da_cons (de_str) (da_nil))) (da_cons (de_tup (da_cons (de_str) (da_nil))) (da_cons (de_tup (da_cons (de_str) (da_cons (dv 4) (da_cons (dv 3) (da_nil))))) (da_nil)))))))) (dss_cons (ds_if (dw_t (dw_and (dt_cmp o_ge (dv 5) (de_int)) (dw_and1 (dt_cmp o_gt (de_callB c_len (by rfl) T.z_len bt_len (da_cons (dv 2) (da_nil))) (de_int))))) (dss_one (ds_ret (de_tup (da_cons (de_str) (da_cons (dv 3) (da_cons (de_get i_get (dv 2) (de_call IH.c__law_take hr' tk (by rfl) (da_cons (dv 0) (da_cons (de_callB c_len (by rfl) T.z_len bt_len (da_cons (dv 2) (da_nil))) (da_nil))))) (da_nil))))))) (dss_nil)) (dss_one (ds_ret (de_get i_get (dv 7) (dv 5))))))))))
theorem ok__law_rule (T : Txt K w mg C) (IH : AllOk P w K mg base C n) (F : FnP K "_law_rule" "_law_rule" s__law_rule f fd) : FnOk P w K mg base (L2.CX P w) (2 * n + 2) f fd P__law_rule (spD K C P__law_rule.length (sem (n + 1) 10)) := by
  rw [sem__law_rule]
  refine fn_ok (k := 2 * n + 1) .pure F sc__law_rule fun cdv A outer s H E hr => ?_
  have hr' := hr.mono (show 2 * n ≤ 2 * n + 1 by omega)
  have hu := hr.units
  have tk : Takes (cxOf (L2.CX P w) P w K mg base N__law_rule "_law_rule" (defScope s__law_rule) f cdv A outer s H E) (WS E) := takes_of rfl rfl rfl rfl
  unfold b__law_rule
  exact dss_cons (ds_set 4 sc__law_rule.nd (de_call IH.c__law_take hr' tk (by rfl) (da_cons (dv 0) (da_cons (de_int) (da_nil))))) (dss_cons (ds_if (dw_t (dw_and (dt_cmp (o_eq hu) (dv 1) (de_int)) (dw_and1 (dt_cmp o_lt (dv 4) (de_int))))) (dss_one (ds_set 4 sc__law_rule.nd (de_op (o_add false) (de_int) (de_op (o_mod) (dv 4) (de_int))))) (dss_nil)) (dss_cons (ds_if (dw_t (dw_or (dt_cmp (o_eq hu) (dv 1) (de_int)) (dw_or1 (dt_cmp o_lt (dv 4) (de_int))))) (dss_one (ds_ret (de_call IH.c__law_atom hr' tk (by rfl) (da_cons (dv 0) (da_cons (dv 2) (da_cons (dv 3) (da_nil))))))) (dss_nil)) (dss_cons (ds_if (dt_cmp (o_eq hu) (dv 4) (de_int)) (dss_one (ds_ret (de_tup (da_cons (de_str) (da_cons (de_call IH.c__law_rule hr' tk (by rfl) (da_cons (dv 0) (da_cons (de_op (o_sub) (dv 1) (de_int)) (da_cons (dv 2) (da_cons (dv 3) (da_nil)))))) (da_nil)))))) (dss_nil)) (dss_cons (ds_if (dt_cmp o_lt (dv 4) (de_int)) (dss_cons (ds_compR1 false 7 8 rfl sc__law_rule.nd (by rfl) T.z_range (da_cons (de_op (o_add false) (de_int) (de_call IH.c__law_take hr' tk (by rfl) (da_cons (dv 0) (da_cons (de_int) (da_nil))))) (da_nil)) (blkOk_by (N := N__law_rule) (sc := defScope s__law_rule) (own := [("k", 8)]) (by decide +kernel)) (fun _ _ _ _ _ => pg_name (i := 8) sc__law_rule.nd rfl (Or.inl rfl)) (by intros; refine with_tkT (fun tk0 => ?_) takes0; exact dts_nil) (by intros; refine with_tk (fun tk0 => ?_) takes0; exact de_call IH.c__law_rule hr' tk0 (by rfl) (da_cons (dv 0) (da_cons (de_op (o_sub) (dv 1) (de_int)) (da_cons (dv 2) (da_cons (dv 3) (da_nil))))))) (dss_one (ds_ret (de_tup (da_cons (de_get i_get (de_lst false (da_cons (de_str) (da_cons (de_str) (da_nil)))) (de_op (o_mod) (dv 4) (de_int))) (da_cons (de_callT c_tup (by rfl) T.z_tuple bt_tuple (da_cons (dv 7) (da_nil))) (da_nil))))))) (dss_nil)) (dss_cons (ds_set 5 sc__law_rule.nd (de_get i_get (de_lst false (da_cons (de_str) (da_cons (de_str) (da_cons (de_str) (da_cons (de_str) (da_cons (de_str) (da_cons (de_str) (da_nil)))))))) (dv 1))) (dss_cons (ds_set 6 sc__law_rule.nd (de_get i_get (de_lst false (da_cons (de_str) (da_cons (de_str) (da_cons (de_str) (da_cons (de_str) (da_cons (de_str) (da_cons (de_str) (da_nil)))))))) (dv 1))) (dss_cons (ds_if (dt_cmp o_lt (dv 4) (de_int)) (dss_one (ds_ret (de_tup (da_cons (de_get i_get (de_lst false (da_cons (de_str) (da_cons (de_str) (da_nil)))) (de_op (o_mod) (dv 4) (de_int))) (da_cons (dv 5) (da_cons (de_call IH.c__law_rule hr' tk (by rfl) (da_cons (dv 0) (da_cons (de_op (o_sub) (dv 1) (de_int)) (da_cons (de_op (o_add false) (dv 2) (de_lst false (da_cons (dv 5) (da_nil)))) (da_cons (dv 3) (da_nil)))))) (da_nil))))))) (dss_nil)) (dss_cons (ds_if (dt_cmp (o_eq hu) (dv 4) (de_int)) (dss_one (ds_ret (de_tup (da_cons (de_str) (da_cons (de_op (o_add false) (de_int) (de_call IH.c__law_take hr' tk (by rfl) (da_cons (dv 0) (da_cons (de_int) (da_nil))))) (da_cons (dv 5) (da_cons (de_call IH.c__law_rule hr' tk (by rfl) (da_cons (dv 0) (da_cons (de_op (o_sub) (dv 1) (de_int)) (da_cons (de_op (o_add false) (dv 2) (de_lst false (da_cons (dv 5) (da_nil)))) (da_cons (dv 3) (da_nil)))))) (da_nil)))))))) (dss_nil)) (dss_one (ds_ret (de_tup (da_cons (de_get i_get (de_lst false (da_cons (de_str) (da_cons (de_str) (da_nil)))) (de_op (o_mod) (dv 4) (de_int))) (da_cons (dv 6) (da_cons (de_call IH.c__law_rule hr' tk (by rfl) (da_cons (dv 0) (da_cons (de_op (o_sub) (dv 1) (de_int)) (da_cons (dv 2) (da_cons (de_op (o_add false) (dv 3) (de_lst false (da_cons (dv 6) (da_nil)))) (da_nil)))))) (da_nil)))))))))))))))
theorem ok__law_listed (T : Txt K w mg C) (IH : AllOk P w K mg base C n) (F : FnP K "_law_listed" "_law_listed" s__law_listed f fd) : FnOk P w K mg base (L2.CX P w) (2 * n + 2) f fd P__law_listed (spD K C P__law_listed.length (sem (n + 1) 11)) := by
  rw [sem__law_listed]
  refine fn_ok (k := 2 * n + 1) .pure F sc__law_listed fun cdv A outer s H E hr => ?_
  have hr' := hr.mono (show 2 * n ≤ 2 * n + 1 by omega)
  have hu := hr.units
  have tk : Takes (cxOf (L2.CX P w) P w K mg base N__law_listed "_law_listed" (defScope s__law_listed) f cdv A outer s H E) (WS E) := takes_of rfl rfl rfl rfl
  unfold b__law_listed
  exact dss_cons (ds_if (dt_val (de_isi .tup (by decide) (by rfl) T.z_isinstance (by rfl) T.z_tuple bt_tuple (ha := dv 0))) (dss_one (ds_ret (de_comp false 1 rfl sc__law_listed.nd (dv 0) (blkOk_by (N := N__law_listed) (sc := defScope s__law_listed) (own := [("part", 1)]) (by decide +kernel)) (fun _ _ _ _ _ => pg_name (i := 1) sc__law_listed.nd rfl (Or.inl rfl)) (by intros; refine with_tkT (fun tk0 => ?_) takes0; exact dts_nil) (by intros; refine with_tk (fun tk0 => ?_) takes0; exact de_call IH.c__law_listed hr' tk0 (by rfl) (da_cons (dv 1) (da_nil)))))) (dss_nil)) (dss_one (ds_ret (dv 0)))
theorem ok__law_turned (T : Txt K w mg C) (IH : AllOk P w K mg base C n) (F : FnP K "_law_turned" "_law_turned" s__law_turned f fd) : FnOk P w K mg base (L2.CX P w) (2 * n + 2) f fd P__law_turned (spD K C P__law_turned.length (sem (n + 1) 12)) := by
  rw [sem__law_turned]
  refine fn_ok (k := 2 * n + 1) .pure F sc__law_turned fun cdv A outer s H E hr => ?_
  have hr' := hr.mono (show 2 * n ≤ 2 * n + 1 by omega)
  have hu := hr.units
  have tk : Takes (cxOf (L2.CX P w) P w K mg base N__law_turned "_law_turned" (defScope s__law_turned) f cdv A outer s H E) (WS E) := takes_of rfl rfl rfl rfl
  unfold b__law_turned
  exact dss_cons (ds_set 1 sc__law_turned.nd (de_get i_get (dv 0) (de_int))) (dss_cons (ds_if (dt_cmp (o_eq hu) (dv 1) (de_str)) (dss_one (ds_ret (de_tup (da_cons (de_str) (da_cons (de_call IH.c__law_turned hr' tk (by rfl) (da_cons (de_get i_get (dv 0) (de_int)) (da_nil))) (da_nil)))))) (dss_nil)) (dss_cons (ds_if (dw_t (dw_or (dt_cmp (o_eq hu) (dv 1) (de_str)) (dw_or1 (dt_cmp (o_eq hu) (dv 1) (de_str))))) (dss_one (ds_ret (de_tup (da_cons (dv 1) (da_cons (de_callT c_tup (by rfl) T.z_tuple bt_tuple (da_cons (de_comp false 4 rfl sc__law_turned.nd (de_get i_get (dv 0) (de_int)) (blkOk_by (N := N__law_turned) (sc := defScope s__law_turned) (own := [("part", 4)]) (by decide +kernel)) (fun _ _ _ _ _ => pg_name (i := 4) sc__law_turned.nd rfl (Or.inl rfl)) (by intros; refine with_tkT (fun tk0 => ?_) takes0; exact dts_nil) (by intros; refine with_tk (fun tk0 => ?_) takes0; exact de_call IH.c__law_turned hr' tk0 (by rfl) (da_cons (dv 4) (da_nil)))) (da_nil))) (da_nil)))))) (dss_nil)) (dss_cons (ds_if (dw_t (dw_or (dt_cmp (o_eq hu) (dv 1) (de_str)) (dw_or1 (dt_cmp (o_eq hu) (dv 1) (de_str))))) (dss_one (ds_ret (de_tup (da_cons (dv 1) (da_cons (de_get i_get (dv 0) (de_int)) (da_cons (de_call IH.c__law_turned hr' tk (by rfl) (da_cons (de_get i_get (dv 0) (de_int)) (da_nil))) (da_nil))))))) (dss_nil)) (dss_cons (ds_if (dt_cmp (o_eq hu) (dv 1) (de_str)) (dss_one (ds_ret (de_tup (da_cons (dv 1) (da_cons (de_get i_get (dv 0) (de_int)) (da_cons (de_get i_get (dv 0) (de_int)) (da_cons (de_call IH.c__law_turned hr' tk (by rfl) (da_cons (de_get i_get (dv 0) (de_int)) (da_nil))) (da_nil)))))))) (dss_nil)) (dss_cons (ds_set 2 sc__law_turned.nd (de_lst true (da_nil))) (dss_cons (ds_for (passes_of rfl) rfl (dv 0) (dg_name 3 sc__law_turned.nd) (dss_one (ds_if (dt_cmp (o_eq hu) (dv 3) (de_str)) (dss_one (ds_expr (de_bm PySem.F.slot_list_append PySem.F.type_list_append m_append (dv 2) (da_cons (de_str) (da_nil))))) (dss_one (ds_expr (de_bm PySem.F.slot_list_append PySem.F.type_list_append m_append (dv 2) (da_cons (dv 3) (da_nil)))))))) (dss_one (ds_ret (de_callT c_tup (by rfl) T.z_tuple bt_tuple (da_cons (dv 2) (da_nil)))))))))))
theorem ok__law_faults (T : Txt K w mg C) (IH : AllOk P w K mg base C n) (F : FnP K "_law_faults" "_law_faults" s__law_faults f fd) : FnOk P w K mg base (L2.CX P w) (2 * n + 2) f fd P__law_faults (spD K C P__law_faults.length (sem (n + 1) 13)) := by
  rw [sem__law_faults]
  refine fn_ok (k := 2 * n + 1) .pure F sc__law_faults fun cdv A outer s H E hr => ?_
  have hr' := hr.mono (show 2 * n ≤ 2 * n + 1 by omega)
  have hu := hr.units
  have tk : Takes (cxOf (L2.CX P w) P w K mg base N__law_faults "_law_faults" (defScope s__law_faults) f cdv A outer s H E) (WS E) := takes_of rfl rfl rfl rfl
  unfold b__law_faults
  exact dss_cons (ds_set 1 sc__law_faults.nd (de_tup (da_cons (de_str) (da_cons (de_str) (da_cons (de_tup (da_cons (de_str) (da_cons (de_tup (da_cons (de_tup (da_cons (de_str) (da_cons (de_str) (da_cons (de_str) (da_nil))))) (da_cons (dv 0) (da_nil)))) (da_nil)))) (da_nil)))))) (dss_cons (ds_set 2 sc__law_faults.nd (de_tup (da_cons (de_str) (da_cons (de_str) (da_cons (de_tup (da_cons (de_str) (da_cons (de_tup (da_cons (de_tup (da_cons (de_str) (da_cons (de_tup (da_cons (de_str) (da_cons (de_str) (da_cons (de_str) (da_nil))))) (da_nil)))) (da_cons (dv 1) (da_nil)))) (da_nil)))) (da_nil)))))) (dss_cons (ds_set 3 sc__law_faults.nd (de_tup (da_cons (de_str) (da_cons (de_tup (da_cons (de_tup (da_cons (de_str) (da_cons (de_str) (da_cons (de_tup (da_cons (de_str) (da_cons (de_str) (da_cons (de_str) (da_nil))))) (da_nil))))) (da_cons (dv 2) (da_nil)))) (da_nil))))) (dss_one (ds_ret (de_tup (da_cons (de_tup (da_cons (de_str) (da_cons (de_tup (da_cons (de_str) (da_cons (de_str) (da_cons (dv 0) (da_nil))))) (da_nil)))) (da_cons (de_tup (da_cons (de_str) (da_cons (de_int) (da_cons (de_str) (da_cons (dv 0) (da_nil)))))) (da_cons (de_call IH.c__law_turned hr' tk (by rfl) (da_cons (dv 0) (da_nil))) (da_cons (dv 3) (da_nil))))))))))
theorem ok__law_very (T : Txt K w mg C) (IH : AllOk P w K mg base C n) (F : FnP K "_law_very" "_law_very" s__law_very f fd) : FnOk P w K mg base (L2.CX P w) (2 * n + 2) f fd P__law_very (spD K C P__law_very.length (sem (n + 1) 14)) := by
  rw [sem__law_very]
  refine fn_ok (k := 2 * n + 1) .pure F sc__law_very fun cdv A outer s H E hr => ?_
  have hr' := hr.mono (show 2 * n ≤ 2 * n + 1 by omega)
  have hu := hr.units
  have tk : Takes (cxOf (L2.CX P w) P w K mg base N__law_very "_law_very" (defScope s__law_very) f cdv A outer s H E) (WS E) := takes_of rfl rfl rfl rfl
  unfold b__law_very
  exact dss_cons (ds_if (dt_val (de_isi .tup (by decide) (by rfl) T.z_isinstance (by rfl) T.z_tuple bt_tuple (ha := dv 1))) (dss_cons (ds_if (dw_t (dw_or (dt_not (dt_val (de_isi .tup (by decide) (by rfl) T.z_isinstance (by rfl) T.z_tuple bt_tuple (ha := dv 0)))) (dw_or1 (dt_cmp (o_ne hu) (de_callB c_len (by rfl) T.z_len bt_len (da_cons (dv 0) (da_nil))) (de_callB c_len (by rfl) T.z_len bt_len (da_cons (dv 1) (da_nil))))))) (dss_one (ds_ret (de_bl))) (dss_nil)) (dss_cons (ds_for1 (passes_of rfl) rfl (by rfl) T.z_range (da_cons (de_callB c_len (by rfl) T.z_len bt_len (da_cons (dv 1) (da_nil))) (da_nil)) (dg_name 2 sc__law_very.nd) (dss_one (ds_if (dt_not (dt_val (de_call IH.c__law_very hr' tk (by rfl) (da_cons (de_get i_get (dv 0) (dv 2)) (da_cons (de_get i_get (dv 1) (dv 2)) (da_nil)))))) (dss_one (ds_ret (de_bl))) (dss_nil)))) (dss_one (ds_ret (de_bl))))) (dss_nil)) (dss_one (ds_ret (de_and (de_not (de_isi .tup (by decide) (by rfl) T.z_isinstance (by rfl) T.z_tuple bt_tuple (ha := dv 0))) (de_and (de_not (de_isi .lst (by decide) (by rfl) T.z_isinstance (by rfl) T.z_list bt_list (ha := dv 0))) (de_one (de_call IH.c__law_same hr' tk (by rfl) (da_cons (dv 0) (da_cons (dv 1) (da_nil)))))))))
theorem ok_law (T : Txt K w mg C) (IH : AllOk P w K mg base C n) (F : FnP K "law" "law" s_law f fd) : FnOk P w K mg base (L2.CX P w) (2 * n + 2) f fd P_law (spD K C P_law.length (sem (n + 1) 15)) := by
  rw [sem_law]
  refine fn_ok (k := 2 * n + 1) .pure F sc_law fun cdv A outer s H E hr => ?_
  have hr' := hr.mono (show 2 * n ≤ 2 * n + 1 by omega)
  have hu := hr.units
  have tk : Takes (cxOf (L2.CX P w) P w K mg base N_law "law" (defScope s_law) f cdv A outer s H E) (WS E) := takes_of rfl rfl rfl rfl
  unfold b_law
  exact dss_cons (ds_set 1 sc_law.nd (de_call IH.c__law_digits hr' tk (by rfl) (da_cons (de_call IH.c__law_cell hr' tk (by rfl) (da_cons (dv 0) (da_cons (de_int) (da_nil)))) (da_cons (de_lst false (da_cons (de_int) (da_cons (de_int) (da_cons (de_int) (da_cons (de_int) (da_cons (de_int) (da_nil))))))) (da_nil))))) (dss_cons (ds_set 2 sc_law.nd (de_op (o_add true) (de_call IH.c__law_digits hr' tk (by rfl) (da_cons (de_call IH.c__law_cell hr' tk (by rfl) (da_cons (dv 0) (da_cons (de_int) (da_nil)))) (da_cons (de_op (o_mul false) (de_lst false (da_cons (de_int) (da_nil))) (de_int)) (da_nil)))) (de_call IH.c__law_digits hr' tk (by rfl) (da_cons (de_call IH.c__law_cell hr' tk (by rfl) (da_cons (dv 0) (da_cons (de_int) (da_nil)))) (da_cons (de_op (o_mul false) (de_lst false (da_cons (de_int) (da_nil))) (de_int)) (da_nil)))))) (dss_cons (ds_set 3 sc_law.nd (de_call IH.c__law_rule hr' tk (by rfl) (da_cons (dv 2) (da_cons (de_int) (da_cons (de_lst false (da_cons (de_str) (da_cons (de_str) (da_nil)))) (da_cons (de_lst false (da_nil)) (da_nil))))))) (dss_cons (ds_if (dt_cmp (o_eq hu) (de_get i_get (dv 1) (de_int)) (de_int)) (dss_cons (ds_set 6 sc_law.nd (de_call IH.c__law_digits hr' tk (by rfl) (da_cons (de_call IH.c__law_cell hr' tk (by rfl) (da_cons (dv 0) (da_cons (de_int) (da_nil)))) (da_cons (de_op (o_mul false) (de_lst false (da_cons (de_int) (da_nil))) (de_int)) (da_nil))))) (dss_one (ds_set 3 sc_law.nd (de_tup (da_cons (de_get i_get (de_lst false (da_cons (de_str) (da_cons (de_str) (da_nil)))) (de_get i_get (dv 1) (de_int))) (da_cons (de_callT c_tup (by rfl) T.z_tuple bt_tuple (da_cons (de_compR1 false 7 rfl sc_law.nd (by rfl) T.z_range (da_cons (de_op (o_add false) (de_int) (de_get i_get (dv 1) (de_int))) (da_nil)) (blkOk_by (N := N_law) (sc := defScope s_law) (own := [("k", 7)]) (by decide +kernel)) (fun _ _ _ _ _ => pg_name (i := 7) sc_law.nd rfl (Or.inl rfl)) (by intros; refine with_tkT (fun tk0 => ?_) takes0; exact dts_nil) (by intros; refine with_tk (fun tk0 => ?_) takes0; exact de_call IH.c__law_atom hr' tk0 (by rfl) (da_cons (dv 6) (da_cons (de_lst false (da_cons (de_str) (da_cons (de_str) (da_nil)))) (da_cons (de_lst false (da_nil)) (da_nil)))))) (da_nil))) (da_nil))))))) (dss_nil)) (dss_cons (ds_if (dt_cmp (o_eq hu) (de_get i_get (dv 1) (de_int)) (de_int)) (dss_one (ds_for1 (passes_of rfl) rfl (by rfl) T.z_range (da_cons (de_get i_get (dv 1) (de_int)) (da_nil)) (dg_name 7 sc_law.nd) (dss_one (ds_set 3 sc_law.nd (de_tup (da_cons (de_str) (da_cons (dv 3) (da_nil)))))))) (dss_nil)) (dss_cons (ds_set 4 sc_law.nd (de_call IH.c__law_rule hr' tk (by rfl) (da_cons (de_call IH.c__law_digits hr' tk (by rfl) (da_cons (de_call IH.c__law_cell hr' tk (by rfl) (da_cons (dv 0) (da_cons (de_int) (da_nil)))) (da_cons (de_op (o_mul false) (de_lst false (da_cons (de_int) (da_nil))) (de_int)) (da_nil)))) (da_cons (de_int) (da_cons (de_lst false (da_cons (de_str) (da_cons (de_str) (da_nil)))) (da_cons (de_lst false (da_nil)) (da_nil))))))) (dss_cons (ds_for (passes_of rfl) rfl (de_lst false (da_cons (dv 3) (da_cons (dv 4) (da_cons (de_tup (da_cons (de_str) (da_cons (de_str) (da_cons (de_str) (da_nil))))) (da_cons (de_tup (da_cons (de_str) (da_nil))) (da_cons (de_tup (da_cons (de_str) (da_nil))) (da_cons (dv 3) (da_nil)))))))) (dg_name 5 sc_law.nd) (dss_cons (ds_set 8 sc_law.nd (dv 5)) (dss_cons (ds_if (dt_cmp (o_eq hu) (de_get i_get (dv 1) (de_int)) (de_int)) (dss_one (ds_set 8 sc_law.nd (de_call IH.c__law_listed hr' tk (by rfl) (da_cons (dv 5) (da_nil))))) (dss_nil)) (dss_cons (ds_set 9 sc_law.nd (de_call IH.c_signing_sayings hr' tk (by rfl) (da_cons (dv 8) (da_nil)))) (dss_cons (ds_if (dt_not (dt_val (de_call IH.c__law_very hr' tk (by rfl) (da_cons (dv 9) (da_cons (de_call IH.c__law_faults hr' tk (by rfl) (da_cons (dv 5) (da_nil))) (da_nil)))))) (dss_one (ds_ret (de_bl))) (dss_nil)) (dss_one (ds_if (dw_t (dw_and (dt_cmp (o_eq hu) (de_get i_get (dv 1) (de_int)) (de_int)) (dw_and1 (dt_cmp (o_ne hu) (dv 8) (de_call IH.c__law_listed hr' tk (by rfl) (da_cons (dv 5) (da_nil))))))) (dss_one (ds_ret (de_bl))) (dss_nil)))))))) (dss_one (ds_ret (de_bl)))))))))
end
section
variable {P : Program} {w : World} {K : PySem.W.Frag} {mg : Str → Option Value} {base : Heap} {C : DC}
theorem all_ok {fd_frozen fd_bound_name fd_with_name fd_renamed_saying fd_signing_sayings fd__law_cell fd__law_digits fd__law_same fd__law_take fd__law_atom fd__law_rule fd__law_listed fd__law_turned fd__law_faults fd__law_very fd_law : FuncData} (T : Txt K w mg C)
    (F_frozen : FnP K "frozen" "frozen" s_frozen (He.fAd K ("frozen", none)) fd_frozen)
    (g_frozen : mg "frozen" = some (.ref (He.ga K "frozen")))
    (F_bound_name : FnP K "bound_name" "bound_name" s_bound_name (He.fAd K ("bound_name", none)) fd_bound_name)
    (g_bound_name : mg "bound_name" = some (.ref (He.ga K "bound_name")))
    (F_with_name : FnP K "with_name" "with_name" s_with_name (He.fAd K ("with_name", none)) fd_with_name)
    (g_with_name : mg "with_name" = some (.ref (He.ga K "with_name")))
    (F_renamed_saying : FnP K "renamed_saying" "renamed_saying" s_renamed_saying (He.fAd K ("renamed_saying", none)) fd_renamed_saying)
    (g_renamed_saying : mg "renamed_saying" = some (.ref (He.ga K "renamed_saying")))
    (F_signing_sayings : FnP K "signing_sayings" "signing_sayings" s_signing_sayings (He.fAd K ("signing_sayings", none)) fd_signing_sayings)
    (g_signing_sayings : mg "signing_sayings" = some (.ref (He.ga K "signing_sayings")))
    (F__law_cell : FnP K "_law_cell" "_law_cell" s__law_cell (He.fAd K ("_law_cell", none)) fd__law_cell)
    (g__law_cell : mg "_law_cell" = some (.ref (He.ga K "_law_cell")))
    (F__law_digits : FnP K "_law_digits" "_law_digits" s__law_digits (He.fAd K ("_law_digits", none)) fd__law_digits)
    (g__law_digits : mg "_law_digits" = some (.ref (He.ga K "_law_digits")))
    (F__law_same : FnP K "_law_same" "_law_same" s__law_same (He.fAd K ("_law_same", none)) fd__law_same)
    (g__law_same : mg "_law_same" = some (.ref (He.ga K "_law_same")))
    (F__law_take : FnP K "_law_take" "_law_take" s__law_take (He.fAd K ("_law_take", none)) fd__law_take)
    (g__law_take : mg "_law_take" = some (.ref (He.ga K "_law_take")))
    (F__law_atom : FnP K "_law_atom" "_law_atom" s__law_atom (He.fAd K ("_law_atom", none)) fd__law_atom)
    (g__law_atom : mg "_law_atom" = some (.ref (He.ga K "_law_atom")))
    (F__law_rule : FnP K "_law_rule" "_law_rule" s__law_rule (He.fAd K ("_law_rule", none)) fd__law_rule)
    (g__law_rule : mg "_law_rule" = some (.ref (He.ga K "_law_rule")))
    (F__law_listed : FnP K "_law_listed" "_law_listed" s__law_listed (He.fAd K ("_law_listed", none)) fd__law_listed)
    (g__law_listed : mg "_law_listed" = some (.ref (He.ga K "_law_listed")))
    (F__law_turned : FnP K "_law_turned" "_law_turned" s__law_turned (He.fAd K ("_law_turned", none)) fd__law_turned)
    (g__law_turned : mg "_law_turned" = some (.ref (He.ga K "_law_turned")))
    (F__law_faults : FnP K "_law_faults" "_law_faults" s__law_faults (He.fAd K ("_law_faults", none)) fd__law_faults)
    (g__law_faults : mg "_law_faults" = some (.ref (He.ga K "_law_faults")))
    (F__law_very : FnP K "_law_very" "_law_very" s__law_very (He.fAd K ("_law_very", none)) fd__law_very)
    (g__law_very : mg "_law_very" = some (.ref (He.ga K "_law_very")))
    (F_law : FnP K "law" "law" s_law (He.fAd K ("law", none)) fd_law)
    (g_law : mg "law" = some (.ref (He.ga K "law"))) : ∀ n, AllOk P w K mg base C n
  | 0 => {
      c_frozen := ⟨_, _, fn_bad rfl, g_frozen, F_frozen.kp, (FunD.bindsN F_frozen fun _ _ _ _ _ _ us hl => match us, hl with | [_], _ => rfl)⟩
      c_bound_name := ⟨_, _, fn_bad rfl, g_bound_name, F_bound_name.kp, (FunD.bindsN F_bound_name fun _ _ _ _ _ _ us hl => match us, hl with | [_], _ => rfl)⟩
      c_with_name := ⟨_, _, fn_bad rfl, g_with_name, F_with_name.kp, (FunD.bindsN F_with_name fun _ _ _ _ _ _ us hl => match us, hl with | [_, _, _], _ => rfl)⟩
      c_renamed_saying := ⟨_, _, fn_bad rfl, g_renamed_saying, F_renamed_saying.kp, (FunD.bindsN F_renamed_saying fun _ _ _ _ _ _ us hl => match us, hl with | [_, _, _], _ => rfl)⟩
      c_signing_sayings := ⟨_, _, fn_bad rfl, g_signing_sayings, F_signing_sayings.kp, (FunD.bindsN F_signing_sayings fun _ _ _ _ _ _ us hl => match us, hl with | [_], _ => rfl)⟩
      c__law_cell := ⟨_, _, fn_bad rfl, g__law_cell, F__law_cell.kp, (FunD.bindsN F__law_cell fun _ _ _ _ _ _ us hl => match us, hl with | [_, _], _ => rfl)⟩
      c__law_digits := ⟨_, _, fn_bad rfl, g__law_digits, F__law_digits.kp, (FunD.bindsN F__law_digits fun _ _ _ _ _ _ us hl => match us, hl with | [_, _], _ => rfl)⟩
      c__law_same := ⟨_, _, fn_bad rfl, g__law_same, F__law_same.kp, (FunD.bindsN F__law_same fun _ _ _ _ _ _ us hl => match us, hl with | [_, _], _ => rfl)⟩
      c__law_take := ⟨_, _, fn_bad rfl, g__law_take, F__law_take.kp, (FunD.bindsN F__law_take fun _ _ _ _ _ _ us hl => match us, hl with | [_, _], _ => rfl)⟩
      c__law_atom := ⟨_, _, fn_bad rfl, g__law_atom, F__law_atom.kp, (FunD.bindsN F__law_atom fun _ _ _ _ _ _ us hl => match us, hl with | [_, _, _], _ => rfl)⟩
      c__law_rule := ⟨_, _, fn_bad rfl, g__law_rule, F__law_rule.kp, (FunD.bindsN F__law_rule fun _ _ _ _ _ _ us hl => match us, hl with | [_, _, _, _], _ => rfl)⟩
      c__law_listed := ⟨_, _, fn_bad rfl, g__law_listed, F__law_listed.kp, (FunD.bindsN F__law_listed fun _ _ _ _ _ _ us hl => match us, hl with | [_], _ => rfl)⟩
      c__law_turned := ⟨_, _, fn_bad rfl, g__law_turned, F__law_turned.kp, (FunD.bindsN F__law_turned fun _ _ _ _ _ _ us hl => match us, hl with | [_], _ => rfl)⟩
      c__law_faults := ⟨_, _, fn_bad rfl, g__law_faults, F__law_faults.kp, (FunD.bindsN F__law_faults fun _ _ _ _ _ _ us hl => match us, hl with | [_], _ => rfl)⟩
      c__law_very := ⟨_, _, fn_bad rfl, g__law_very, F__law_very.kp, (FunD.bindsN F__law_very fun _ _ _ _ _ _ us hl => match us, hl with | [_, _], _ => rfl)⟩
      c_law := ⟨_, _, fn_bad rfl, g_law, F_law.kp, (FunD.bindsN F_law fun _ _ _ _ _ _ us hl => match us, hl with | [_], _ => rfl)⟩
    }
  | n + 1 => have IH := all_ok T F_frozen g_frozen F_bound_name g_bound_name F_with_name g_with_name F_renamed_saying g_renamed_saying F_signing_sayings g_signing_sayings F__law_cell g__law_cell F__law_digits g__law_digits F__law_same g__law_same F__law_take g__law_take F__law_atom g__law_atom F__law_rule g__law_rule F__law_listed g__law_listed F__law_turned g__law_turned F__law_faults g__law_faults F__law_very g__law_very F_law g_law n
    {
      c_frozen := ⟨_, _, ok_frozen T IH F_frozen, g_frozen, F_frozen.kp, (FunD.bindsN F_frozen fun _ _ _ _ _ _ us hl => match us, hl with | [_], _ => rfl)⟩
      c_bound_name := ⟨_, _, ok_bound_name T IH F_bound_name, g_bound_name, F_bound_name.kp, (FunD.bindsN F_bound_name fun _ _ _ _ _ _ us hl => match us, hl with | [_], _ => rfl)⟩
      c_with_name := ⟨_, _, ok_with_name T IH F_with_name, g_with_name, F_with_name.kp, (FunD.bindsN F_with_name fun _ _ _ _ _ _ us hl => match us, hl with | [_, _, _], _ => rfl)⟩
      c_renamed_saying := ⟨_, _, ok_renamed_saying T IH F_renamed_saying, g_renamed_saying, F_renamed_saying.kp, (FunD.bindsN F_renamed_saying fun _ _ _ _ _ _ us hl => match us, hl with | [_, _, _], _ => rfl)⟩
      c_signing_sayings := ⟨_, _, ok_signing_sayings T IH F_signing_sayings, g_signing_sayings, F_signing_sayings.kp, (FunD.bindsN F_signing_sayings fun _ _ _ _ _ _ us hl => match us, hl with | [_], _ => rfl)⟩
      c__law_cell := ⟨_, _, ok__law_cell T IH F__law_cell, g__law_cell, F__law_cell.kp, (FunD.bindsN F__law_cell fun _ _ _ _ _ _ us hl => match us, hl with | [_, _], _ => rfl)⟩
      c__law_digits := ⟨_, _, ok__law_digits T IH F__law_digits, g__law_digits, F__law_digits.kp, (FunD.bindsN F__law_digits fun _ _ _ _ _ _ us hl => match us, hl with | [_, _], _ => rfl)⟩
      c__law_same := ⟨_, _, ok__law_same T IH F__law_same, g__law_same, F__law_same.kp, (FunD.bindsN F__law_same fun _ _ _ _ _ _ us hl => match us, hl with | [_, _], _ => rfl)⟩
      c__law_take := ⟨_, _, ok__law_take T IH F__law_take, g__law_take, F__law_take.kp, (FunD.bindsN F__law_take fun _ _ _ _ _ _ us hl => match us, hl with | [_, _], _ => rfl)⟩
      c__law_atom := ⟨_, _, ok__law_atom T IH F__law_atom, g__law_atom, F__law_atom.kp, (FunD.bindsN F__law_atom fun _ _ _ _ _ _ us hl => match us, hl with | [_, _, _], _ => rfl)⟩
      c__law_rule := ⟨_, _, ok__law_rule T IH F__law_rule, g__law_rule, F__law_rule.kp, (FunD.bindsN F__law_rule fun _ _ _ _ _ _ us hl => match us, hl with | [_, _, _, _], _ => rfl)⟩
      c__law_listed := ⟨_, _, ok__law_listed T IH F__law_listed, g__law_listed, F__law_listed.kp, (FunD.bindsN F__law_listed fun _ _ _ _ _ _ us hl => match us, hl with | [_], _ => rfl)⟩
      c__law_turned := ⟨_, _, ok__law_turned T IH F__law_turned, g__law_turned, F__law_turned.kp, (FunD.bindsN F__law_turned fun _ _ _ _ _ _ us hl => match us, hl with | [_], _ => rfl)⟩
      c__law_faults := ⟨_, _, ok__law_faults T IH F__law_faults, g__law_faults, F__law_faults.kp, (FunD.bindsN F__law_faults fun _ _ _ _ _ _ us hl => match us, hl with | [_], _ => rfl)⟩
      c__law_very := ⟨_, _, ok__law_very T IH F__law_very, g__law_very, F__law_very.kp, (FunD.bindsN F__law_very fun _ _ _ _ _ _ us hl => match us, hl with | [_, _], _ => rfl)⟩
      c_law := ⟨_, _, ok_law T IH F_law, g_law, F_law.kp, (FunD.bindsN F_law fun _ _ _ _ _ _ us hl => match us, hl with | [_], _ => rfl)⟩
    }
end
def d_frozen : He.DefD := ⟨("frozen", none), "frozen", "frozen", defArgs s_frozen, defBody s_frozen, defScope s_frozen, [], []⟩
def d_bound_name : He.DefD := ⟨("bound_name", none), "bound_name", "bound_name", defArgs s_bound_name, defBody s_bound_name, defScope s_bound_name, [], []⟩
def d_with_name : He.DefD := ⟨("with_name", none), "with_name", "with_name", defArgs s_with_name, defBody s_with_name, defScope s_with_name, [], []⟩
def d_renamed_saying : He.DefD := ⟨("renamed_saying", none), "renamed_saying", "renamed_saying", defArgs s_renamed_saying, defBody s_renamed_saying, defScope s_renamed_saying, [], []⟩
def d_signing_sayings : He.DefD := ⟨("signing_sayings", none), "signing_sayings", "signing_sayings", defArgs s_signing_sayings, defBody s_signing_sayings, defScope s_signing_sayings, [], []⟩
def d__law_cell : He.DefD := ⟨("_law_cell", none), "_law_cell", "_law_cell", defArgs s__law_cell, defBody s__law_cell, defScope s__law_cell, [], []⟩
def d__law_digits : He.DefD := ⟨("_law_digits", none), "_law_digits", "_law_digits", defArgs s__law_digits, defBody s__law_digits, defScope s__law_digits, [], []⟩
def d__law_same : He.DefD := ⟨("_law_same", none), "_law_same", "_law_same", defArgs s__law_same, defBody s__law_same, defScope s__law_same, [], []⟩
def d__law_take : He.DefD := ⟨("_law_take", none), "_law_take", "_law_take", defArgs s__law_take, defBody s__law_take, defScope s__law_take, [], []⟩
def d__law_atom : He.DefD := ⟨("_law_atom", none), "_law_atom", "_law_atom", defArgs s__law_atom, defBody s__law_atom, defScope s__law_atom, [], []⟩
def d__law_rule : He.DefD := ⟨("_law_rule", none), "_law_rule", "_law_rule", defArgs s__law_rule, defBody s__law_rule, defScope s__law_rule, [], []⟩
def d__law_listed : He.DefD := ⟨("_law_listed", none), "_law_listed", "_law_listed", defArgs s__law_listed, defBody s__law_listed, defScope s__law_listed, [], []⟩
def d__law_turned : He.DefD := ⟨("_law_turned", none), "_law_turned", "_law_turned", defArgs s__law_turned, defBody s__law_turned, defScope s__law_turned, [], []⟩
def d__law_faults : He.DefD := ⟨("_law_faults", none), "_law_faults", "_law_faults", defArgs s__law_faults, defBody s__law_faults, defScope s__law_faults, [], []⟩
def d__law_very : He.DefD := ⟨("_law_very", none), "_law_very", "_law_very", defArgs s__law_very, defBody s__law_very, defScope s__law_very, [], []⟩
def d_law : He.DefD := ⟨("law", none), "law", "law", defArgs s_law, defBody s_law, defScope s_law, [], []⟩
def fn : List He.DefD := [d_frozen, d_bound_name, d_with_name, d_renamed_saying, d_signing_sayings, d__law_cell, d__law_digits, d__law_same, d__law_take, d__law_atom, d__law_rule, d__law_listed, d__law_turned, d__law_faults, d__law_very, d_law]
def fa : List He.Fa := [.free "bool", .free "int", .free "isinstance", .free "len", .free "list", .free "range", .free "str", .glo "ITEMS", .free "tuple", .glo "frozen", .glo "bound_name", .glo "with_name", .glo "renamed_saying", .glo "signing_sayings", .glo "_law_cell", .glo "_law_digits", .glo "_law_same", .glo "_law_take", .glo "_law_atom", .glo "_law_rule", .glo "_law_listed", .glo "_law_turned", .glo "_law_faults", .glo "_law_very", .glo "law"]
def ts : List He.Tab := [(fun K => He.ga K "ITEMS", ["yes", "no", "same", "head", "above", "first", "mark", "in", "not", "and", "or", "some", "all", "least"])]
def ex (K : PySem.W.Frag) : Bool := He.valsB K (He.ga K "ITEMS") (tab_ITEMS.map fun q => (q.1, dvOf q.2))
theorem facts {P : Program} {w : World} {K : PySem.W.Frag} {h : Heap} {mg : Str → Option Value} (X : K.In h) (G : h.Ns mainGlobals mg) (c0 : He.SaysX fa fn ts [] ex w h K) :
    mg "law" = some (.ref (He.ga K "law")) ∧ ∃ fd : FuncData, (∀ (s : Shared) (v : Value), BindsTo s fd ⟨[v], []⟩ [("script", v)]) ∧ ∀ (n : Nat) (base : Heap), FnOk P w K mg base (L2.CX P w) (2 * n) (He.ga K "law") fd P_law (spD K ⟨fun c => He.ga K (clsName c), clsFlds⟩ 1 (sem n 15)) := by
  have c := c0.t.d
  obtain ⟨fd_frozen, F_frozen⟩ := c.def_ 0 (d := d_frozen) rfl
  obtain ⟨fd_bound_name, F_bound_name⟩ := c.def_ 1 (d := d_bound_name) rfl
  obtain ⟨fd_with_name, F_with_name⟩ := c.def_ 2 (d := d_with_name) rfl
  obtain ⟨fd_renamed_saying, F_renamed_saying⟩ := c.def_ 3 (d := d_renamed_saying) rfl
  obtain ⟨fd_signing_sayings, F_signing_sayings⟩ := c.def_ 4 (d := d_signing_sayings) rfl
  obtain ⟨fd__law_cell, F__law_cell⟩ := c.def_ 5 (d := d__law_cell) rfl
  obtain ⟨fd__law_digits, F__law_digits⟩ := c.def_ 6 (d := d__law_digits) rfl
  obtain ⟨fd__law_same, F__law_same⟩ := c.def_ 7 (d := d__law_same) rfl
  obtain ⟨fd__law_take, F__law_take⟩ := c.def_ 8 (d := d__law_take) rfl
  obtain ⟨fd__law_atom, F__law_atom⟩ := c.def_ 9 (d := d__law_atom) rfl
  obtain ⟨fd__law_rule, F__law_rule⟩ := c.def_ 10 (d := d__law_rule) rfl
  obtain ⟨fd__law_listed, F__law_listed⟩ := c.def_ 11 (d := d__law_listed) rfl
  obtain ⟨fd__law_turned, F__law_turned⟩ := c.def_ 12 (d := d__law_turned) rfl
  obtain ⟨fd__law_faults, F__law_faults⟩ := c.def_ 13 (d := d__law_faults) rfl
  obtain ⟨fd__law_very, F__law_very⟩ := c.def_ 14 (d := d__law_very) rfl
  obtain ⟨fd_law, F_law⟩ := c.def_ 15 (d := d_law) rfl
  have T : Txt K w mg ⟨fun c => He.ga K (clsName c), clsFlds⟩ := {
    z_bool := He.free_ok X G (c.fact 0 (f := .free "bool") rfl)
    z_int := He.free_ok X G (c.fact 1 (f := .free "int") rfl)
    z_isinstance := He.free_ok X G (c.fact 2 (f := .free "isinstance") rfl)
    z_len := He.free_ok X G (c.fact 3 (f := .free "len") rfl)
    z_list := He.free_ok X G (c.fact 4 (f := .free "list") rfl)
    z_range := He.free_ok X G (c.fact 5 (f := .free "range") rfl)
    z_str := He.free_ok X G (c.fact 6 (f := .free "str") rfl)
    t_ITEMS := tab_ok (He.glo_ok X G (c.fact 7 (f := .glo "ITEMS") rfl)) (c0.t.tab 0 (t := (fun K => He.ga K "ITEMS", ["yes", "no", "same", "head", "above", "first", "mark", "in", "not", "and", "or", "some", "all", "least"])) rfl) (c0.more)
    z_tuple := He.free_ok X G (c.fact 8 (f := .free "tuple") rfl)
  }
  refine ⟨He.glo_ok X G (c.fact 24 (f := .glo "law") rfl), fd_law, fun s v => FunD.bindsA (ps := ["script"]) F_law (fun _ _ _ _ _ _ us hl => match us, hl with | [_], _ => rfl) s [v] rfl, fun n base => ?_⟩
  cases n with
  | zero => exact fn_bad rfl
  | succ n => exact ok_law T (all_ok (P := P) (w := w) (base := base) T F_frozen (He.glo_ok X G (c.fact 9 (f := .glo "frozen") rfl)) F_bound_name (He.glo_ok X G (c.fact 10 (f := .glo "bound_name") rfl)) F_with_name (He.glo_ok X G (c.fact 11 (f := .glo "with_name") rfl)) F_renamed_saying (He.glo_ok X G (c.fact 12 (f := .glo "renamed_saying") rfl)) F_signing_sayings (He.glo_ok X G (c.fact 13 (f := .glo "signing_sayings") rfl)) F__law_cell (He.glo_ok X G (c.fact 14 (f := .glo "_law_cell") rfl)) F__law_digits (He.glo_ok X G (c.fact 15 (f := .glo "_law_digits") rfl)) F__law_same (He.glo_ok X G (c.fact 16 (f := .glo "_law_same") rfl)) F__law_take (He.glo_ok X G (c.fact 17 (f := .glo "_law_take") rfl)) F__law_atom (He.glo_ok X G (c.fact 18 (f := .glo "_law_atom") rfl)) F__law_rule (He.glo_ok X G (c.fact 19 (f := .glo "_law_rule") rfl)) F__law_listed (He.glo_ok X G (c.fact 20 (f := .glo "_law_listed") rfl)) F__law_turned (He.glo_ok X G (c.fact 21 (f := .glo "_law_turned") rfl)) F__law_faults (He.glo_ok X G (c.fact 22 (f := .glo "_law_faults") rfl)) F__law_very (He.glo_ok X G (c.fact 23 (f := .glo "_law_very") rfl)) F_law (He.glo_ok X G (c.fact 24 (f := .glo "law") rfl)) n) F_law
abbrev R0 : PySem.W.OpenRow := PySem.W.OpenLaw.row PySem.Challenge.rw_oneheadeach_k75_signing_sayings
abbrev hk : PySem.W.Hook := He.hookX 5 fa fn ts [] ex
def ob (s : PySem.W.SharedT) : He.AlX := He.obsX 5 fa fn ts [] ex (HandSHeadRun.getT s)
theorem ob_eq (s : PySem.W.SharedT) : ob s = hk.obs s.abs := He.obsX_eq (HandSHeadRun.getT_eq s)
def loose_0 : List PySem.Str := ["frozen", "ITEMS", "bound_name", "with_name", "renamed_saying", "signing_sayings", "_law_cell", "_law_digits", "_law_same", "_law_take", "_law_atom", "_law_rule", "_law_listed", "_law_turned", "_law_faults", "_law_very"]
def loose : List PySem.Str := loose_0
end G

set_option maxHeartbeats 4000000
namespace G
open PySem PySem.Spec PyProof.Rows L2 DL
variable {S : Sto}
def sw (a : Str) : Str := if a = "y" then "x" else a
inductive Atom : D → D → Prop
  | yes : Atom (.tup [.str "yes"]) (.tup [.str "yes"])
  | no : Atom (.tup [.str "no"]) (.tup [.str "no"])
  | same (a b : Str) : Atom (.tup [.str "same", .str a, .str b]) (.tup [.str "same", .str (sw a), .str (sw b)])
  | head (a b : Str) : Atom (.tup [.str "head", .str a, .str b]) (.tup [.str "head", .str (sw a), .str (sw b)])
  | above (a b : Str) : Atom (.tup [.str "above", .str a, .str b]) (.tup [.str "above", .str (sw a), .str (sw b)])
  | inn (a b : Str) : Atom (.tup [.str "in", .str a, .str b]) (.tup [.str "in", .str (sw a), .str (sw b)])
  | first (a b : Str) (k : Int) : Atom (.tup [.str "first", .str a, .str b, .int k]) (.tup [.str "first", .str (sw a), .str (sw b), .int k])
  | mark (a : Str) (k : Int) : Atom (.tup [.str "mark", .str a, .int k]) (.tup [.str "mark", .str (sw a), .int k])
inductive Turn : Nat → D → D → Prop
  | atom {n : Nat} {d e : D} : Atom d e → Turn (n + 1) d e
  | not {n : Nat} {d e : D} : Turn n d e → Turn (n + 1) (.tup [.str "not", d]) (.tup [.str "not", e])
  | many {n : Nat} {op : Str} {ds es : List D} : (op = "and" ∨ op = "or") → ds.length = es.length → ds.length ≤ 10000 → (∀ (i : Nat) (x y : D), ds[i]? = some x → es[i]? = some y → Turn n x y) → Turn (n + 1) (.tup [.str op, .tup ds]) (.tup [.str op, .tup es])
  | quant {n : Nat} {op v : Str} {d e : D} : (op = "some" ∨ op = "all") → v ≠ "y" → Turn n d e → Turn (n + 1) (.tup [.str op, .str v, d]) (.tup [.str op, .str v, e])
  | least {n : Nat} {k : Int} {v : Str} {d e : D} : v ≠ "y" → Turn n d e → Turn (n + 1) (.tup [.str "least", .int k, .str v, d]) (.tup [.str "least", .int k, .str v, e])
theorem map_range {ys : List D} {f : Nat → R} (h : ∀ (i : Nat) (y : D), ys[i]? = some y → f i = .d y) : (List.range ys.length).map f = ys.map .d := by
  apply List.ext_getElem?
  intro i
  simp only [List.getElem?_map]
  by_cases hi : i < ys.length
  · simp [List.getElem?_range hi, h i _ (List.getElem?_eq_getElem hi), hi]
  · simp [hi]
theorem look (z : Str) (w : At) (h : lookT tab_ITEMS z = some w) : lookT tab_ITEMS z = some w := h
theorem sw_if {a : Str} : (if a = "y" then R.str "x" else R.str a) = .str (sw a) := by unfold sw; split <;> rfl
theorem sp_with : ∀ {n : Nat} {d e : D} {S : Sto}, Turn n d e → sem (n + 2) 2 [.d d, .str "y", .str "x"] S = .ok (.d e) S := by
  intro n
  induction n with
  | zero => intro d e S h; cases h
  | succ n ih =>
    intro d e S h
    apply Out.wp_eq
    rw [sem_with_name, wp_run]
    cases h with
    | atom h =>
      cases h with
      | yes =>
        have e := look "yes" (.str ⟨#[]⟩) (by decide)
        simp +decide [b_with_name, sem_bound_name, wp_run, b_bound_name, e, okR, rangeL, List.range_succ, gN, DL.inR, inS, Str.length]
      | no =>
        have e := look "no" (.str ⟨#[]⟩) (by decide)
        simp +decide [b_with_name, sem_bound_name, wp_run, b_bound_name, e, okR, rangeL, List.range_succ, gN, DL.inR, inS, Str.length]
      | same a b =>
        have e := look "same" (.str ⟨#[120, 120]⟩) (by decide)
        simp +decide [b_with_name, sem_bound_name, wp_run, b_bound_name, e, okR, rangeL, List.range_succ, gN, DL.inR, inS, Str.length]
        all_goals by_cases ha : a = "y" <;> by_cases hb : b = "y" <;> simp +decide [ha, hb, sw]
      | head a b =>
        have e := look "head" (.str ⟨#[120, 120]⟩) (by decide)
        simp +decide [b_with_name, sem_bound_name, wp_run, b_bound_name, e, okR, rangeL, List.range_succ, gN, DL.inR, inS, Str.length]
        all_goals by_cases ha : a = "y" <;> by_cases hb : b = "y" <;> simp +decide [ha, hb, sw]
      | above a b =>
        have e := look "above" (.str ⟨#[120, 120]⟩) (by decide)
        simp +decide [b_with_name, sem_bound_name, wp_run, b_bound_name, e, okR, rangeL, List.range_succ, gN, DL.inR, inS, Str.length]
        all_goals by_cases ha : a = "y" <;> by_cases hb : b = "y" <;> simp +decide [ha, hb, sw]
      | inn a b =>
        have e := look "in" (.str ⟨#[120, 65]⟩) (by decide)
        simp +decide [b_with_name, sem_bound_name, wp_run, b_bound_name, e, okR, rangeL, List.range_succ, gN, DL.inR, inS, Str.length]
        all_goals by_cases ha : a = "y" <;> by_cases hb : b = "y" <;> simp +decide [ha, hb, sw]
      | first a b k =>
        have e := look "first" (.str ⟨#[120, 120, 109]⟩) (by decide)
        simp +decide [b_with_name, sem_bound_name, wp_run, b_bound_name, e, okR, rangeL, List.range_succ, gN, DL.inR, inS, Str.length]
        all_goals by_cases ha : a = "y" <;> by_cases hb : b = "y" <;> simp +decide [ha, hb, sw]
      | mark a k =>
        have e := look "mark" (.str ⟨#[120, 109]⟩) (by decide)
        simp +decide [b_with_name, sem_bound_name, wp_run, b_bound_name, e, okR, rangeL, List.range_succ, gN, DL.inR, inS, Str.length]
        all_goals by_cases ha : a = "y" <;> simp +decide [ha, sw]
    | not h =>
      have e := look "not" (.str ⟨#[115]⟩) (by decide)
      simp +decide [b_with_name, sem_bound_name, wp_run, b_bound_name, e, okR, rangeL, List.range_succ, gN, DL.inR, inS, Str.length, ih h]
    | quant ho hv h =>
      rcases ho with rfl | rfl
      · have e := look "some" (.str ⟨#[110, 115]⟩) (by decide)
        simp +decide [b_with_name, sem_bound_name, wp_run, b_bound_name, e, okR, rangeL, List.range_succ, gN, DL.inR, inS, Str.length, ih h, hv]
      · have e := look "all" (.str ⟨#[110, 115]⟩) (by decide)
        simp +decide [b_with_name, sem_bound_name, wp_run, b_bound_name, e, okR, rangeL, List.range_succ, gN, DL.inR, inS, Str.length, ih h, hv]
    | least hv h =>
      have e := look "least" (.str ⟨#[107, 120, 115]⟩) (by decide)
      simp +decide [b_with_name, sem_bound_name, wp_run, b_bound_name, e, okR, rangeL, List.range_succ, gN, DL.inR, inS, Str.length, ih h, hv]
    | many ho hl hb h =>
      rename_i op ds es
      rcases ho with rfl | rfl
      · have e := look "and" (.str ⟨#[112]⟩) (by decide)
        simp +decide [b_with_name, sem_bound_name, wp_run, b_bound_name, e, okR, rangeL, List.range_succ, gN, DL.inR, inS, Str.length]
        refine wpc_map (fun j => .d (es.getD j .non)) (by simp; omega) (fun j x hx => ?_) ?_
        · simp at hx
          obtain ⟨x, hx, rfl⟩ := hx
          have hj := (List.getElem?_eq_some_iff.mp hx).1
          have hy : es[j]? = some (es[j]'(by omega)) := List.getElem?_eq_getElem _
          simp [ih (h j _ _ hx hy), hy]
        · rw [List.length_map, hl, map_range (fun i y e => by simp [e])]
          simp
      · have e := look "or" (.str ⟨#[112]⟩) (by decide)
        simp +decide [b_with_name, sem_bound_name, wp_run, b_bound_name, e, okR, rangeL, List.range_succ, gN, DL.inR, inS, Str.length]
        refine wpc_map (fun j => .d (es.getD j .non)) (by simp; omega) (fun j x hx => ?_) ?_
        · simp at hx
          obtain ⟨x, hx, rfl⟩ := hx
          have hj := (List.getElem?_eq_some_iff.mp hx).1
          have hy : es[j]? = some (es[j]'(by omega)) := List.getElem?_eq_getElem _
          simp [ih (h j _ _ hx hy), hy]
        · rw [List.length_map, hl, map_range (fun i y e => by simp [e])]
          simp
theorem sp_turned : ∀ {n : Nat} {d e : D} {S : Sto}, Turn n d e → sem (n + 1) 12 [.d d] S = .ok (.d e) S := by
  intro n
  induction n with
  | zero => intro d e S h; cases h
  | succ n ih =>
    intro d e S h
    apply Out.wp_eq
    rw [sem__law_turned, wp_run]
    cases h with
    | atom h =>
      cases h with
      | yes => simp +decide [b__law_turned, gN]
      | no => simp +decide [b__law_turned, gN]
      | same a b => by_cases ha : a = "y" <;> by_cases hb : b = "y" <;> simp +decide [b__law_turned, gN, ha, hb, sw]
      | head a b => by_cases ha : a = "y" <;> by_cases hb : b = "y" <;> simp +decide [b__law_turned, gN, ha, hb, sw]
      | above a b => by_cases ha : a = "y" <;> by_cases hb : b = "y" <;> simp +decide [b__law_turned, gN, ha, hb, sw]
      | inn a b => by_cases ha : a = "y" <;> by_cases hb : b = "y" <;> simp +decide [b__law_turned, gN, ha, hb, sw]
      | first a b k => by_cases ha : a = "y" <;> by_cases hb : b = "y" <;> simp +decide [b__law_turned, gN, ha, hb, sw]
      | mark a k => by_cases ha : a = "y" <;> simp +decide [b__law_turned, gN, ha, sw]
    | not h => simp +decide [b__law_turned, ih h]
    | quant ho hv h =>
      rcases ho with rfl | rfl <;> simp +decide [b__law_turned, ih h]
    | least hv h => simp +decide [b__law_turned, ih h]
    | many ho hl hb h =>
      rename_i op ds es
      rcases ho with rfl | rfl
      all_goals
        simp +decide [b__law_turned]
        refine wpc_map (fun j => .d (es.getD j .non)) (by simp; omega) (fun j x hx => ?_) ?_
        · simp at hx
          obtain ⟨x, hx, rfl⟩ := hx
          have hj := (List.getElem?_eq_some_iff.mp hx).1
          have hy : es[j]? = some (es[j]'(by omega)) := List.getElem?_eq_getElem _
          simp [ih (h j _ _ hx hy), hy]
        · rw [List.length_map, hl, map_range (fun i y e => by simp [e])]
          simp
end G

set_option maxHeartbeats 4000000
namespace G
open PySem PySem.Spec PyProof.Rows L2 DL
variable {S : Sto}
mutual
def lsD : D → D
  | .lf x => .lf x
  | .box .tup xs => .box .lst (lsDs xs)
  | .box k xs => .box k xs
def lsDs : List D → List D
  | [] => []
  | x :: xs => lsD x :: lsDs xs
end
theorem lsDs_map : ∀ xs : List D, lsDs xs = xs.map lsD
  | [] => rfl
  | x :: xs => by rw [lsDs, lsDs_map xs]; rfl
theorem lsD_tup {xs : List D} : lsD (.box .tup xs) = .box .lst (xs.map lsD) := by rw [lsD, lsDs_map]
def okA : At → Bool
  | .str x => PyData.canLay0 (.str x)
  | _ => true
inductive Tp : Nat → D → Prop
  | lf {n : Nat} {a : At} : okA a = true → Tp (n + 1) (.lf a)
  | tup {n : Nat} {xs : List D} : xs.length ≤ 10000 → (∀ x ∈ xs, Tp n x) → Tp (n + 1) (.tup xs)
theorem Tp.le {n m : Nat} {d : D} (h : Tp n d) (hm : n ≤ m) : Tp m d := by
  induction n generalizing m d with
  | zero => cases h
  | succ n ih =>
    obtain ⟨m, rfl⟩ : ∃ k, m = k + 1 := ⟨m - 1, by omega⟩
    cases h with
    | lf h => exact .lf h
    | tup h1 h2 => exact .tup h1 fun x hx => ih (h2 x hx) (by omega)
theorem sp_listed : ∀ {n : Nat} {d : D} {S : Sto}, Tp n d → sem n 11 [.d d] S = .ok (.d (lsD d)) S := by
  intro n
  induction n with
  | zero => intro d S h; cases h
  | succ n ih =>
    intro d S h
    apply Out.wp_eq
    rw [sem__law_listed, wp_run]
    cases h with
    | lf => rename_i a _; cases a <;> simp [b__law_listed, Ty.sub, lsD]
    | tup h1 h2 =>
      rename_i xs
      rw [lsD_tup]
      simp [b__law_listed, Ty.sub]
      refine wpc_map (fun j => .d ((xs.map lsD).getD j .non)) (by simp; omega) (fun j x hx => ?_) ?_
      · simp at hx
        obtain ⟨d, hx, rfl⟩ := hx
        simp [ih (h2 _ (List.mem_of_getElem? hx)), hx]
      · rw [List.length_map, show xs.length = (xs.map lsD).length by simp, map_range (fun i y e => by simp [e])]
        rw [wpo_newL0, unD_map]
        simp
theorem sp_frzT : ∀ {n : Nat} {d : D} {S : Sto}, Tp n d → sem n 0 [.d d] S = .ok (.d d) S := by
  intro n
  induction n with
  | zero => intro d S h; cases h
  | succ n ih =>
    intro d S h
    apply Out.wp_eq
    rw [sem_frozen, wp_run]
    cases h with
    | lf => rename_i a _; cases a <;> simp [b_frozen, Ty.sub]
    | tup h1 h2 =>
      rename_i xs
      simp [b_frozen, Ty.sub]
      refine wpc_map (fun j => .d (xs.getD j .non)) (by simp; omega) (fun j x hx => ?_) ?_
      · simp at hx
        obtain ⟨d, hx, rfl⟩ := hx
        simp [ih (h2 _ (List.mem_of_getElem? hx)), hx]
      · rw [List.length_map, map_range (fun i y e => by simp [e])]
        simp
theorem sp_frzL : ∀ {n : Nat} {d : D} {S : Sto}, Tp n d → sem n 0 [.d (lsD d)] S = .ok (.d d) S := by
  intro n
  induction n with
  | zero => intro d S h; cases h
  | succ n ih =>
    intro d S h
    apply Out.wp_eq
    rw [sem_frozen, wp_run]
    cases h with
    | lf => rename_i a _; cases a <;> simp [b_frozen, Ty.sub, lsD]
    | tup h1 h2 =>
      rename_i xs
      rw [lsD_tup]
      simp [b_frozen, Ty.sub]
      refine wpc_map (fun j => .d (xs.getD j .non)) (by simp; omega) (fun j x hx => ?_) ?_
      · simp at hx
        obtain ⟨d, hx, rfl⟩ := hx
        simp [ih (h2 _ (List.mem_of_getElem? hx)), hx]
      · rw [show List.length (List.map (R.d ∘ lsD) xs) = xs.length by simp, map_range (fun i y e => by simp [e])]
        simp
theorem sp_same {n : Nat} {a : At} : sem (n + 1) 7 [.d (.lf a), .d (.lf a)] S = .ok (.bl true) S := by
  apply Out.wp_eq
  rw [sem__law_same, wp_run]
  cases a <;> simp [b__law_same, Ty.sub]
theorem sp_very : ∀ {n : Nat} {d : D} {S : Sto}, Tp n d → sem (n + 1) 14 [.d d, .d d] S = .ok (.bl true) S := by
  intro n
  induction n with
  | zero => intro d S h; cases h
  | succ n ih =>
    intro d S h
    apply Out.wp_eq
    rw [sem__law_very, wp_run]
    cases h with
    | lf => rename_i a _; cases a <;> simp [b__law_very, Ty.sub, sp_same]
    | tup h1 h2 =>
      rename_i xs
      simp [b__law_very, Ty.sub, okR_of (i := xs.length) (by omega) (by omega)]
      refine wpl_rng (fun i ρ S1 => S1 = S ∧ ∃ a, ρ = [some (.d (.tup xs)), some (.d (.tup xs)), a]) ?_ ?_ ?_
      · simp
      · rintro i ρ S1 hi ⟨rfl, a, rfl⟩
        have hi : i < xs.length := by simpa using hi
        have e : xs[i]? = some xs[i] := List.getElem?_eq_getElem hi
        simp [e, ih (h2 _ (List.mem_of_getElem? e))]
      · rintro ρ S1 ⟨rfl, a, rfl⟩
        simp
theorem pd_ls : ∀ {n : Nat} {d : D}, Tp n d → ∃ p, pdD (lsD d) = some p ∧ p.canLay0 = true ∧ p.depth ≤ n := by
  intro n
  induction n with
  | zero => intro d h; cases h
  | succ n ih =>
    intro d h
    cases h with
    | lf ha =>
      rename_i a
      cases a with
      | non => exact ⟨_, rfl, rfl, Nat.zero_le _⟩
      | bl b => exact ⟨_, rfl, rfl, Nat.zero_le _⟩
      | int b => exact ⟨_, rfl, rfl, Nat.zero_le _⟩
      | str b => exact ⟨_, rfl, ha, Nat.zero_le _⟩
    | tup h1 h2 =>
      rename_i xs
      rw [lsD_tup]
      have key : ∀ ys : List D, (∀ x ∈ ys, Tp n x) → ∃ ps, pdDs (ys.map lsD) = some ps ∧ PyData.canLayAll0 ps = true ∧ PyData.depthAll ps ≤ n := by
        intro ys
        induction ys with
        | nil => intro _; exact ⟨[], rfl, rfl, Nat.zero_le _⟩
        | cons y ys ihy =>
          intro hy
          obtain ⟨p, e1, e2, e3⟩ := ih (hy y List.mem_cons_self)
          obtain ⟨ps, f1, f2, f3⟩ := ihy fun x hx => hy x (List.mem_cons_of_mem _ hx)
          refine ⟨p :: ps, ?_, ?_, ?_⟩
          · rw [List.map_cons, pdDs, e1, f1]
          · rw [PyData.canLayAll0, e2, f2]; rfl
          · rw [PyData.depthAll]; omega
      obtain ⟨ps, e1, e2, e3⟩ := key xs h2
      refine ⟨.list ps, ?_, ?_, ?_⟩
      · rw [pdD, e1]; rfl
      · rw [PyData.canLay0]; exact e2
      · rw [PyData.depth]; omega
theorem ne_ls {n : Nat} {d : D} (h : Tp n d) (hn : n ≤ 64) {P : R → Sto → Prop} : wpO (neO (.d (lsD d)) (.d (lsD d)) S) P ↔ P (.bl false) S := by
  have e : eqR (.d (lsD d)) (.d (lsD d)) S = some true := by
    cases h with
    | lf ha =>
      rename_i a
      cases a <;> simp [lsD, eqR]
    | tup h1 h2 =>
      obtain ⟨p, e1, e2, e3⟩ := pd_ls (Tp.tup h1 h2)
      rw [lsD_tup] at e1 ⊢
      have hs : SeqAt.shaped p = true := by
        unfold SeqAt.shaped
        rw [e2, decide_eq_true (by omega)]; rfl
      unfold eqR
      simp only [snap, e1, hs, SeqAt.eqv_refl p e2, Bool.and_self, if_true]
  unfold neO
  rw [e]
  rfl
end G

set_option maxHeartbeats 4000000
namespace G
open PySem PySem.Spec PyProof.Rows L2 DL
variable {S : Sto}
theorem sp_take {n l : Nat} {z : Int} {vs : List Int} (hl : l < S.length) (hz : 0 < z) : sem (n + 1) 8 [.loc l, .int z] (S.set l (.box .lst (vs.map R.int))) = .ok (.int (hd vs % z)) (S.set l (.box .lst ((tl vs).map R.int))) := sp_takeB hl hz
def okS (a : Str) : Prop := okA (.str a) = true
def Names (ts : List Str) : Prop := ts.length ≤ 100 ∧ ∀ a ∈ ts, okS a
theorem names_at {ts : List Str} (h : Names ts) (h0 : 0 < ts.length) : ∃ f : Int → Str, ∀ v : Int, okS (f v) ∧ atI (ts.map D.str) (v % ts.length) = some (.str (f v)) := by
  have key : ∀ v : Int, ∃ a, okS a ∧ atI (ts.map D.str) (v % ts.length) = some (.str a) := fun v => by
    have e0 := Int.emod_nonneg v (show (ts.length : Int) ≠ 0 by omega)
    have e1 := Int.emod_lt_of_pos v (show (0 : Int) < ts.length by omega)
    obtain ⟨m, hm, e, _⟩ := atI_in (ds := ts.map D.str) e0 (by simpa using e1)
    obtain ⟨a, ha, rfl⟩ := List.mem_map.mp hm
    exact ⟨a, h.2 a ha, e⟩
  exact ⟨fun v => (key v).choose, fun v => (key v).choose_spec⟩
theorem ok_sw {a : Str} (h : okS a) : okS (sw a) := by
  unfold sw
  split
  · exact (show okA (.str "x") = true by decide +kernel)
  · exact h
structure Good (n : Nat) (d : D) : Prop where
  ex : ∃ e, Turn n d e ∧ Tp (2 * n) d ∧ Tp (2 * n) e
theorem tpS {n : Nat} {a : Str} (h : okS a) : Tp (n + 1) (.str a) := .lf h
theorem tpI {n : Nat} {k : Int} : Tp (n + 1) (.int k) := .lf rfl
theorem good_atom {n : Nat} {d e : D} (h : Atom d e) (h1 : Tp 2 d) (h2 : Tp 2 e) : Good (n + 1) d := ⟨e, .atom h, h1.le (by omega), h2.le (by omega)⟩
theorem tp1 {a : Str} (h : okS a) : Tp 2 (.tup [.str a]) := .tup (by simp) (by simp [tpS h])
theorem tp3 {a b c : Str} (ha : okS a) (hb : okS b) (hc : okS c) : Tp 2 (.tup [.str a, .str b, .str c]) := .tup (by simp) (by simp [tpS ha, tpS hb, tpS hc])
theorem tp3i {a b : Str} {k : Int} (ha : okS a) (hb : okS b) : Tp 2 (.tup [.str a, .str b, .int k]) := .tup (by simp) (by simp [tpS ha, tpS hb, tpI])
theorem tp4i {a b c : Str} {k : Int} (ha : okS a) (hb : okS b) (hc : okS c) : Tp 2 (.tup [.str a, .str b, .str c, .int k]) := .tup (by simp) (by simp [tpS ha, tpS hb, tpS hc, tpI])
theorem g_inn {a b : Str} (ha : okS a) (hb : okS b) (m : Nat) : Good (m + 1) (.tup [.str "in", .str a, .str b]) := good_atom (.inn a b) (tp3 (show okA (.str "in") = true by decide +kernel) ha hb) (tp3 (show okA (.str "in") = true by decide +kernel) (ok_sw ha) (ok_sw hb))
theorem g_same {a b : Str} (ha : okS a) (hb : okS b) (m : Nat) : Good (m + 1) (.tup [.str "same", .str a, .str b]) := good_atom (.same a b) (tp3 (show okA (.str "same") = true by decide +kernel) ha hb) (tp3 (show okA (.str "same") = true by decide +kernel) (ok_sw ha) (ok_sw hb))
theorem g_head {a b : Str} (ha : okS a) (hb : okS b) (m : Nat) : Good (m + 1) (.tup [.str "head", .str a, .str b]) := good_atom (.head a b) (tp3 (show okA (.str "head") = true by decide +kernel) ha hb) (tp3 (show okA (.str "head") = true by decide +kernel) (ok_sw ha) (ok_sw hb))
theorem g_above {a b : Str} (ha : okS a) (hb : okS b) (m : Nat) : Good (m + 1) (.tup [.str "above", .str a, .str b]) := good_atom (.above a b) (tp3 (show okA (.str "above") = true by decide +kernel) ha hb) (tp3 (show okA (.str "above") = true by decide +kernel) (ok_sw ha) (ok_sw hb))
theorem g_first {a b : Str} {k : Int} (ha : okS a) (hb : okS b) (m : Nat) : Good (m + 1) (.tup [.str "first", .str a, .str b, .int k]) := good_atom (.first a b k) (tp4i (show okA (.str "first") = true by decide +kernel) ha hb) (tp4i (show okA (.str "first") = true by decide +kernel) (ok_sw ha) (ok_sw hb))
theorem g_mark {a : Str} {k : Int} (ha : okS a) (m : Nat) : Good (m + 1) (.tup [.str "mark", .str a, .int k]) := good_atom (.mark a k) (tp3i (show okA (.str "mark") = true by decide +kernel) ha) (tp3i (show okA (.str "mark") = true by decide +kernel) (ok_sw ha))
theorem g_yes (m : Nat) : Good (m + 1) (.tup [.str "yes"]) := good_atom .yes (tp1 (show okA (.str "yes") = true by decide +kernel)) (tp1 (show okA (.str "yes") = true by decide +kernel))
theorem g_no (m : Nat) : Good (m + 1) (.tup [.str "no"]) := good_atom .no (tp1 (show okA (.str "no") = true by decide +kernel)) (tp1 (show okA (.str "no") = true by decide +kernel))
theorem sp_atom {n l : Nat} {vs : List Int} {ts ss : List Str} (hl : l < S.length) (ht : Names ts) (h0 : 0 < ts.length) (hs : Names ss) :
    ∃ (d : D) (vs' : List Int), sem (n + 2) 9 [.loc l, .d (.lst (ts.map .str)), .d (.lst (ss.map .str))] (S.set l (.box .lst (vs.map R.int))) = .ok (.d d) (S.set l (.box .lst (vs'.map R.int))) ∧ ∀ m, Good (m + 1) d := by
  have key : (sem (n + 2) 9 [.loc l, .d (.lst (ts.map .str)), .d (.lst (ss.map .str))] (S.set l (.box .lst (vs.map R.int)))).wp (fun r S' => ∃ (d : D) (vs' : List Int), r = .d d ∧ S' = S.set l (.box .lst (vs'.map R.int)) ∧ ∀ m, Good (m + 1) d) fun _ _ => False := by
    rw [sem__law_atom, wp_run]
    obtain ⟨f, hf⟩ := names_at ht h0
    have hf1 := fun v => (hf v).1
    have hf2 := fun v => (hf v).2
    have hk : ∀ a b v : Int, ∃ k : Int, atI [D.int a, .int b, .int 511, .int 10] (v % 4) = some (.int k) := fun a b v => by
      rcases (by omega : v % 4 = 0 ∨ v % 4 = 1 ∨ v % 4 = 2 ∨ v % 4 = 3) with e | e | e | e <;> rw [e] <;> simp
    have hg : ∃ g : Int → Int → Int → Int, ∀ a b v : Int, atI [D.int a, .int b, .int 511, .int 10] (v % 4) = some (.int (g a b v)) := ⟨fun a b v => (hk a b v).choose, fun a b v => (hk a b v).choose_spec⟩
    obtain ⟨g, hg⟩ := hg
    have hz : (0 : Int) < ts.length := by omega
    simp [b__law_atom, sp_take, hl, h0, hf2, hg]
    have q0 := Int.emod_nonneg (hd (tl (tl vs))) (show (9 : Int) ≠ 0 by decide)
    have q1 := Int.emod_lt_of_pos (hd (tl (tl vs))) (show (0 : Int) < 9 by decide)
    generalize hd (tl (tl vs)) % 9 = q at q0 q1
    by_cases hc : 5 ≤ q ∧ 0 < ss.length
    · obtain ⟨f', hf'⟩ := names_at hs hc.2
      simp [hc, sp_take, hl, hf']
      exact ⟨⟨_, rfl⟩, g_inn (hf1 _) (hf' _).1⟩
    · rcases (by omega : q = 0 ∨ q = 1 ∨ q = 2 ∨ q = 3 ∨ q = 4 ∨ q = 5 ∨ q = 6 ∨ q = 7 ∨ q = 8) with rfl | rfl | rfl | rfl | rfl | rfl | rfl | rfl | rfl
      all_goals (try have hc : ss.length = 0 := by omega)
      all_goals (try simp at hc)
      all_goals simp [hc]
      all_goals refine ⟨⟨_, rfl⟩, ?_⟩
      all_goals first | exact g_head (hf1 _) (hf1 _) | exact g_first (hf1 _) (hf1 _) | exact g_above (hf1 _) (hf1 _) | exact g_same (hf1 _) (hf1 _) | exact g_mark (hf1 _) | exact g_yes | exact g_no
  cases q : sem (n + 2) 9 [.loc l, .d (.lst (ts.map .str)), .d (.lst (ss.map .str))] (S.set l (.box .lst (vs.map R.int))) with
  | ok r S1 =>
    rw [q] at key
    obtain ⟨d, vs', rfl, rfl, h⟩ := key
    exact ⟨d, vs', rfl, h⟩
  | exc e S1 => rw [q] at key; exact key.elim
  | bad => rw [q] at key; exact key.elim
end G

set_option maxHeartbeats 4000000
namespace G
open PySem PySem.Spec PyProof.Rows L2 DL
variable {S : Sto}
theorem tp_pair {n : Nat} {a : Str} {d : D} (ha : okS a) (h : Tp n d) : Tp (n + 1) (.tup [.str a, d]) := by
  cases n with
  | zero => cases h
  | succ n => exact .tup (by simp) (by simp [tpS ha, h])
theorem g_not {n : Nat} {d : D} (h : Good n d) : Good (n + 1) (.tup [.str "not", d]) := by
  obtain ⟨e, h1, h2, h3⟩ := h
  exact ⟨_, .not h1, (tp_pair (show okA (.str "not") = true by decide +kernel) h2).le (by omega), (tp_pair (show okA (.str "not") = true by decide +kernel) h3).le (by omega)⟩
theorem g_quant {n : Nat} {op v : Str} {d : D} (ho : op = "some" ∨ op = "all") (hv : okS v) (hy : v ≠ "y") (h : Good (n + 1) d) : Good (n + 2) (.tup [.str op, .str v, d]) := by
  obtain ⟨e, h1, h2, h3⟩ := h
  have hop : okS op := by rcases ho with rfl | rfl <;> exact (show okA (.str _) = true by decide +kernel)
  exact ⟨_, .quant ho hy h1, Tp.le (n := 2 * (n + 1) + 1) (.tup (by simp) (by simp [h2]; exact ⟨tpS hop, tpS hv⟩)) (by omega), Tp.le (n := 2 * (n + 1) + 1) (.tup (by simp) (by simp [h3]; exact ⟨tpS hop, tpS hv⟩)) (by omega)⟩
theorem g_least {n : Nat} {k : Int} {v : Str} {d : D} (hv : okS v) (hy : v ≠ "y") (h : Good (n + 1) d) : Good (n + 2) (.tup [.str "least", .int k, .str v, d]) := by
  obtain ⟨e, h1, h2, h3⟩ := h
  have hop : okS "least" := (show okA (.str _) = true by decide +kernel)
  exact ⟨_, .least hy h1, Tp.le (n := 2 * (n + 1) + 1) (.tup (by simp) (by simp [h2]; exact ⟨tpS hop, tpI, tpS hv⟩)) (by omega), Tp.le (n := 2 * (n + 1) + 1) (.tup (by simp) (by simp [h3]; exact ⟨tpS hop, tpI, tpS hv⟩)) (by omega)⟩
theorem choose_list {p : D → D → Prop} : ∀ ds : List D, (∀ d ∈ ds, ∃ e, p d e) → ∃ es : List D, ds.length = es.length ∧ (∀ (i : Nat) (x y : D), ds[i]? = some x → es[i]? = some y → p x y) ∧ ∀ e ∈ es, ∃ d ∈ ds, p d e
  | [], _ => ⟨[], rfl, by simp, by simp⟩
  | d :: ds, h => by
    obtain ⟨e, he⟩ := h d List.mem_cons_self
    obtain ⟨es, h1, h2, h3⟩ := choose_list ds fun x hx => h x (List.mem_cons_of_mem _ hx)
    refine ⟨e :: es, by simp [h1], fun i x y hx hy => ?_, fun z hz => ?_⟩
    · cases i with
      | zero =>
        simp at hx hy
        rw [← hx, ← hy]; exact he
      | succ i => exact h2 i x y (by simpa using hx) (by simpa using hy)
    · rcases List.mem_cons.mp hz with rfl | hz
      · exact ⟨d, List.mem_cons_self, he⟩
      · obtain ⟨x, hx, q⟩ := h3 z hz
        exact ⟨x, List.mem_cons_of_mem _ hx, q⟩
theorem g_many {n : Nat} {op : Str} {ds : List D} (ho : op = "and" ∨ op = "or") (hl : ds.length ≤ 10000) (h : ∀ d ∈ ds, Good (n + 1) d) : Good (n + 2) (.tup [.str op, .tup ds]) := by
  obtain ⟨es, h1, h2, h3⟩ := choose_list (p := fun d e => Turn (n + 1) d e ∧ Tp (2 * (n + 1)) d ∧ Tp (2 * (n + 1)) e) ds fun d hd => (h d hd).ex
  have hop : okS op := by rcases ho with rfl | rfl <;> exact (show okA (.str _) = true by decide +kernel)
  refine ⟨_, .many ho h1 hl fun i x y hx hy => (h2 i x y hx hy).1, ?_, ?_⟩
  · exact tp_pair hop (.tup hl fun d hd => by
      obtain ⟨e, _, q, _⟩ := (h d hd).ex
      exact q)
  · exact tp_pair hop (.tup (by omega) fun e he => by
      obtain ⟨d, _, _, _, q⟩ := h3 e he
      exact q)
theorem names_add {ts : List Str} {a : Str} {k : Nat} (h : ts.length + (k + 1) ≤ 50 ∧ ∀ a ∈ ts, okS a) (ha : okS a) : (ts ++ [a]).length + k ≤ 50 ∧ ∀ b ∈ ts ++ [a], okS b :=
  ⟨by simp; omega, fun b hb => (List.mem_append.mp hb).elim (h.2 b) fun hb => by rw [List.mem_singleton.mp hb]; exact ha⟩
def RT (S : Sto) (l k : Nat) (r : R) (S' : Sto) : Prop := ∃ (d : D) (vs' : List Int), r = .d d ∧ S' = S.set l (.box .lst (vs'.map R.int)) ∧ Good k d
def RuleOk (k n : Nat) : Prop := ∀ (S : Sto) (l : Nat) (vs : List Int) (ts ss : List Str), l < S.length → 0 < ts.length → (ts.length + k ≤ 50 ∧ ∀ a ∈ ts, okS a) → (ss.length + k ≤ 50 ∧ ∀ a ∈ ss, okS a) →
    ∃ (d : D) (vs' : List Int), sem n 10 [.loc l, .int k, .d (.lst (ts.map .str)), .d (.lst (ss.map .str))] (S.set l (.box .lst (vs.map R.int))) = .ok (.d d) (S.set l (.box .lst (vs'.map R.int))) ∧ Good (k + 1) d
theorem rule_rest {k n l : Nat} {vs : List Int} {ts ss : List Str} {q : Int} (ih : RuleOk k (n + 2)) (hk : k + 1 ≤ 5) (hl : l < S.length) (h0 : 0 < ts.length) (ht : ts.length + (k + 1) ≤ 50 ∧ ∀ a ∈ ts, okS a) (hs : ss.length + (k + 1) ≤ 50 ∧ ∀ a ∈ ss, okS a) (q0 : 0 ≤ q) (q1 : q < 14) :
    wpS (r__law_rule_4 (sem (n + 2))) S.length [some (.loc l), some (.int (k + 1)), some (.d (.lst (ts.map .str))), some (.d (.lst (ss.map .str))), some (.int q), none, none, none, none] (S.set l (.box .lst (vs.map R.int))) NoE (RT S l (k + 2)) NoE NoE NoX := by
  have hk0 : ¬ ((k : Int) + 1 = 0) := by omega
  by_cases c1 : q < 5
  · obtain ⟨d, vs', e, g⟩ := sp_atom (S := S) (n := n) (vs := vs) hl ⟨by omega, ht.2⟩ h0 ⟨by omega, hs.2⟩
    simp [r__law_rule_4, c1, e, hk0]
    exact ⟨d, vs', rfl, rfl, g _⟩
  by_cases c2 : q = 5
  · subst c2
    obtain ⟨d, vs', e, g⟩ := ih S l vs ts ss hl h0 ⟨by omega, ht.2⟩ ⟨by omega, hs.2⟩
    simp [r__law_rule_4, r__law_rule_6, hk0, e]
    exact ⟨_, vs', rfl, rfl, g_not g⟩
  by_cases c3 : q < 9
  · have hop : ∃ op : Str, (op = "and" ∨ op = "or") ∧ atI [D.str "and", .str "or"] (q % 2) = some (.str op) := by
      rcases (by omega : q % 2 = 0 ∨ q % 2 = 1) with e | e
      · exact ⟨"and", .inl rfl, by rw [e]; simp⟩
      · exact ⟨"or", .inr rfl, by rw [e]; simp⟩
    obtain ⟨op, ho, e⟩ := hop
    have z0 := Int.emod_nonneg (hd vs) (show (3 : Int) ≠ 0 by decide)
    have z1 := Int.emod_lt_of_pos (hd vs) (show (0 : Int) < 3 by decide)
    simp [r__law_rule_4, r__law_rule_6, r__law_rule_8, hk0, c1, c2, c3, sp_take, hl, okR_of (i := 2 + hd vs % 3) (by omega) (by omega)]
    refine wpc_inv (fun j acc S1 => ∃ (ds : List D) (vs' : List Int), ds.length = j ∧ acc = ds.map R.d ∧ S1 = S.set l (.box .lst (vs'.map R.int)) ∧ ∀ d ∈ ds, Good (k + 1) d) (by simp; omega) ⟨[], _, rfl, rfl, rfl, by simp⟩ ?_ ?_ ?_
    · rintro j acc S1 ⟨ds, vs', h1, rfl, _⟩
      simp [h1]
    · rintro j x acc S1 hx ⟨ds, vs', rfl, rfl, rfl, hg⟩
      obtain ⟨d, vs2, e, g⟩ := ih S l vs' ts ss hl h0 ⟨by omega, ht.2⟩ ⟨by omega, hs.2⟩
      simp [e]
      exact ⟨ds ++ [d], by simp, by simp, ⟨_, rfl⟩, fun z hz => (List.mem_append.mp hz).elim (hg z) fun hz => by rw [List.mem_singleton.mp hz]; exact g⟩
    · rintro acc S1 ⟨ds, vs', h1, rfl, rfl, hg⟩
      simp [r__law_rule_10, e]
      have hn : ds.length ≤ 10000 := by simp at h1; omega
      exact ⟨_, vs', rfl, rfl, g_many ho hn hg⟩
  have ht2 : ∃ t : Str, okS t ∧ t ≠ "y" ∧ atI [D.str "a", .str "yy", .str "boss", .str "xy", .str "c", .str "q"] ((k : Int) + 1) = some (.str t) := by
    rcases (by omega : k = 0 ∨ k = 1 ∨ k = 2 ∨ k = 3 ∨ k = 4) with rfl | rfl | rfl | rfl | rfl
    · exact ⟨"yy", (show okA (.str _) = true by decide +kernel), by decide, by simp⟩
    · exact ⟨"boss", (show okA (.str _) = true by decide +kernel), by decide, by simp⟩
    · exact ⟨"xy", (show okA (.str _) = true by decide +kernel), by decide, by simp⟩
    · exact ⟨"c", (show okA (.str _) = true by decide +kernel), by decide, by simp⟩
    · exact ⟨"q", (show okA (.str _) = true by decide +kernel), by decide, by simp⟩
  have hl2 : ∃ t : Str, okS t ∧ t ≠ "y" ∧ atI [D.str "A", .str "B", .str "CC", .str "LOT", .str "D", .str "E"] ((k : Int) + 1) = some (.str t) := by
    rcases (by omega : k = 0 ∨ k = 1 ∨ k = 2 ∨ k = 3 ∨ k = 4) with rfl | rfl | rfl | rfl | rfl
    · exact ⟨"B", (show okA (.str _) = true by decide +kernel), by decide, by simp⟩
    · exact ⟨"CC", (show okA (.str _) = true by decide +kernel), by decide, by simp⟩
    · exact ⟨"LOT", (show okA (.str _) = true by decide +kernel), by decide, by simp⟩
    · exact ⟨"D", (show okA (.str _) = true by decide +kernel), by decide, by simp⟩
    · exact ⟨"E", (show okA (.str _) = true by decide +kernel), by decide, by simp⟩
  have hop : ∃ op : Str, (op = "some" ∨ op = "all") ∧ atI [D.str "some", .str "all"] (q % 2) = some (.str op) := by
    rcases (by omega : q % 2 = 0 ∨ q % 2 = 1) with e | e
    · exact ⟨"some", .inl rfl, by rw [e]; simp⟩
    · exact ⟨"all", .inr rfl, by rw [e]; simp⟩
  obtain ⟨t, t1, t2, t3⟩ := ht2
  obtain ⟨u, u1, u2, u3⟩ := hl2
  obtain ⟨op, ho, e⟩ := hop
  by_cases c4 : q < 11
  · obtain ⟨d, vs', e2, g⟩ := ih S l vs (ts ++ [t]) ss hl (by simp) (names_add ht t1) ⟨by omega, hs.2⟩
    simp at e2
    simp [r__law_rule_4, r__law_rule_6, r__law_rule_8, r__law_rule_11, r__law_rule_12, r__law_rule_13, hk0, c1, c2, c3, c4, t3, u3, e, e2]
    exact ⟨by omega, _, vs', rfl, rfl, g_quant ho t1 t2 g⟩
  by_cases c5 : q = 11
  · subst c5
    obtain ⟨d, vs', e2, g⟩ := ih S l (tl vs) (ts ++ [t]) ss hl (by simp) (names_add ht t1) ⟨by omega, hs.2⟩
    simp at e2
    simp [r__law_rule_4, r__law_rule_6, r__law_rule_8, r__law_rule_11, r__law_rule_12, r__law_rule_13, r__law_rule_15, hk0, sp_take, hl, t3, u3, e, e2]
    exact ⟨by omega, _, vs', rfl, rfl, g_least t1 t2 g⟩
  obtain ⟨d, vs', e2, g⟩ := ih S l vs ts (ss ++ [u]) hl h0 ⟨by omega, ht.2⟩ (names_add hs u1)
  simp at e2
  simp [r__law_rule_4, r__law_rule_6, r__law_rule_8, r__law_rule_11, r__law_rule_12, r__law_rule_13, r__law_rule_15, r__law_rule_17, hk0, c1, c2, c3, c4, c5, t3, u3, e, e2]
  exact ⟨by omega, _, vs', rfl, rfl, g_quant ho u1 u2 g⟩
theorem sp_rule (k n : Nat) (hk : k ≤ 5) : RuleOk k (n + k + 3) := by
  induction k with
  | zero =>
    intro S l vs ts ss hl h0 ht hs
    obtain ⟨d, vs', e, g⟩ := sp_atom (S := S) (n := n) (vs := tl vs) hl ⟨by omega, ht.2⟩ h0 ⟨by omega, hs.2⟩
    refine ⟨d, vs', ?_, g 0⟩
    apply Out.wp_eq
    rw [sem__law_rule, wp_run]
    simp [b__law_rule, r__law_rule_2, r__law_rule_4, sp_take, hl, e]
  | succ k ih =>
    intro S l vs ts ss hl h0 ht hs
    have key : (sem (n + (k + 1) + 3) 10 [.loc l, .int (k + 1 : Nat), .d (.lst (ts.map .str)), .d (.lst (ss.map .str))] (S.set l (.box .lst (vs.map R.int)))).wp (RT S l (k + 2)) NoX1 := by
      rw [sem__law_rule, wp_run]
      have q0 := Int.emod_nonneg (hd vs) (show (14 : Int) ≠ 0 by decide)
      have q1 := Int.emod_lt_of_pos (hd vs) (show (0 : Int) < 14 by decide)
      have rr : ∀ q : Int, 0 ≤ q → q < 14 → wpS (r__law_rule_4 (sem (n + (k + 1) + 2))) S.length [some (.loc l), some (.int (k + 1)), some (.d (.lst (ts.map .str))), some (.d (.lst (ss.map .str))), some (.int q), none, none, none, none] (S.set l (.box .lst ((tl vs).map R.int))) NoE (fun r S1 => (fin Md.pure (List.set S l (Ob.box Kd.lst (List.map R.int vs))).length r S1).wp (RT S l (k + 2)) NoX1) NoE NoE NoX := fun q q0 q1 =>
        wps_mono (rule_rest (n := n + k + 1) (ih (by omega)) hk hl h0 ht hs q0 q1) (fun _ _ h => h) (fun r S1 h => by
          obtain ⟨d, vs', rfl, rfl, g⟩ := h
          simp
          exact ⟨d, vs', rfl, rfl, g⟩) (fun _ _ h => h) (fun _ _ h => h) fun _ _ _ h => h
      simp [b__law_rule, r__law_rule_2, sp_take, hl]
      split
      · split
        · exact wps_mono (rr _ (by omega) (by omega)) (fun _ _ h => h.elim) (fun _ _ h => h) (fun _ _ h => h) (fun _ _ h => h) fun _ _ _ h => h
        · exact wps_mono (rr _ (by omega) (by omega)) (fun _ _ h => h.elim) (fun _ _ h => h) (fun _ _ h => h) (fun _ _ h => h) fun _ _ _ h => h
      · exact wps_mono (rr _ (by omega) (by omega)) (fun _ _ h => h.elim) (fun _ _ h => h) (fun _ _ h => h) (fun _ _ h => h) fun _ _ _ h => h
    cases q : sem (n + (k + 1) + 3) 10 [.loc l, .int (k + 1 : Nat), .d (.lst (ts.map .str)), .d (.lst (ss.map .str))] (S.set l (.box .lst (vs.map R.int))) with
    | ok r S1 =>
      rw [q] at key
      obtain ⟨d, vs', rfl, rfl, h⟩ := key
      exact ⟨d, vs', rfl, h⟩
    | exc e S1 => rw [q] at key; exact key.elim
    | bad => rw [q] at key; exact key.elim
end G

set_option maxHeartbeats 4000000
namespace G
open PySem PySem.Spec PyProof.Rows L2 DL
variable {S : Sto}
theorem Turn.le {n m : Nat} {d e : D} (h : Turn n d e) (hm : n ≤ m) : Turn m d e := by
  induction n generalizing m d e with
  | zero => cases h
  | succ n ih =>
    obtain ⟨m, rfl⟩ : ∃ k, m = k + 1 := ⟨m - 1, by omega⟩
    cases h with
    | atom h => exact .atom h
    | not h => exact .not (ih h (by omega))
    | many h1 h2 h3 h4 => exact .many h1 h2 h3 fun i x y hx hy => ih (h4 i x y hx hy) (by omega)
    | quant h1 h2 h3 => exact .quant h1 h2 (ih h3 (by omega))
    | least h1 h2 => exact .least h1 (ih h2 (by omega))
def GM (m : Nat) (d : D) : Prop := ∃ e, Turn m d e ∧ Tp m d ∧ Tp m e
theorem GM.le {n m : Nat} {d : D} (h : GM n d) (hm : n ≤ m) : GM m d := by
  obtain ⟨e, h1, h2, h3⟩ := h
  exact ⟨e, h1.le hm, h2.le hm, h3.le hm⟩
theorem Good.gm {n : Nat} {d : D} (h : Good n d) : GM (2 * n) d := by
  obtain ⟨e, h1, h2, h3⟩ := h
  exact ⟨e, h1.le (by omega), h2, h3⟩
theorem GM.not {n : Nat} {d : D} (h : GM n d) : GM (n + 1) (.tup [.str "not", d]) := by
  obtain ⟨e, h1, h2, h3⟩ := h
  exact ⟨_, .not h1, tp_pair (show okA (.str "not") = true by decide +kernel) h2, tp_pair (show okA (.str "not") = true by decide +kernel) h3⟩
def Fo (d e : D) : D :=
  .tup [.tup [.str "not", .tup [.str "some", .str "y", d]], .tup [.str "least", .int 2, .str "y", d], e,
    .tup [.str "and", .tup [.tup [.str "some", .str "x", .tup [.str "in", .str "x", .str "C"]],
      .tup [.str "all", .str "x", .tup [.str "or", .tup [.tup [.str "not", .tup [.str "in", .str "x", .str "C"]], .tup [.str "some", .str "y", .tup [.str "and", .tup [.tup [.str "in", .str "y", .str "C"], d]]]]]]]]]
theorem tp_mk {n : Nat} {xs : List D} (h : xs.length ≤ 10000) (hx : ∀ x ∈ xs, Tp n x) : Tp (n + 1) (.tup xs) := .tup h hx
theorem tp_lit {n : Nat} {a : Str} (h : okA (.str a) = true) (hn : 0 < n) : Tp n (.str a) := by
  obtain ⟨n, rfl⟩ : ∃ k, n = k + 1 := ⟨n - 1, by omega⟩
  exact .lf h
theorem tp_Fo {m : Nat} {d e : D} (h1 : Tp m d) (h2 : Tp m e) : Tp (m + 10) (Fo d e) := by
  have L : ∀ (n : Nat) (a : Str), okA (.str a) = true → Tp (n + 1) (.str a) := fun n a h => .lf h
  have some_ : okA (.str "some") = true := by decide +kernel
  have y_ : okA (.str "y") = true := by decide +kernel
  have x_ : okA (.str "x") = true := by decide +kernel
  have C_ : okA (.str "C") = true := by decide +kernel
  have in_ : okA (.str "in") = true := by decide +kernel
  have not_ : okA (.str "not") = true := by decide +kernel
  have and_ : okA (.str "and") = true := by decide +kernel
  have or_ : okA (.str "or") = true := by decide +kernel
  have all_ : okA (.str "all") = true := by decide +kernel
  have least_ : okA (.str "least") = true := by decide +kernel
  have hd : ∀ k, Tp (m + k) d := fun k => h1.le (by omega)
  have he : ∀ k, Tp (m + k) e := fun k => h2.le (by omega)
  have inx : ∀ k, Tp (k + 2) (.tup [.str "in", .str "x", .str "C"]) := fun k => tp_mk (by simp) (by simp; exact ⟨L _ _ in_, L _ _ x_, L _ _ C_⟩)
  have iny : ∀ k, Tp (k + 2) (.tup [.str "in", .str "y", .str "C"]) := fun k => tp_mk (by simp) (by simp; exact ⟨L _ _ in_, L _ _ y_, L _ _ C_⟩)
  unfold Fo
  refine tp_mk (n := m + 9) (by simp) ?_
  simp only [List.mem_cons, List.not_mem_nil, or_false, forall_eq_or_imp, forall_eq]
  refine ⟨?_, ?_, he 9, ?_⟩
  · refine tp_mk (n := m + 8) (by simp) ?_
    simp only [List.mem_cons, List.not_mem_nil, or_false, forall_eq_or_imp, forall_eq]
    refine ⟨L _ _ not_, tp_mk (n := m + 7) (by simp) ?_⟩
    simp only [List.mem_cons, List.not_mem_nil, or_false, forall_eq_or_imp, forall_eq]
    exact ⟨L _ _ some_, L _ _ y_, hd 7⟩
  · refine tp_mk (n := m + 8) (by simp) ?_
    simp only [List.mem_cons, List.not_mem_nil, or_false, forall_eq_or_imp, forall_eq]
    exact ⟨L _ _ least_, .lf rfl, L _ _ y_, hd 8⟩
  · refine tp_mk (n := m + 8) (by simp) ?_
    simp only [List.mem_cons, List.not_mem_nil, or_false, forall_eq_or_imp, forall_eq]
    refine ⟨L _ _ and_, tp_mk (n := m + 7) (by simp) ?_⟩
    simp only [List.mem_cons, List.not_mem_nil, or_false, forall_eq_or_imp, forall_eq]
    refine ⟨tp_mk (n := m + 6) (by simp) ?_, tp_mk (n := m + 6) (by simp) ?_⟩
    · simp only [List.mem_cons, List.not_mem_nil, or_false, forall_eq_or_imp, forall_eq]
      exact ⟨L _ _ some_, L _ _ x_, inx (m + 4)⟩
    · simp only [List.mem_cons, List.not_mem_nil, or_false, forall_eq_or_imp, forall_eq]
      refine ⟨L _ _ all_, L _ _ x_, tp_mk (n := m + 5) (by simp) ?_⟩
      simp only [List.mem_cons, List.not_mem_nil, or_false, forall_eq_or_imp, forall_eq]
      refine ⟨L _ _ or_, tp_mk (n := m + 4) (by simp) ?_⟩
      simp only [List.mem_cons, List.not_mem_nil, or_false, forall_eq_or_imp, forall_eq]
      refine ⟨tp_mk (n := m + 3) (by simp) ?_, tp_mk (n := m + 3) (by simp) ?_⟩
      · simp only [List.mem_cons, List.not_mem_nil, or_false, forall_eq_or_imp, forall_eq]
        exact ⟨L _ _ not_, inx (m + 1)⟩
      · simp only [List.mem_cons, List.not_mem_nil, or_false, forall_eq_or_imp, forall_eq]
        refine ⟨L _ _ some_, L _ _ y_, tp_mk (n := m + 2) (by simp) ?_⟩
        simp only [List.mem_cons, List.not_mem_nil, or_false, forall_eq_or_imp, forall_eq]
        refine ⟨L _ _ and_, tp_mk (n := m + 1) (by simp) ?_⟩
        simp only [List.mem_cons, List.not_mem_nil, or_false, forall_eq_or_imp, forall_eq]
        exact ⟨(iny 0).le (by cases h1 <;> omega), hd 1⟩
theorem sp_sayings {n : Nat} {h d e : D} (hf : ∀ S, sem (n + 3) 0 [.d h] S = .ok (.d d) S) (ht : Turn n d e) (hd : Tp n d) : sem (n + 4) 4 [.d h] S = .ok (.d (Fo d e)) S := by
  apply Out.wp_eq
  rw [sem_signing_sayings, wp_run]
  have r : ∀ S, sem (n + 3) 3 [.d d, .str "y", .str "x"] S = .ok (.d e) S := fun S => by
    apply Out.wp_eq
    rw [sem_renamed_saying, wp_run]
    simp [b_renamed_saying, sp_frzT (n := n + 2) (hd.le (by omega)), sp_with ht]
  simp [b_signing_sayings, hf, r, Fo]
theorem sp_faults {n : Nat} {d e : D} (ht : Turn n d e) : sem (n + 2) 13 [.d d] S = .ok (.d (Fo d e)) S := by
  apply Out.wp_eq
  rw [sem__law_faults, wp_run]
  simp [b__law_faults, sp_turned ht, Fo]
end G

set_option maxHeartbeats 4000000
namespace G
open PySem PySem.Spec PyProof.Rows L2 DL
variable {S : Sto}
def depth : Nat := 100
theorem sp_cell {n : Nat} {ns : List Int} {k : Int} (hn : ns.length ≤ 63) (h0 : 0 ≤ k) (h1 : k ≤ 1000) : ∃ v : Int, sem (n + 1) 5 [scr ns, .int k] S = .ok (.int v) S := by
  obtain ⟨x, e, v, rfl⟩ := sp_cellB (S := S) hn h0 h1
  exact ⟨v, e⟩
theorem sp_dig {n : Nat} {c : Int} {zs : List Int} (hz : ∀ z ∈ zs, 0 < z ∧ z < 10 ^ 40) (hl : zs.length ≤ 100000) : ∃ vs : List Int, sem (n + 1) 6 [.int c, .d (.lst (zs.map .int))] S = .ok (.loc S.length) (S ++ [.box .lst (vs.map R.int)]) ∧ vs.length = zs.length ∧ Dg zs vs := sp_digF hz hl
theorem sp_rep {n k : Nat} {c z : Int} (hz : 0 < z ∧ z < 10 ^ 40) (hk : k ≤ 100000) : ∃ vs : List Int, sem (n + 1) 6 [.int c, .d (.lst (List.replicate k (D.int z)))] S = .ok (.loc S.length) (S ++ [.box .lst (vs.map R.int)]) ∧ vs.length = k := by
  obtain ⟨vs, e, hl, _⟩ := sp_dig (S := S) (n := n) (c := c) (zs := List.replicate k z) (fun y hy => by rw [(List.mem_replicate.mp hy).2]; exact hz) (by simpa using hk)
  rw [List.map_replicate] at e
  exact ⟨vs, e, by simpa using hl⟩
/-- one rule asked -/
theorem one_ok {m b : Nat} {d sc : D} {r2 k6 told8 told9 k7 : Option R} {sh : List Int} {T : Sto} {s4 : Int} {rt : R → Sto → Prop} {rule r4 : Option R} (hm : m ≤ 50) (h : GM m d) (h4 : sh[4]? = some s4) :
    wpS (r_law_12 (sem 99)) b [some (.d sc), some (.loc S.length), r2, rule, r4, some (.d d), k6, k7, told8, told9] (S ++ .box .lst (sh.map R.int) :: T) (fun ρ S1 => S1 = S ++ .box .lst (sh.map R.int) :: T ∧ ∃ a b c, ρ = [some (.d sc), some (.loc S.length), r2, rule, r4, some (.d a), k6, k7, b, c]) rt NoE NoE NoX := by
  obtain ⟨e, h1, h2, h3⟩ := h
  have f1 := fun S => sp_faults (S := S) (n := 97) (h1.le (by omega))
  have f2 := fun S => sp_very (S := S) (n := 98) ((tp_Fo h2 h3).le (by omega))
  have f3 := fun S => sp_sayings (S := S) (n := 95) (h := d) (fun S => sp_frzT (n := 98) (h2.le (by omega))) (h1.le (by omega)) (h2.le (by omega))
  have f4 := fun S => sp_sayings (S := S) (n := 95) (h := lsD d) (fun S => sp_frzL (n := 98) (h2.le (by omega))) (h1.le (by omega)) (h2.le (by omega))
  have f5 := fun S => sp_listed (S := S) (n := 99) (h2.le (by omega))
  have f6 := fun (S : Sto) (P : R → Sto → Prop) => ne_ls (S := S) (P := P) (h2.le (m := 50) hm) (by omega)
  have g4 : (sh.map R.int)[4]? = some (.int s4) := by simp [h4]
  by_cases c : s4 = 1
  · simp [r_law_12, r_law_13, r_law_15, r_law_16, r_law_18, g4, c, f1, f2, f4, f5, f6, h4]
  · simp [r_law_12, r_law_13, r_law_15, r_law_16, r_law_18, g4, c, f1, f2, f3, f5, f6, h4]
abbrev RTt (S : Sto) : R → Sto → Prop := fun r S1 => (fin .pure S.length r S1).wp (fun x T => x = .bl true) NoX1
theorem gm_head {m : Nat} : GM (m + 2) (.tup [.str "head", .str "x", .str "y"]) := (g_head (show okA (.str "x") = true by decide +kernel) (show okA (.str "y") = true by decide +kernel) 0).gm.le (by omega)
theorem gm_no {m : Nat} : GM (m + 2) (.tup [.str "no"]) := (g_no 0).gm.le (by omega)
theorem gm_yes {m : Nat} : GM (m + 2) (.tup [.str "yes"]) := (g_yes 0).gm.le (by omega)
theorem tail_11 {d1 d2 sc : D} {r2 r5 k6 k7 k8 k9 : Option R} {sh : List Int} {T : Sto} {s4 : Int} (h1 : GM 50 d1) (h2 : GM 50 d2) (h4 : sh[4]? = some s4) :
    wpS (r_law_11 (sem 99)) S.length [some (.d sc), some (.loc S.length), r2, some (.d d1), some (.d d2), r5, k6, k7, k8, k9] (S ++ .box .lst (sh.map R.int) :: T) NoE (RTt S) NoE NoE NoX := by
  simp [r_law_11, -wpl_cons]
  refine wpl_inv (fun i ρ S1 => S1 = S ++ .box .lst (sh.map R.int) :: T ∧ ∃ a b c, ρ = [some (.d sc), some (.loc S.length), r2, some (.d d1), some (.d d2), a, k6, k7, b, c]) ?_ ?_ ?_
  · exact ⟨rfl, _, _, _, rfl⟩
  · rintro i x ρ S1 hx ⟨rfl, a, b, c, rfl⟩
    have hm := List.mem_of_getElem? hx
    have hd : ∃ d, x = .d d ∧ GM 50 d := by
      simp at hm
      rcases hm with rfl | rfl | rfl | rfl | rfl | rfl
      · exact ⟨_, rfl, h1⟩
      · exact ⟨_, rfl, h2⟩
      · exact ⟨_, rfl, gm_head (m := 48)⟩
      · exact ⟨_, rfl, gm_no (m := 48)⟩
      · exact ⟨_, rfl, gm_yes (m := 48)⟩
      · exact ⟨_, rfl, h1⟩
    obtain ⟨d, rfl, hd⟩ := hd
    refine ⟨_, rfl, ?_⟩
    exact wps_mono (one_ok (T := T) (Nat.le_refl _) hd h4) (fun _ _ ⟨h, a, b, c, e⟩ => ⟨h, _, _, _, e⟩) (fun _ _ h => h) (fun _ _ h => h.elim) (fun _ _ h => h.elim) fun _ _ _ h => h
  · rintro ρ S1 ⟨rfl, a, b, c, rfl⟩
    simp [r_law_20]
    show (fin Md.pure S.length _ _).wp _ _
    simp
theorem set_last {T : Sto} {o : Ob} : (S ++ (T ++ [o])) = (S ++ (T ++ [o])).set (S.length + T.length) o := by
  simp
theorem tail_10 {d1 : D} {ns : List Int} {r2 r4 r5 k6 k7 k8 k9 : Option R} {sh : List Int} {T : Sto} {s4 : Int} (hn : ns.length ≤ 63) (h1 : GM 50 d1) (h4 : sh[4]? = some s4) :
    wpS (r_law_10 (sem 99)) S.length [some (scr ns), some (.loc S.length), r2, some (.d d1), r4, r5, k6, k7, k8, k9] (S ++ .box .lst (sh.map R.int) :: T) NoE (RTt S) NoE NoE NoX := by
  obtain ⟨v, e1⟩ := sp_cell (S := S ++ .box .lst (sh.map R.int) :: T) (n := 98) (k := 4) hn (by omega) (by omega)
  obtain ⟨vs, e2, _⟩ := sp_rep (S := S ++ .box .lst (sh.map R.int) :: T) (n := 98) (k := 40) (c := v) (z := 5040) (by decide) (by decide)
  obtain ⟨d, vs', e3, g⟩ := sp_rule 3 93 (by omega) (S ++ .box .lst (sh.map R.int) :: (T ++ [.box .lst (vs.map R.int)])) (S.length + (T.length + 1)) vs ["y", "x"] [] (by simp) (by simp) ⟨by simp, by
    simp
    exact ⟨(show okA (.str "y") = true by decide +kernel), (show okA (.str "x") = true by decide +kernel)⟩⟩ ⟨by simp, by simp⟩
  simp at e3
  have t := tail_11 (S := S) (sc := .box .lck (ns.map D.int)) (r2 := r2) (r5 := r5) (k6 := k6) (k7 := k7) (k8 := k8) (k9 := k9) (T := T ++ [.box .lst (vs'.map R.int)]) h1 (g.gm.le (by omega)) h4
  simp [r_law_10, e1, e2, e3, -List.reduceReplicate]
  exact t
theorem tail_7 {d1 : D} {ns : List Int} {r2 r4 r5 k6 k7 k8 k9 : Option R} {sh : List Int} {T : Sto} {s0 s2 s4 : Int} (hn : ns.length ≤ 63) (h1 : GM 12 d1) (h0 : sh[0]? = some s0) (h2 : sh[2]? = some s2) (b2 : 0 ≤ s2 ∧ s2 < 35) (h4 : sh[4]? = some s4) :
    wpS (r_law_7 (sem 99)) S.length [some (scr ns), some (.loc S.length), r2, some (.d d1), r4, r5, k6, k7, k8, k9] (S ++ .box .lst (sh.map R.int) :: T) NoE (RTt S) NoE NoE NoX := by
  by_cases c : s0 = 2
  · simp [r_law_7, h0, h2, c, okR_of (i := s2) (by omega) (by omega)]
    refine wpl_rng (fun i ρ S1 => S1 = S ++ .box .lst (sh.map R.int) :: T ∧ ∃ d a, GM (12 + i) d ∧ ρ = [some (scr ns), some (.loc S.length), r2, some (.d d), r4, r5, k6, a, k8, k9]) ?_ ?_ ?_
    · exact ⟨rfl, _, _, h1, rfl⟩
    · rintro i ρ S1 hi ⟨rfl, d, a, g, rfl⟩
      simp [r_law_9]
      exact g.not
    · rintro ρ S1 ⟨rfl, d, a, g, rfl⟩
      exact tail_10 hn (g.le (by omega)) h4
  · simp [r_law_7, h0, c]
    exact tail_10 hn (h1.le (by omega)) h4
theorem law_true (ns : List Int) (h : ns.length ≤ 63) : ∃ S', sem depth 15 [scr ns] [] = .ok (.bl true) S' := by
  generalize ([] : Sto) = S
  have key : (sem (99 + 1) 15 [scr ns] S).wp (fun x T => x = .bl true) NoX1 := by
    rw [sem_law, wp_run, show (List.map some [scr ns] ++ List.replicate (10 - [scr ns].length) none : DL.Env) = [some (scr ns), none, none, none, none, none, none, none, none, none] from rfl]
    obtain ⟨v, e1⟩ := sp_cell (S := S) (n := 98) (k := 0) h (by omega) (by omega)
    obtain ⟨sh, e2, hl, hd⟩ := sp_dig (S := S) (n := 98) (c := v) (zs := [8, 399, 35, 2, 2]) (by decide) (by decide)
    obtain ⟨s0, s1, s2, s3, s4, rfl⟩ : ∃ a b c d e, sh = [a, b, c, d, e] := by
      match sh, hl with
      | [a, b, c, d, e], _ => exact ⟨a, b, c, d, e, rfl⟩
    have b1 := hd.b 1 s1 399 rfl rfl
    have b2 := hd.b 2 s2 35 rfl rfl
    have b3 := hd.b 3 s3 2 rfl rfl
    obtain ⟨v1, e3⟩ := sp_cell (S := S ++ [.box .lst [R.int s0, .int s1, .int s2, .int s3, .int s4]]) (n := 98) (k := 1) h (by omega) (by omega)
    obtain ⟨w1, e4, l1⟩ := sp_rep (S := S ++ [.box .lst [R.int s0, .int s1, .int s2, .int s3, .int s4]]) (n := 98) (k := 40) (c := v1) (z := 5040) (by decide) (by decide)
    obtain ⟨v2, e5⟩ := sp_cell (S := S ++ [.box .lst [R.int s0, .int s1, .int s2, .int s3, .int s4], .box .lst (w1.map R.int)]) (n := 98) (k := 2) h (by omega) (by omega)
    obtain ⟨w2, e6, l2⟩ := sp_rep (S := S ++ [.box .lst [R.int s0, .int s1, .int s2, .int s3, .int s4], .box .lst (w1.map R.int)]) (n := 98) (k := 40) (c := v2) (z := 5040) (by decide) (by decide)
    obtain ⟨d, w, e7, g⟩ := sp_rule 5 91 (by omega) (S ++ [.box .lst [R.int s0, .int s1, .int s2, .int s3, .int s4], .box .lst (w1.map R.int), .box .lst (w2.map R.int), .box .lst ((w1 ++ w2).map R.int)]) (S.length + 3) (w1 ++ w2) ["x", "y"] [] (by simp) (by simp) ⟨by simp, by
      simp
      exact ⟨(show okA (.str "x") = true by decide +kernel), (show okA (.str "y") = true by decide +kernel)⟩⟩ ⟨by simp, by simp⟩
    simp [-List.reduceReplicate] at e2 e4 e6 e7
    simp [b_law, r_law_2, r_law_3, e1, e2, e3, e4, e5, e6, e7, -List.reduceReplicate]
    refine ⟨by omega, ?_⟩
    have end7 : ∀ (d : D) (T : Sto) (k6 k7 : Option R), GM 12 d → wpS (r_law_7 (sem 99)) S.length [some (scr ns), some (.loc S.length), some (.loc (S.length + 3)), some (.d d), none, none, k6, k7, none, none] (S ++ .box .lst [R.int s0, .int s1, .int s2, .int s3, .int s4] :: T)
        (fun x S1 => (Out.ok (R.d D.non) (List.take S.length S1)).wp (fun x T => x = R.bl true) NoX1) (RTt S) NoE NoE fun e x S1 => NoX1 e (List.take S.length S1) := fun d T k6 k7 g =>
      wps_mono (tail_7 (S := S) (T := T) (r2 := some (.loc (S.length + 3))) (r4 := none) (r5 := none) (k6 := k6) (k7 := k7) (k8 := none) (k9 := none) (sh := [s0, s1, s2, s3, s4]) h g rfl rfl b2 rfl) (fun _ _ h => h.elim) (fun _ _ h => h) (fun _ _ h => h) (fun _ _ h => h) fun _ _ _ h => h
    by_cases c : s0 = 1
    · obtain ⟨v3, f3⟩ := sp_cell (S := S ++ [.box .lst [R.int s0, .int s1, .int s2, .int s3, .int s4], .box .lst (w1.map R.int), .box .lst (w2.map R.int), .box .lst (w.map R.int)]) (n := 98) (k := 3) h (by omega) (by omega)
      obtain ⟨w3, f4, l3⟩ := sp_rep (S := S ++ [.box .lst [R.int s0, .int s1, .int s2, .int s3, .int s4], .box .lst (w1.map R.int), .box .lst (w2.map R.int), .box .lst (w.map R.int)]) (n := 98) (k := 2400) (c := v3) (z := 5040) (by decide) (by decide)
      have hop : ∃ op : Str, (op = "and" ∨ op = "or") ∧ atI [D.str "and", .str "or"] s3 = some (.str op) := by
        rcases (by omega : s3 = 0 ∨ s3 = 1) with e | e
        · exact ⟨"and", .inl rfl, by rw [e]; simp⟩
        · exact ⟨"or", .inr rfl, by rw [e]; simp⟩
      obtain ⟨op, ho, he⟩ := hop
      simp [-List.reduceReplicate] at f4
      subst c
      simp [r_law_4, f3, f4, -List.reduceReplicate, r_law_6, he, okR_of (i := 2 + s1) (by omega) (by omega)]
      refine wpc_inv (fun j acc S1 => ∃ (ds : List D) (vs' : List Int), ds.length = j ∧ acc = ds.map R.d ∧ S1 = S ++ [.box .lst [R.int 1, .int s1, .int s2, .int s3, .int s4], .box .lst (w1.map R.int), .box .lst (w2.map R.int), .box .lst (w.map R.int), .box .lst (vs'.map R.int)] ∧ ∀ d ∈ ds, Good 5 d) (by simp; omega) ⟨[], _, rfl, rfl, rfl, by simp⟩ ?_ ?_ ?_
      · rintro j acc S1 ⟨ds, vs', h1, rfl, _⟩
        simp [h1]
      · rintro j x acc S1 hx ⟨ds, vs', rfl, rfl, rfl, hg⟩
        obtain ⟨d, vs2, e, g⟩ := sp_atom (S := S ++ [.box .lst [R.int 1, .int s1, .int s2, .int s3, .int s4], .box .lst (w1.map R.int), .box .lst (w2.map R.int), .box .lst (w.map R.int), .box .lst (vs'.map R.int)]) (n := 97) (l := S.length + 4) (vs := vs') (ts := ["x", "y"]) (ss := []) (by simp) ⟨by simp, by
          simp
          exact ⟨(show okA (.str "x") = true by decide +kernel), (show okA (.str "y") = true by decide +kernel)⟩⟩ (by simp) ⟨by simp, by simp⟩
        simp at e
        simp [e]
        exact ⟨ds ++ [d], by simp, by simp, ⟨_, rfl⟩, fun z hz => (List.mem_append.mp hz).elim (hg z) fun hz => by rw [List.mem_singleton.mp hz]; exact g _⟩
      · rintro acc S1 ⟨ds, vs', h1, rfl, rfl, hg⟩
        simp [he]
        have hn : ds.length ≤ 10000 := by simp at h1; omega
        exact end7 _ _ _ _ (g_many (n := 4) ho hn hg).gm
    · simp [r_law_4, c]
      exact end7 _ _ _ _ g.gm
  cases q : sem (99 + 1) 15 [scr ns] S with
  | ok r S1 =>
    rw [q] at key
    exact ⟨S1, by rw [show depth = 99 + 1 from rfl, q, show r = .bl true from key]⟩
  | exc e S1 => rw [q] at key; exact key.elim
  | bad => rw [q] at key; exact key.elim
end G

namespace G
open PySem PySem.Spec PyProof.Rows L2 DL
set_option maxHeartbeats 0 in
theorem run (w : World) : HandSHeadRun.RunEq R0 (PySem.W.view R0.prog [20]) hk ob 20000 loose w := PySem.W.byRow2 "special-get-raises" (P := fun w => HandSHeadRun.RunEq R0 (PySem.W.view R0.prog [20]) hk ob 20000 loose w) (fun w os => by kernel_rfl) (fun w os => by kernel_rfl) w
end G
open PySem PySem.W PySem.Calls PyProof.Rows
set_option maxHeartbeats 0 in
theorem PySem.Challenge.cw_oneheadeach_k75_signing_sayings_holds : PySem.Challenge.rw_oneheadeach_k75_signing_sayings.Holds := by
  w_on; o_law
  refine HandSHeadRun.head_any (r := OpenLaw.row PySem.Challenge.rw_oneheadeach_k75_signing_sayings) (q := view (OpenLaw.row PySem.Challenge.rw_oneheadeach_k75_signing_sayings).prog [20]) (H := G.hk) (ob := G.ob) (M := 20000) (loose := G.loose) (d := HandSHeadRun.topDef (OpenLaw.row PySem.Challenge.rw_oneheadeach_k75_signing_sayings).prog 20) (kwd := []) G.ob_eq
    (by kernel_rfl) (fun s => by kernel_rfl) G.run (by kernel_rfl) (by kernel_rfl) (by kernel_rfl) (by rfl) (by first | assumption | decide +kernel) (by decide +kernel) ⟨rfl, rfl, rfl, rfl, rfl, by decide +kernel⟩ ?hw ?hc
  case hw => w_witness2
  case hc =>
    refine L2.walk_ofE (l := PySem.Challenge.rw_oneheadeach_k75_signing_sayings) (n := 63) (k := 2 * G.depth) (x := "script") (CX := L2.CX0) rfl (by decide) (by kernel_rfl) ⟨rfl, by decide, by decide⟩ ?F (fun _ _ _ _ z => z)
    intro w mg fa h Y G0 hmg0
    obtain ⟨K, KX, c⟩ := Y
    obtain ⟨hl, fd, hb, hF⟩ := G.facts (P := (PySem.Challenge.rw_oneheadeach_k75_signing_sayings).prog) (w := w) KX G0 c
    have hmg : mg ("law" : PySem.Str) = some (.ref fa) := by
      have e : (HandSHeadRun.topDef (OpenLaw.row PySem.Challenge.rw_oneheadeach_k75_signing_sayings).prog 20).name = ("law" : PySem.Str) := by kernel_rfl
      rw [← e]
      exact hmg0
    have e := hmg.symm.trans hl
    cases e
    exact ⟨K, fd, fun vs H Q _ => DL.spD K ⟨fun c => He.ga K (G.clsName c), G.clsFlds⟩ 1 (G.sem G.depth 15) vs H Q L2.E0, KX, hb, fun H a ns hlen _ hS => DL.law_sp hS (G.law_true ns hlen), fun base _ _ => DL.fn_nox (hF G.depth base)⟩

