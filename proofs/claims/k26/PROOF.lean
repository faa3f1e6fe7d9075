import PyProof.Rows.All
import Wide.All
import OpenK.AllK
import Wide.FinOn
import HandS.ForMost
import HandS.Exc
import HandS.TryOnly
import HandS.ExcOwn
import HandS.WordsExc
import HandS.CallSlots
import HandS.TupAny
import HandS.TupMul
import HandS.Wide
import HandS.Deep
import HandS.Flow
import HandS.Style
import HandS.RaiseMore
import HandS.IsInst
import HandS.Zip
import HandS.Rev
import HandS.EndBits
import PySem.Challenge.RW_rowturners_k26_lines_told_the_shortest_w
section
set_option Elab.async false
set_option linter.all false
set_option maxRecDepth 100000
/-! The value layer: what the interpreter's state stands for, as trees without addresses. -/
namespace VL
open PySem PySem.Spec PyProof.Rows L2

inductive D where
  | non | bl (b : Bool) | int (i : Int) | str (x : Str)
  | tup (ds : List D) | lst (ds : List D) | dct (ks : List D) (vs : List D) | set (ds : List D)
  | ins (c : Nat) (fs : List D) | scr (ns : List Int)
  deriving Inhabited

/-- the written part, the classes by number: address, fields -/
structure Cen where
  K : PySem.W.Frag
  cad : Nat → Addr
  cfs : Nat → List Str

/-- what stands at a for a dict of the keys ks: the values xs (rows of its own later) -/
def DRaw (H : Hp) (a : Addr) (ks : List D) (xs : List V) : Prop :=
  ∃ kvs : List (Key × V), H a = some (.dK kvs) ∧ ks = kvs.map (fun p => match p.1 with | .inl i => D.int i | .inr x => D.str x) ∧ xs = kvs.map (·.2)

mutual
def Rep (c : Cen) (H : Hp) : D → V → Prop
  | .non, v => v = .non
  | .bl b, v => v = .bl b
  | .int i, v => v = .int i
  | .str x, v => v = .str x
  | .tup ds, v => ∃ a xs, v = .ref a ∧ SqT c.K H a xs ∧ Reps c H ds xs
  | .lst ds, v => ∃ a xs, v = .ref a ∧ H a = some (.lst xs) ∧ Reps c H ds xs
  | .dct ks vs, v => ∃ a xs, v = .ref a ∧ DRaw H a ks xs ∧ Reps c H vs xs
  | .set _, _ => False
  | .ins k ds, v => ∃ a dx xs, v = .ref a ∧ H a = some (.ins (c.cad k) dx ((c.cfs k).zip xs)) ∧ Reps c H ds xs
  | .scr ns, v => ∃ a, v = .ref a ∧ SqL c.K H a (ns.map V.int)
def Reps (c : Cen) (H : Hp) : List D → List V → Prop
  | [], xs => xs = []
  | d :: ds, xs => ∃ x r, xs = x :: r ∧ Rep c H d x ∧ Reps c H ds r
end

theorem Rd.sub {H H' : Hp} {a : Addr} {u : HO} (s : Same H H') (h : Rd H a u) : Rd H' a u := by
  rcases h with h | ⟨o, h⟩
  · exact .inl (s _ _ h)
  · exact .inr ⟨o, s _ _ h⟩
theorem SqT.sub {K : PySem.W.Frag} {H H' : Hp} {a : Addr} {xs : List V} (s : Same H H') (h : SqT K H a xs) : SqT K H' a xs := by
  rcases h with h | h
  · exact .inl (Rd.sub s h)
  · exact .inr h
theorem DRaw.sub {H H' : Hp} {a : Addr} {ks : List D} {xs : List V} (s : Same H H') (h : DRaw H a ks xs) : DRaw H' a ks xs := by
  obtain ⟨kvs, h1, h2, h3⟩ := h
  exact ⟨kvs, s _ _ h1, h2, h3⟩
mutual
theorem Rep.sub {c : Cen} {H H' : Hp} (s : Same H H') : ∀ (d : D) (v : V), Rep c H d v → Rep c H' d v
  | .non, v, h => h
  | .bl b, v, h => h
  | .int i, v, h => h
  | .str x, v, h => h
  | .tup ds, v, h => by
    unfold Rep at h ⊢
    obtain ⟨a, xs, e, h1, h2⟩ := h
    exact ⟨a, xs, e, SqT.sub s h1, Reps.sub s ds xs h2⟩
  | .lst ds, v, h => by
    unfold Rep at h ⊢
    obtain ⟨a, xs, e, h1, h2⟩ := h
    exact ⟨a, xs, e, s _ _ h1, Reps.sub s ds xs h2⟩
  | .dct ks vs, v, h => by
    unfold Rep at h ⊢
    obtain ⟨a, xs, e, h1, h2⟩ := h
    exact ⟨a, xs, e, DRaw.sub s h1, Reps.sub s vs xs h2⟩
  | .set ds, v, h => by unfold Rep at h; exact h.elim
  | .ins k ds, v, h => by
    unfold Rep at h ⊢
    obtain ⟨a, dx, xs, e, h1, h2⟩ := h
    exact ⟨a, dx, xs, e, s _ _ h1, Reps.sub s ds xs h2⟩
  | .scr ns, v, h => by
    unfold Rep at h ⊢
    obtain ⟨a, e, h1⟩ := h
    exact ⟨a, e, s.seq h1⟩
theorem Reps.sub {c : Cen} {H H' : Hp} (s : Same H H') : ∀ (ds : List D) (xs : List V), Reps c H ds xs → Reps c H' ds xs
  | [], xs, h => h
  | d :: ds, xs, h => by
    unfold Reps at h ⊢
    obtain ⟨x, r, e, h1, h2⟩ := h
    exact ⟨x, r, e, Rep.sub s d x h1, Reps.sub s ds r h2⟩
end

theorem Reps.cons {c : Cen} {H : Hp} {d : D} {ds : List D} {x : V} {xs : List V} (h1 : Rep c H d x) (h2 : Reps c H ds xs) : Reps c H (d :: ds) (x :: xs) := by
  unfold Reps; exact ⟨x, xs, rfl, h1, h2⟩
theorem Reps.nil {c : Cen} {H : Hp} : Reps c H [] [] := by unfold Reps; rfl
theorem Reps.inv {c : Cen} {H : Hp} {d : D} {ds : List D} {x : V} {xs : List V} (h : Reps c H (d :: ds) (x :: xs)) : Rep c H d x ∧ Reps c H ds xs := by
  unfold Reps at h
  obtain ⟨y, r, e, h1, h2⟩ := h
  cases e
  exact ⟨h1, h2⟩
theorem Reps.len {c : Cen} {H : Hp} : ∀ {ds : List D} {xs : List V}, Reps c H ds xs → ds.length = xs.length
  | [], xs, h => by unfold Reps at h; subst h; rfl
  | d :: ds, xs, h => by
    unfold Reps at h
    obtain ⟨x, r, rfl, _, h2⟩ := h
    simp [Reps.len h2]
theorem Reps.get {c : Cen} {H : Hp} : ∀ {ds : List D} {xs : List V} {i : Nat} {d : D}, Reps c H ds xs → ds[i]? = some d → ∃ x, xs[i]? = some x ∧ Rep c H d x
  | [], _, _, _, _, e => by simp at e
  | d :: ds, xs, i, d', h, e => by
    unfold Reps at h
    obtain ⟨x, r, rfl, h1, h2⟩ := h
    cases i with
    | zero => simp at e; subst e; exact ⟨x, by simp, h1⟩
    | succ i =>
      obtain ⟨y, e1, e2⟩ := Reps.get (i := i) h2 (by simpa using e)
      exact ⟨y, by simpa using e1, e2⟩
theorem Reps.getV {c : Cen} {H : Hp} {ds : List D} {xs : List V} {i : Nat} {x : V} (h : Reps c H ds xs) (e : xs[i]? = some x) : ∃ d, ds[i]? = some d ∧ Rep c H d x := by
  have hi : i < ds.length := by rw [h.len]; exact (List.getElem?_eq_some_iff.mp e).1
  obtain ⟨y, e1, r⟩ := h.get (i := i) (d := ds[i]) (by simp [hi])
  rw [e] at e1; cases e1
  exact ⟨_, by simp [hi], r⟩
theorem Reps.append {c : Cen} {H : Hp} : ∀ {ds es : List D} {xs ys : List V}, Reps c H ds xs → Reps c H es ys → Reps c H (ds ++ es) (xs ++ ys)
  | [], es, xs, ys, h, h' => by unfold Reps at h; subst h; exact h'
  | d :: ds, es, xs, ys, h, h' => by
    unfold Reps at h
    obtain ⟨x, r, rfl, h1, h2⟩ := h
    exact Reps.cons h1 (Reps.append h2 h')
theorem Reps.take {c : Cen} {H : Hp} : ∀ {ds : List D} {xs : List V} (n : Nat), Reps c H ds xs → Reps c H (ds.take n) (xs.take n)
  | _, _, 0, _ => by simp; exact Reps.nil
  | [], xs, n + 1, h => by unfold Reps at h; subst h; exact Reps.nil
  | d :: ds, xs, n + 1, h => by
    unfold Reps at h
    obtain ⟨x, r, rfl, h1, h2⟩ := h
    exact Reps.cons h1 (Reps.take n h2)
theorem Reps.drop {c : Cen} {H : Hp} : ∀ {ds : List D} {xs : List V} (n : Nat), Reps c H ds xs → Reps c H (ds.drop n) (xs.drop n)
  | _, _, 0, h => h
  | [], xs, n + 1, h => by unfold Reps at h; subst h; exact Reps.nil
  | d :: ds, xs, n + 1, h => by
    unfold Reps at h
    obtain ⟨x, r, rfl, h1, h2⟩ := h
    exact Reps.drop n h2
theorem Reps.set {c : Cen} {H : Hp} : ∀ {ds : List D} {xs : List V} (n : Nat) {d : D} {x : V}, Rep c H d x → Reps c H ds xs → Reps c H (ds.set n d) (xs.set n x)
  | [], xs, n, d, x, _, h => by unfold Reps at h; subst h; simp; exact Reps.nil
  | d0 :: ds, xs, n, d, x, hd, h => by
    unfold Reps at h
    obtain ⟨y, r, rfl, h1, h2⟩ := h
    cases n with
    | zero => exact Reps.cons hd h2
    | succ n => exact Reps.cons h1 (Reps.set n hd h2)

/-! ### hiding -/
open Classical in
noncomputable def hide (S : Addr → Prop) (H : Hp) : Hp := fun a => if S a then none else H a
theorem hide_sub {S : Addr → Prop} {H : Hp} : Same (hide S H) H := fun a o h => by
  unfold hide at h
  split at h
  · cases h
  · exact h
theorem hide_of {S : Addr → Prop} {H : Hp} {a : Addr} {o : HO} (h : H a = some o) (n : ¬ S a) : hide S H a = some o := by
  unfold hide; rw [if_neg n]; exact h
theorem of_hide {S : Addr → Prop} {H : Hp} {a : Addr} {o : HO} (h : hide S H a = some o) : H a = some o ∧ ¬ S a := by
  unfold hide at h
  split at h
  · cases h
  · exact ⟨h, by assumption⟩
/-- fewer hidden, more heap -/
theorem hide_mono {S S' : Addr → Prop} {H H' : Hp} (hs : ∀ a, S' a → S a) (k : ∀ a o, H a = some o → ¬ S a → H' a = some o) : Same (hide S H) (hide S' H') := fun a o h => by
  obtain ⟨h1, h2⟩ := of_hide h
  exact hide_of (k a o h1 h2) fun z => h2 (hs a z)

/-! ### isPure trees: nothing that may be written -/
mutual
def isPure : D → Bool
  | .non | .bl _ | .int _ | .str _ => true
  | .tup ds => arePure ds
  | .ins _ ds => arePure ds
  | .lst _ | .dct _ _ | .set _ | .scr _ => false
def arePure : List D → Bool
  | [] => true
  | d :: ds => isPure d && arePure ds
end
/-- at the hidden places of S that are not of S0 stand lists and dicts alone -/
def Muts (S : Addr → Prop) (H : Hp) : Prop := ∀ a, S a → ∃ o, H a = some o ∧ (∀ xs, o ≠ .tup xs) ∧ (∀ ob xs, o ≠ .frz ob (.tup xs)) ∧ ∀ C dx fs, o ≠ .ins C dx fs
mutual
theorem Rep.pureH {c : Cen} {H : Hp} {S S' : Addr → Prop} (m : Muts S' H) : ∀ (d : D) (v : V), isPure d = true → Rep c (hide S H) d v → Rep c (hide (fun a => S a ∨ S' a) H) d v
  | .non, v, _, h => h
  | .bl b, v, _, h => h
  | .int i, v, _, h => h
  | .str x, v, _, h => h
  | .tup ds, v, p, h => by
    unfold Rep at h ⊢
    obtain ⟨a, xs, e, h1, h2⟩ := h
    refine ⟨a, xs, e, ?_, Reps.pureH m ds xs (by unfold isPure at p; exact p) h2⟩
    rcases h1 with (h1 | ⟨o, h1⟩) | h1
    · obtain ⟨q, n⟩ := of_hide h1
      refine .inl (.inl (hide_of q fun z => ?_))
      rcases z with z | z
      · exact n z
      · obtain ⟨o, ho, h3, _⟩ := m a z
        rw [q] at ho; cases ho; exact h3 xs rfl
    · obtain ⟨q, n⟩ := of_hide h1
      refine .inl (.inr ⟨o, hide_of q fun z => ?_⟩)
      rcases z with z | z
      · exact n z
      · obtain ⟨o', ho, _, h3, _⟩ := m a z
        rw [q] at ho; cases ho; exact h3 o xs rfl
    · exact .inr h1
  | .lst ds, v, p, h => by unfold isPure at p; cases p
  | .dct ks vs, v, p, h => by unfold isPure at p; cases p
  | .set ds, v, p, h => by unfold isPure at p; cases p
  | .scr ns, v, p, h => by unfold isPure at p; cases p
  | .ins k ds, v, p, h => by
    unfold Rep at h ⊢
    obtain ⟨a, dx, xs, e, h1, h2⟩ := h
    obtain ⟨q, n⟩ := of_hide h1
    refine ⟨a, dx, xs, e, hide_of q fun z => ?_, Reps.pureH m ds xs (by unfold isPure at p; exact p) h2⟩
    rcases z with z | z
    · exact n z
    · obtain ⟨o, ho, _, _, h3⟩ := m a z
      rw [q] at ho; cases ho; exact h3 _ _ _ rfl
theorem Reps.pureH {c : Cen} {H : Hp} {S S' : Addr → Prop} (m : Muts S' H) : ∀ (ds : List D) (xs : List V), arePure ds = true → Reps c (hide S H) ds xs → Reps c (hide (fun a => S a ∨ S' a) H) ds xs
  | [], xs, _, h => by unfold Reps at h ⊢; exact h
  | d :: ds, xs, p, h => by
    unfold arePure at p
    rw [Bool.and_eq_true] at p
    unfold Reps at h
    obtain ⟨x, r, rfl, h1, h2⟩ := h
    exact Reps.cons (Rep.pureH m d x p.1 h1) (Reps.pureH m ds r p.2 h2)
end
end VL
end

section
set_option Elab.async false
set_option linter.all false
set_option maxRecDepth 100000
namespace VL
open PySem PySem.Spec PyProof.Rows L2

/-! ### what the isPure side computes -/
abbrev Env := List (Option D)
structure Exn where
  cls : Nat
  fs : List D
inductive R (α : Type) where
  | ok (a : α) | exc (x : Exn) (e : Env) | bad
inductive Fl where
  | next | brk | cont | ret (d : D)
abbrev ED := Env → R (D × Env)
abbrev TD := Env → R (Bool × Env)
abbrev AD := Env → R (List D × Env)
abbrev SD := Env → R (Fl × Env)
def R.bind {α β : Type} (r : R α) (k : α → R β) : R β := match r with
  | .ok a => k a
  | .exc x e => .exc x e
  | .bad => .bad
def R.guard {α : Type} (b : Bool) (r : R α) : R α := if b then r else .bad
@[simp] theorem R.bind_ok {α β : Type} (a : α) (k : α → R β) : (R.ok a).bind k = k a := (rfl)
@[simp] theorem R.bind_exc {α β : Type} (x : Exn) (e : Env) (k : α → R β) : (R.exc x e).bind k = .exc x e := (rfl)
@[simp] theorem R.bind_bad {α β : Type} (k : α → R β) : (R.bad : R α).bind k = .bad := (rfl)
@[simp] theorem R.guard_true {α : Type} (r : R α) : R.guard true r = r := (rfl)
@[simp] theorem R.guard_false {α : Type} (r : R α) : R.guard false r = .bad := (rfl)
def RP {α : Type} (r : R (α × Env)) (P : α → Env → Prop) (Ex : Exn → Env → Prop) : Prop := match r with
  | .ok (a, e) => P a e
  | .exc x e => Ex x e
  | .bad => False
theorem RP.mono {α : Type} {r : R (α × Env)} {P P' : α → Env → Prop} {Ex Ex' : Exn → Env → Prop} (h : RP r P Ex) (hp : ∀ a e, P a e → P' a e) (he : ∀ x e, Ex x e → Ex' x e) : RP r P' Ex' := by
  unfold RP at h ⊢
  split <;> simp_all
theorem RP.bind {α β : Type} {r : R (α × Env)} {k : α × Env → R (β × Env)} {P : β → Env → Prop} {Ex : Exn → Env → Prop} (h : RP (r.bind k) P Ex) : RP r (fun a e => RP (k (a, e)) P Ex) Ex := by
  cases r with
  | ok a => exact h
  | exc x e => exact h
  | bad => exact h
theorem RP.guard {α : Type} {b : Bool} {r : R (α × Env)} {P : α → Env → Prop} {Ex : Exn → Env → Prop} (h : RP (R.guard b r) P Ex) : b = true ∧ RP r P Ex := by
  cases b with
  | true => exact ⟨rfl, h⟩
  | false => exact h.elim

/-! ### the frame's state -/
structure Gm where
  H0 : Hp
  ins : List (Nat × Addr)
  Hid : Addr → Prop
def Gm.inA (G : Gm) (a : Addr) : Prop := ∃ p ∈ G.ins, p.2 = a
/-- the places that the owned slots O hold -/
def Wn (O : List Nat) (σ : L2.St) (a : Addr) : Prop := ∃ i ∈ O, σ[i]? = some (some (.ref a))
def RepO (c : Cen) (Hh H : Hp) : D → Addr → Prop
  | .lst ds, a => ∃ xs, H a = some (.lst xs) ∧ Reps c Hh ds xs
  | .dct ks vs, a => ∃ (kvs : List (Key × V)), H a = some (.dK kvs) ∧ ks = kvs.map (fun p => match p.1 with | .inl i => D.int i | .inr x => D.str x) ∧ Reps c Hh vs (kvs.map (·.2))
  | _, _ => False
theorem RepO.sub {c : Cen} {Hh Hh' H H' : Hp} {d : D} {a : Addr} (h : RepO c Hh H d a) (s : Same Hh Hh') (k : ∀ o, H a = some o → H' a = some o) : RepO c Hh' H' d a := by
  cases d <;> first | exact h.elim | skip
  · obtain ⟨xs, h1, h2⟩ := h; exact ⟨xs, k _ h1, Reps.sub s _ _ h2⟩
  · obtain ⟨xs, h1, h2, h3⟩ := h; exact ⟨xs, k _ h1, h2, Reps.sub s _ _ h3⟩
theorem RepO.at {c : Cen} {Hh H : Hp} {d : D} {a : Addr} (h : RepO c Hh H d a) : ∃ o, H a = some o ∧ (∀ xs, o ≠ .tup xs) ∧ (∀ ob xs, o ≠ .frz ob (.tup xs)) ∧ (∀ C dx fs, o ≠ .ins C dx fs) ∧ Mut (some o) := by
  cases d <;> first | exact h.elim | skip
  · obtain ⟨xs, h1, h2⟩ := h
    exact ⟨_, h1, fun _ => by simp, fun _ _ => by simp, fun _ _ _ => by simp, trivial⟩
  · obtain ⟨xs, h1, h2, h3⟩ := h
    exact ⟨_, h1, fun _ => by simp, fun _ _ => by simp, fun _ _ _ => by simp, trivial⟩
/-- an owned thing read as a value -/
theorem RepO.rep {c : Cen} {Hh H : Hp} {d : D} {a : Addr} (h : RepO c Hh H d a) (s : Same Hh H) : Rep c H d (.ref a) := by
  cases d <;> first | exact h.elim | skip
  · obtain ⟨xs, h1, h2⟩ := h
    unfold Rep
    exact ⟨a, xs, rfl, h1, Reps.sub s _ _ h2⟩
  · obtain ⟨kvs, h1, h2, h3⟩ := h
    unfold Rep
    exact ⟨a, _, rfl, ⟨kvs, h1, h2, rfl⟩, Reps.sub s _ _ h3⟩

/-- hidden from permanent things; from things of the moment -/
def hs (G : Gm) (F : List Nat) (σ : L2.St) (a : Addr) : Prop := G.Hid a ∨ Wn F σ a
structure VS (c : Cen) (G : Gm) (O : List Nat) (env : Env) (σ : L2.St) (H : Hp) : Prop where
  len : env.length = σ.length
  imm : ∀ i d, env[i]? = some (some d) → i ∉ O → ∃ v, σ[i]? = some (some v) ∧ Rep c (hide (hs G O σ) H) d v
  own : ∀ i, i ∈ O → ∃ d a, env[i]? = some (some d) ∧ σ[i]? = some (some (.ref a)) ∧ RepO c (hide (hs G O σ) H) H d a ∧ ¬ G.Hid a ∧ (G.H0 a = none ∨ G.inA a)
  sep : ∀ i ∈ O, ∀ j ∈ O, σ[i]? = σ[j]? → i = j
  frame : ∀ a o, G.H0 a = some o → ¬ G.inA a → H a = some o
  hid : ∀ a, G.Hid a → G.H0 a ≠ none ∧ ¬ G.inA a
  ios : ∀ p ∈ G.ins, p.1 ∈ O ∧ σ[p.1]? = some (some (.ref p.2))

def Keep (mu : Bool) (S : Addr → Prop) (H H' : Hp) : Prop := ∀ a o, H a = some o → (mu = true → ¬ S a) → H' a = some o
theorem Keep.refl {mu : Bool} {S : Addr → Prop} {H : Hp} : Keep mu S H H := fun _ _ h _ => h
theorem Keep.trans {mu : Bool} {S : Addr → Prop} {H H1 H2 : Hp} (a : Keep mu S H H1) (b : Keep mu S H1 H2) : Keep mu S H H2 := fun x o h n => b x o (a x o h n) n
theorem Keep.up {mu : Bool} {S : Addr → Prop} {H H1 : Hp} (a : Keep false S H H1) : Keep mu S H H1 := fun x o h _ => a x o h (by simp)
theorem Keep.same {S : Addr → Prop} {H H1 : Hp} (a : Keep false S H H1) : Same H H1 := fun x o h => a x o h (by simp)
theorem Keep.of {mu : Bool} {S : Addr → Prop} {H H1 : Hp} (a : Same H H1) : Keep mu S H H1 := fun x o h _ => a x o h
/-- values of the moment stay while nothing owned is written; permanent ones stay -/
theorem Wn.sub {O F : List Nat} {σ : L2.St} {a : Addr} (s : ∀ i ∈ O, i ∈ F) (w : Wn O σ a) : Wn F σ a := let ⟨i, hi, e⟩ := w; ⟨i, s i hi, e⟩
theorem Keep.hide {mu : Bool} {G : Gm} {O F : List Nat} {σ : L2.St} {H H1 : Hp} (a : Keep mu (Wn O σ) H H1) (h : mu = true → ∀ i ∈ O, i ∈ F) : Same (hide (hs G F σ) H) (hide (hs G F σ) H1) :=
  hide_mono (fun _ z => z) fun x o e n => a x o e fun m w => n (.inr (w.sub (h m)))

section
variable {c : Cen} {G : Gm} {O : List Nat} {env : Env} {σ : L2.St} {H : Hp}
theorem VS.fresh (v : VS c G O env σ H) {p : Addr} (h : H p = none) : ¬ G.Hid p ∧ ¬ Wn O σ p ∧ G.H0 p = none := by
  have hw : ¬ Wn O σ p := fun ⟨i, hi, e⟩ => by
    obtain ⟨d, a, _, e2, e3, _⟩ := v.own i hi
    rw [e] at e2; cases e2
    obtain ⟨o, ho, _⟩ := e3.at
    rw [h] at ho; cases ho
  have hi : ¬ G.inA p := fun ⟨q, hq, e⟩ => hw ⟨q.1, (v.ios q hq).1, by rw [(v.ios q hq).2, e]⟩
  have h0 : G.H0 p = none := by
    cases e : G.H0 p with
    | none => rfl
    | some o => rw [v.frame p o e hi] at h; cases h
  exact ⟨fun z => (v.hid p z).1 h0, hw, h0⟩
theorem VS.muts (v : VS c G O env σ H) : Muts (Wn O σ) H := fun a ⟨i, hi, e⟩ => by
  obtain ⟨d, b, _, e2, e3, _⟩ := v.own i hi
  rw [e] at e2; cases e2
  obtain ⟨o, h1, h2, h3, h4, _⟩ := e3.at
  exact ⟨o, h1, h2, h3, h4⟩
/-- the state behind growth: nothing that stood is changed -/
theorem VS.grow {H' : Hp} (v : VS c G O env σ H) (s : Same H H') : VS c G O env σ H' := by
  have sh : Same (hide (hs G O σ) H) (hide (hs G O σ) H') := hide_mono (fun _ z => z) fun x o e _ => s x o e
  refine ⟨v.len, fun i d e n => ?_, fun i hi => ?_, v.sep, fun a o e n => s _ _ (v.frame a o e n), v.hid, v.ios⟩
  · obtain ⟨x, h1, h2⟩ := v.imm i d e n
    exact ⟨x, h1, Rep.sub sh _ _ h2⟩
  · obtain ⟨d, a, h1, h2, h3, h4⟩ := v.own i hi
    exact ⟨d, a, h1, h2, h3.sub sh fun o => s a o, h4⟩
/-- a isPure value of the moment is permanent -/
theorem VS.perm (v : VS c G O env σ H) {d : D} {x : V} {F : List Nat} (hF : ∀ i ∈ F, i ∈ O) (p : isPure d = true) (h : Rep c (hide (hs G [] σ) H) d x) : Rep c (hide (hs G F σ) H) d x := by
  have e : Rep c (VL.hide (fun a => hs G [] σ a ∨ Wn O σ a) H) d x := Rep.pureH v.muts d x p h
  refine Rep.sub (hide_mono (fun a z => ?_) fun _ _ e _ => e) d x e
  rcases z with z | z
  · exact .inl (.inl z)
  · exact .inr (z.sub hF)
theorem hs_le {F F' : List Nat} (h : ∀ i ∈ F', i ∈ F) : Same (hide (hs G F σ) H) (hide (hs G F' σ) H) := hide_mono (fun a z => by
  rcases z with z | z
  · exact .inl z
  · exact .inr (z.sub h)) fun _ _ e _ => e
end

/-! ### the readings of the isPure side -/
/-- an exception in the air -/
def ExcRep (c : Cen) (Hh : Hp) (x : Exn) (cls : Value) (dd : Option Addr) : Prop :=
  cls = .ref (c.cad x.cls) ∧ ((x.fs = [] ∧ dd = none) ∨ ∃ d xs, dd = some d ∧ Hh d = some (.xd ((c.cfs x.cls).zip xs)) ∧ Reps c Hh x.fs xs)
def exK (c : Cen) (G : Gm) (W : WX) (O : List Nat) (σ : L2.St) : Exn → Env → Prop := fun x env' => ∀ cls dd H', VS c G O env' σ H' → ExcRep c (hide G.Hid H') x cls dd → W cls dd σ H'
def dE (c : Cen) (G : Gm) (W : WX) (O F : List Nat) (mu : Bool) (m : ED) : TE := fun σ H Q => ∃ env, VS c G O env σ H ∧
  RP (m env) (fun d env' => ∀ v H', VS c G O env' σ H' → Keep mu (Wn O σ) H H' → Rep c (hide (hs G F σ) H') d v → Q v H') (exK c G W O σ)
def dT (c : Cen) (G : Gm) (W : WX) (O : List Nat) (mu : Bool) (m : TD) : TT := fun σ H Q => ∃ env, VS c G O env σ H ∧
  RP (m env) (fun b env' => ∀ H', VS c G O env' σ H' → Keep mu (Wn O σ) H H' → Q b H') (exK c G W O σ)
def dA (c : Cen) (G : Gm) (W : WX) (O F : List Nat) (mu : Bool) (m : AD) : TA := fun σ H Q => ∃ env, VS c G O env σ H ∧
  RP (m env) (fun ds env' => ∀ vs H', VS c G O env' σ H' → Keep mu (Wn O σ) H H' → Reps c (hide (hs G F σ) H') ds vs → Q vs H') (exK c G W O σ)
structure DE (X : Cx) (c : Cen) (W : WX) (O F : List Nat) (mu : Bool) (e : Expr) (m : ED) : Prop where
  hF : ∀ i ∈ F, i ∈ O
  pe : ∀ G, PE X e (dE c G W O F mu m)
structure DT (X : Cx) (c : Cen) (W : WX) (O : List Nat) (mu : Bool) (e : Expr) (m : TD) : Prop where
  pt : ∀ G, PT X e (dT c G W O mu m)
structure DWt (X : Cx) (c : Cen) (W : WX) (O : List Nat) (mu : Bool) (e : Expr) (m : TD) : Prop where
  pw : ∀ G, PW X e (dT c G W O mu m)
structure DA (X : Cx) (c : Cen) (W : WX) (O F : List Nat) (mu : Bool) (es : List Expr) (m : AD) : Prop where
  hF : ∀ i ∈ F, i ∈ O
  len : ∀ env ds e, m env = .ok (ds, e) → ds.length = es.length
  pa : ∀ G, PA X es (dA c G W O F mu m)

theorem PE.weak {X : Cx} {e : Expr} {t u : TE} (h : PE X e t) (i : ∀ σ H Q, u σ H Q → t σ H Q) : PE X e u := ⟨fun pins s σ H Q I q => h.run pins s σ H Q I (i σ H Q q)⟩
theorem PT.weak {X : Cx} {e : Expr} {t u : TT} (h : PT X e t) (i : ∀ σ H Q, u σ H Q → t σ H Q) : PT X e u := ⟨fun pins s σ H Q I q => h.run pins s σ H Q I (i σ H Q q)⟩
theorem PW.weak {X : Cx} {e : Expr} {t u : TT} (h : PW X e t) (i : ∀ σ H Q, u σ H Q → t σ H Q) : PW X e u := ⟨fun w pins s σ H Q I q => h.run w pins s σ H Q I (i σ H Q q)⟩
theorem PA.weak {X : Cx} {e : List Expr} {t u : TA} (h : PA X e t) (i : ∀ σ H Q, u σ H Q → t σ H Q) : PA X e u := ⟨fun pos pins s σ H Q I q => h.run pos pins s σ H Q I (i σ H Q q)⟩
theorem PS.weak {X : Cx} {e : Stmt} {t u : TS} (h : PS X e t) (i : ∀ D σ H, u D σ H → t D σ H) : PS X e u := ⟨fun pins s σ H D I q => h.run pins s σ H D I (i D σ H q)⟩
theorem PSs.weak {X : Cx} {e : List Stmt} {t u : TS} (h : PSs X e t) (i : ∀ D σ H, u D σ H → t D σ H) : PSs X e u := ⟨fun pins s σ H D I q => h.run pins s σ H D I (i D σ H q)⟩

/-! ### variables, constants -/
def mVar (i : Nat) : ED := fun env => match env[i]? with
  | some (some d) => .ok (d, env)
  | _ => .bad
def mC (d : D) : ED := fun env => .ok (d, env)
section
variable {X : Cx} {c : Cen} {W : WX} {O F : List Nat} {mu : Bool} {pos : Pos}
/-- a variable: of the moment, whoever owns it -/
theorem de_var (i : Nat) {x : Str} (hN : X.N[i]? = some x := by rfl) (hv : Vis X.env.scope x := by first | exact Or.inl rfl | exact Or.inr (Or.inl rfl) | exact Or.inr (Or.inr rfl)) (hd : (x == ("__debug__" : Str)) = false := by decide)
    (hcd : (x == ("__classdict__" : Str)) = false := by decide) (ho : i ∉ F := by decide) (hF : ∀ i ∈ F, i ∈ O := by decide) : DE X c W O F mu (.Name x pos) (mVar i) := by
  refine ⟨hF, fun G => PE.weak (pe_var hN hv hd hcd) ?_⟩
  rintro σ H Q ⟨env, vs, h⟩
  unfold mVar at h
  split at h
  · rename_i d e
    have h : ∀ v H', VS c G O env σ H' → Keep mu (Wn O σ) H H' → Rep c (hide (hs G F σ) H') d v → Q v H' := h
    by_cases hi : i ∈ O
    · obtain ⟨d', a, h1, h2, h3, h4, h5⟩ := vs.own i hi
      rw [e] at h1; cases h1
      refine ⟨_, h2, h _ H vs Keep.refl ?_⟩
      have nw : ¬ Wn F σ a := fun ⟨j, hj, ej⟩ => ho (by rw [vs.sep i hi j (hF j hj) (h2.trans ej.symm)]; exact hj)
      have q := (h3.sub (Hh' := hide (hs G F σ) H) (H' := hide (hs G F σ) H) (hs_le hF) fun o z => hide_of z (by rintro (z | z) <;> first | exact h4 z | exact nw z))
      exact q.rep fun _ _ z => z
    · obtain ⟨v, h1, h2⟩ := vs.imm i d e hi
      exact ⟨v, h1, h v H vs Keep.refl (Rep.sub (hs_le hF) _ _ h2)⟩
  · exact h.elim
theorem de_int {i j} (hF : ∀ i ∈ F, i ∈ O := by decide) : DE X c W O F mu (.Constant (.int i) j pos) (mC (.int i)) := ⟨hF, fun G => PE.weak pe_int (by
  rintro σ H Q ⟨env, vs, h⟩
  exact h _ H vs Keep.refl (by unfold Rep; rfl))⟩
theorem de_bl {b j} (hF : ∀ i ∈ F, i ∈ O := by decide) : DE X c W O F mu (.Constant (.bool b) j pos) (mC (.bl b)) := ⟨hF, fun G => PE.weak pe_bl (by
  rintro σ H Q ⟨env, vs, h⟩
  exact h _ H vs Keep.refl (by unfold Rep; rfl))⟩
theorem de_non {j} (hF : ∀ i ∈ F, i ∈ O := by decide) : DE X c W O F mu (.Constant .none j pos) (mC .non) := ⟨hF, fun G => PE.weak pe_non (by
  rintro σ H Q ⟨env, vs, h⟩
  exact h _ H vs Keep.refl (by unfold Rep; rfl))⟩
theorem de_str {x j} (hF : ∀ i ∈ F, i ∈ O := by decide) : DE X c W O F mu (.Constant (.str x) j pos) (mC (.str x)) := ⟨hF, fun G => PE.weak pe_str (by
  rintro σ H Q ⟨env, vs, h⟩
  exact h _ H vs Keep.refl (by unfold Rep; rfl))⟩
/-- a module's constant -/
theorem de_gint {x : Str} {i : Int} {u : Value} (hg : Gl X x) (hm : X.mg x = some u) (r : RelV (.int i) u) (hd : (x == ("__debug__" : Str)) = false := by decide) (hF : ∀ i ∈ F, i ∈ O := by decide) : DE X c W O F mu (.Name x pos) (mC (.int i)) := ⟨hF, fun G => PE.weak (pe_glob hg hm r hd) (by
  rintro σ H Q ⟨env, vs, h⟩
  exact h _ H vs Keep.refl (by unfold Rep; rfl))⟩
theorem de_gstr {x : Str} {i : Str} {u : Value} (hg : Gl X x) (hm : X.mg x = some u) (r : RelV (.str i) u) (hd : (x == ("__debug__" : Str)) = false := by decide) (hF : ∀ i ∈ F, i ∈ O := by decide) : DE X c W O F mu (.Name x pos) (mC (.str i)) := ⟨hF, fun G => PE.weak (pe_glob hg hm r hd) (by
  rintro σ H Q ⟨env, vs, h⟩
  exact h _ H vs Keep.refl (by unfold Rep; rfl))⟩

/-- a isPure value of the moment, kept -/
def mPure (m : ED) : ED := fun env => (m env).bind fun r => R.guard (isPure r.1) (.ok r)
theorem de_pure {e : Expr} {m : ED} (h : DE X c W O [] mu e m) (hF : ∀ i ∈ F, i ∈ O := by decide) : DE X c W O F mu e (mPure m) := ⟨hF, fun G => PE.weak (h.pe G) (by
  rintro σ H Q ⟨env, vs, h⟩
  refine ⟨env, vs, (RP.bind h).mono (fun d e q => ?_) fun _ _ q => q⟩
  obtain ⟨p, q⟩ := RP.guard q
  exact fun v H' vs' k r => q v H' vs' k (vs'.perm hF p r))⟩
/-- what is kept is of the moment, too; what writes nothing may stand where something is written -/
theorem DE.to {F' : List Nat} {mu' : Bool} {e : Expr} {m : ED} (h : DE X c W O F' mu' e m) (hF : ∀ i ∈ F, i ∈ F' := by decide) (hm : mu' = true → mu = true := by decide) : DE X c W O F mu e m := ⟨fun i hi => h.hF i (hF i hi), fun G => PE.weak (h.pe G) (by
  rintro σ H Q ⟨env, vs, h⟩
  refine ⟨env, vs, h.mono (fun d e q v H' vs' k r => q v H' vs' (fun x o e n => k x o e fun z => n (hm z)) (Rep.sub (hs_le hF) _ _ r)) fun _ _ q => q⟩)⟩
end
end VL
end

section
set_option Elab.async false
set_option linter.all false
set_option maxRecDepth 100000
namespace VL
open PySem PySem.Spec PyProof.Rows L2

/-! ### operators by values -/
theorem same_new {H : Hp} {p : Addr} {o : HO} (h : H p = none) : Same H (upd H p o) := fun a u e => by
  rw [upd_ne (ne_of_none e h)]
  exact e
def R.ofO (o : Option D) (e : Env) : R (D × Env) := match o with
  | some d => .ok (d, e)
  | none => .bad
@[simp] theorem R.ofO_some (d : D) (e : Env) : R.ofO (some d) e = .ok (d, e) := (rfl)
@[simp] theorem R.ofO_none (e : Env) : R.ofO none e = .bad := (rfl)
theorem RP.ofO {o : Option D} {e : Env} {P : D → Env → Prop} {Ex : Exn → Env → Prop} (h : RP (R.ofO o e) P Ex) : ∃ d, o = some d ∧ P d e := by
  cases o with
  | none => exact h.elim
  | some d => exact ⟨d, rfl, h⟩
def OpD (c : Cen) (r : R2) (f : D → D → Option D) : Prop := ∀ (S : Addr → Prop) (H : Hp) (x y : V) (dx dy d : D) (Q : VK), (∀ p, H p = none → ¬ S p) → Rep c (hide S H) dx x → Rep c (hide S H) dy y → f dx dy = some d →
  (∀ v H', Same H H' → Rep c (hide S H') d v → Q v H') → r x y H Q
def OpD1 (c : Cen) (r : V → Hp → VK → Prop) (f : D → Option D) : Prop := ∀ (S : Addr → Prop) (H : Hp) (x : V) (dx d : D) (Q : VK), (∀ p, H p = none → ¬ S p) → Rep c (hide S H) dx x → f dx = some d →
  (∀ v H', Same H H' → Rep c (hide S H') d v → Q v H') → r x H Q
def CallD (c : Cen) (r : List V → Hp → VK → Prop) (f : List D → Option D) : Prop := ∀ (S : Addr → Prop) (H : Hp) (xs : List V) (dxs : List D) (d : D) (Q : VK), (∀ p, H p = none → ¬ S p) → Reps c (hide S H) dxs xs → f dxs = some d →
  (∀ v H', Same H H' → Rep c (hide S H') d v → Q v H') → r xs H Q
def MtD (c : Cen) (r : V → List V → Hp → VK → Prop) (f : D → List D → Option D) : Prop := ∀ (S : Addr → Prop) (H : Hp) (x : V) (xs : List V) (dx : D) (dxs : List D) (d : D) (Q : VK), (∀ p, H p = none → ¬ S p) → Rep c (hide S H) dx x → Reps c (hide S H) dxs xs → f dx dxs = some d →
  (∀ v H', Same H H' → Rep c (hide S H') d v → Q v H') → r x xs H Q
def SlD (c : Cen) (r : V → Option Int → Option Int → Hp → VK → Prop) (f : D → Option Int → Option Int → Option D) : Prop := ∀ (S : Addr → Prop) (H : Hp) (x : V) (dx d : D) (lo hi : Option Int) (Q : VK), (∀ p, H p = none → ¬ S p) → Rep c (hide S H) dx x → f dx lo hi = some d →
  (∀ v H', Same H H' → Rep c (hide S H') d v → Q v H') → r x lo hi H Q

def mBin (f : D → D → Option D) (ma mb : ED) : ED := fun env => (ma env).bind fun a => (mb a.2).bind fun b => R.ofO (f a.1 b.1) b.2
def mUn (f : D → Option D) (ma : ED) : ED := fun env => (ma env).bind fun a => R.ofO (f a.1) a.2
def mArgs : List ED → AD
  | [] => fun env => .ok ([], env)
  | m :: ms => fun env => (m env).bind fun a => (mArgs ms a.2).bind fun r => .ok (a.1 :: r.1, r.2)
def mCons (m : ED) (ms : AD) : AD := fun env => (m env).bind fun a => (ms a.2).bind fun r => .ok (a.1 :: r.1, r.2)
def mNil : AD := fun env => .ok ([], env)
def mFn (f : List D → Option D) (ms : AD) : ED := fun env => (ms env).bind fun a => R.ofO (f a.1) a.2
def mTup (ms : AD) : ED := fun env => (ms env).bind fun a => R.guard (decide (a.1.length ≤ sizeLine)) (.ok (.tup a.1, a.2))
def mLst (ms : AD) : ED := fun env => (ms env).bind fun a => R.guard (decide (a.1.length ≤ sizeLine)) (.ok (.lst a.1, a.2))
def mSl (f : D → Option Int → Option Int → Option D) (ma : ED) (ml mh : Env → R (Option Int × Env)) : ED := fun env => (ma env).bind fun a => (ml a.2).bind fun l => (mh l.2).bind fun h => R.ofO (f a.1 l.1 h.1) h.2
def mNoPart : Env → R (Option Int × Env) := fun env => .ok (none, env)
def mPart (m : ED) : Env → R (Option Int × Env) := fun env => (m env).bind fun a => match a.1 with
  | .int i => .ok (some i, a.2)
  | _ => .bad
def mTest (m : ED) : TD := fun env => (m env).bind fun a => match a.1 with
  | .bl b => .ok (b, a.2)
  | _ => .bad
def mAnd (m n : TD) : TD := fun env => (m env).bind fun a => if a.1 = true then n a.2 else .ok (false, a.2)
def mOr (m n : TD) : TD := fun env => (m env).bind fun a => if a.1 = true then .ok (true, a.2) else n a.2
def mNot (m : TD) : TD := fun env => (m env).bind fun a => .ok (!a.1, a.2)
def mIf (t : TD) (m n : ED) : ED := fun env => (t env).bind fun a => if a.1 = true then m a.2 else n a.2
/-- a test as a value -/
def mBl (m : TD) : ED := fun env => (m env).bind fun a => .ok (.bl a.1, a.2)
def mChain (f g : D → D → Option D) (ma mb mc : ED) : ED := fun env => (ma env).bind fun a => (mb a.2).bind fun b => (R.ofO (f a.1 b.1) b.2).bind fun r => match r.1 with
  | .bl true => (mc r.2).bind fun z => R.ofO (g b.1 z.1) z.2
  | .bl false => .ok (.bl false, r.2)
  | _ => .bad
section
variable {X : Cx} {c : Cen} {W : WX} {O F : List Nat} {mu : Bool} {pos : Pos} {a b e : Expr} {ma mb m : ED} {f : D → D → Option D} {r : R2} {G : Gm} {ta tb : TE}
theorem VS.freshS {env : Env} {σ : L2.St} {H : Hp} (v : VS c G O env σ H) (hF : ∀ i ∈ F, i ∈ O) : ∀ p, H p = none → ¬ hs G F σ p := fun p h => by
  obtain ⟨h1, h2, _⟩ := v.fresh h
  rintro (z | z)
  · exact h1 z
  · exact h2 (z.sub hF)
theorem bin_weak (hF : ∀ i ∈ F, i ∈ O) (hf : OpD c r f) (hm : mu = true → ∀ i ∈ O, i ∈ F) : ∀ σ H Q, dE c G W O F mu (mBin f ma mb) σ H Q → tOp r (dE c G W O F mu ma) (dE c G W O F mu mb) σ H Q := by
  rintro σ H Q ⟨env, vs, h⟩
  refine ⟨env, vs, (RP.bind h).mono (fun da e1 h1 x H1 vs1 k1 r1 => ?_) (fun _ _ q => q)⟩
  refine ⟨e1, vs1, (RP.bind h1).mono (fun db e2 h2 y H2 vs2 k2 r2 => ?_) (fun _ _ q => q)⟩
  obtain ⟨d, hd, h3⟩ := RP.ofO h2
  exact hf _ H2 x y da db d Q (vs2.freshS hF) (Rep.sub (k2.hide hm) _ _ r1) r2 hd fun v H' s rv => h3 v H' (vs2.grow s) ((k1.trans k2).trans (Keep.of s)) rv
theorem de_bin {op : Operator} (ho : OpR X (binaryOp op) r) (hf : OpD c r f) (ha : DE X c W O F mu a ma) (hb : DE X c W O F mu b mb) (hm : mu = true → ∀ i ∈ O, i ∈ F := by decide) : DE X c W O F mu (.BinOp a op b pos) (mBin f ma mb) :=
  ⟨ha.hF, fun G => PE.weak (pe_op ho (ha.pe G) (hb.pe G)) (bin_weak ha.hF hf hm)⟩
theorem de_cmp {op : CmpOp} (ho : OpR X (compareOp op) r) (hf : OpD c r f) (ha : DE X c W O F mu a ma) (hb : DE X c W O F mu b mb) (hmk : behindInMarks op b = false) (hm : mu = true → ∀ i ∈ O, i ∈ F := by decide) : DE X c W O F mu (.Compare a [op] [b] pos) (mBin f ma mb) :=
  ⟨ha.hF, fun G => PE.weak (pe_cmpR ho (ha.pe G) (hb.pe G) hmk) (bin_weak ha.hF hf hm)⟩
theorem de_ix (hr : IxR X r) (hf : OpD c r f) (ha : DE X c W O F mu a ma) (hb : DE X c W O F mu b mb) (hs : PlainIx b) (hm : mu = true → ∀ i ∈ O, i ∈ F := by decide) : DE X c W O F mu (.Subscript a b pos) (mBin f ma mb) :=
  ⟨ha.hF, fun G => PE.weak (pe_ix hr (ha.pe G) (hb.pe G) hs) (bin_weak ha.hF hf hm)⟩
theorem de_un {op : UnaryOp} {g : D → Option D} {r : V → Hp → VK → Prop} (ho : UnR X (unaryOp op) r) (hf : OpD1 c r g) (ha : DE X c W O F mu a ma) : DE X c W O F mu (.UnaryOp op a pos) (mUn g ma) :=
  ⟨ha.hF, fun G => PE.weak (pe_un ho (ha.pe G)) (by
    rintro σ H Q ⟨env, vs, h⟩
    refine ⟨env, vs, (RP.bind h).mono (fun da e1 h1 x H1 vs1 k1 r1 => ?_) (fun _ _ q => q)⟩
    obtain ⟨d, hd, h3⟩ := RP.ofO h1
    exact hf _ H1 x da d Q (vs1.freshS ha.hF) r1 hd fun v H' s rv => h3 v H' (vs1.grow s) (k1.trans (Keep.of s)) rv)⟩

/-! ### argument lists, displays, calls of built-in functions -/
theorem Reps.nil' {H : Hp} {vs : List V} : Reps c H [] vs ↔ vs = [] := by unfold Reps; exact Iff.rfl
theorem da_nil (hF : ∀ i ∈ F, i ∈ O := by decide) : DA X c W O F mu [] mNil := ⟨hF, fun env ds e h => by cases h; rfl, fun G => PA.weak pa_nil (by
  rintro σ H Q ⟨env, vs, h⟩
  exact h [] H vs Keep.refl Reps.nil)⟩
theorem da_cons {es : List Expr} {ms : AD} (ha : DE X c W O F mu e m) (hr : DA X c W O F mu es ms) (hs : starEach (e :: es) X.env = (false, eval e X.env) :: starEach es X.env := by rfl) (hm : mu = true → ∀ i ∈ O, i ∈ F := by decide) :
    DA X c W O F mu (e :: es) (mCons m ms) := ⟨ha.hF, fun env ds e h => by
  unfold mCons at h
  cases h1 : m env with
  | bad => rw [h1] at h; cases h
  | exc x e => rw [h1] at h; cases h
  | ok a =>
    rw [h1] at h
    simp only [R.bind_ok] at h
    cases h2 : ms a.2 with
    | bad => rw [h2] at h; cases h
    | exc x e => rw [h2] at h; cases h
    | ok b =>
      rw [h2] at h
      cases h
      simp [hr.len _ _ _ h2], fun G => PA.weak (pa_cons (ha.pe G) (hr.pa G) hs) (by
  rintro σ H Q ⟨env, vs, h⟩
  refine ⟨env, vs, (RP.bind h).mono (fun da e1 h1 x H1 vs1 k1 r1 => ?_) (fun _ _ q => q)⟩
  refine ⟨e1, vs1, (RP.bind h1).mono (fun ds e2 h2 ys H2 vs2 k2 r2 => ?_) (fun _ _ q => q)⟩
  exact h2 (x :: ys) H2 vs2 (k1.trans k2) (Reps.cons (Rep.sub (k2.hide hm) _ _ r1) r2))⟩
theorem de_tup {es : List Expr} {ms : AD} {k : Nat} (h' : DA X c W O F mu es ms) : DE X c W O F mu (.Tuple es k pos) (mTup ms) := ⟨h'.hF, fun G => PE.weak (pe_tup (h'.pa G)) (by
  rintro σ H Q ⟨env, vs, h⟩
  refine ⟨env, vs, (RP.bind h).mono (fun ds e1 h1 xs H1 vs1 k1 r1 => ?_) (fun _ _ q => q)⟩
  obtain ⟨hz, h2⟩ := RP.guard h1
  refine ⟨by rw [← r1.len]; exact of_decide_eq_true hz, fun p hp => ?_⟩
  have s : Same H1 (upd H1 p (.tup xs)) := same_new hp
  refine h2 (.ref p) _ (vs1.grow s) (k1.trans (Keep.of s)) ?_
  unfold Rep
  exact ⟨p, xs, rfl, SqT.of (hide_of upd_same (vs1.freshS h'.hF p hp)), Reps.sub (hide_mono (fun _ z => z) fun x o e _ => s x o e) _ _ r1⟩)⟩
theorem de_lst {es : List Expr} {ms : AD} (h' : DA X c W O F mu es ms) : DE X c W O F mu (.List es pos) (mLst ms) := ⟨h'.hF, fun G => PE.weak (pe_lst (h'.pa G)) (by
  rintro σ H Q ⟨env, vs, h⟩
  refine ⟨env, vs, (RP.bind h).mono (fun ds e1 h1 xs H1 vs1 k1 r1 => ?_) (fun _ _ q => q)⟩
  obtain ⟨hz, h2⟩ := RP.guard h1
  refine ⟨by rw [← r1.len]; exact of_decide_eq_true hz, fun p hp => ?_⟩
  have s : Same H1 (upd H1 p (.lst xs)) := same_new hp
  refine h2 (.ref p) _ (vs1.grow s) (k1.trans (Keep.of s)) ?_
  unfold Rep
  exact ⟨p, xs, rfl, hide_of upd_same (vs1.freshS h'.hF p hp), Reps.sub (hide_mono (fun _ z => z) fun x o e _ => s x o e) _ _ r1⟩)⟩
theorem fn_weak (hF : ∀ i ∈ F, i ∈ O) {ms : AD} {t : TA} {r : List V → Hp → VK → Prop} {g : List D → Option D} (hf : CallD c r g) : ∀ σ H Q, dE c G W O F mu (mFn g ms) σ H Q → tCB r (dA c G W O F mu ms) σ H Q := by
  rintro σ H Q ⟨env, vs, h⟩
  refine ⟨env, vs, (RP.bind h).mono (fun ds e1 h1 xs H1 vs1 k1 r1 => ?_) (fun _ _ q => q)⟩
  obtain ⟨d, hd, h3⟩ := RP.ofO h1
  exact hf _ H1 xs ds d Q (vs1.freshS hF) r1 hd fun v H' s rv => h3 v H' (vs1.grow s) (k1.trans (Keep.of s)) rv
theorem de_fnB {x : Str} {id : String} {p : Pos} {es : List Expr} {ms : AD} {r : List V → Hp → VK → Prop} {g : List D → Option D} (hc : CallR X (.builtin id) r) (hf : CallD c r g) (hg : Gl X x) (hm : X.mg x = none) (hv : bootBuiltins x = some (.builtin id)) (ha : DA X c W O F mu (e :: es) ms) (hn : x ≠ "__name__" := by decide) (hdb : (x == ("__debug__" : Str)) = false := by decide)
    (he : starEach (e :: es) X.env = (false, eval e X.env) :: starEach es X.env := by rfl) (hpl : (backTo pos (starEach es X.env)).any (·.1) = false := by rfl) : DE X c W O F mu (.Call (.Name x p) (e :: es) [] pos) (mFn g ms) :=
  ⟨ha.hF, fun G => PE.weak (pe_callB hc hg hm hv (ha.pa G) hn hdb he hpl) (fn_weak ha.hF (t := dA c G W O F mu ms) hf)⟩
theorem de_fnT {x : Str} {T : String} {p : Pos} {es : List Expr} {ms : AD} {r : List V → Hp → VK → Prop} {g : List D → Option D} (hc : CallR X (.type T) r) (hf : CallD c r g) (hg : Gl X x) (hm : X.mg x = none) (hv : bootBuiltins x = some (.type T)) (ha : DA X c W O F mu (e :: es) ms) (hn : x ≠ "__name__" := by decide) (hdb : (x == ("__debug__" : Str)) = false := by decide)
    (he : starEach (e :: es) X.env = (false, eval e X.env) :: starEach es X.env := by rfl) (hpl : (backTo pos (starEach es X.env)).any (·.1) = false := by rfl) : DE X c W O F mu (.Call (.Name x p) (e :: es) [] pos) (mFn g ms) :=
  ⟨ha.hF, fun G => PE.weak (pe_callTy hc hg hm hv (ha.pa G) hn hdb he hpl) (fn_weak ha.hF (t := dA c G W O F mu ms) hf)⟩

/-! ### slices -/
structure DO (X : Cx) (c : Cen) (W : WX) (O : List Nat) (mu : Bool) (e : Option Expr) (m : Env → R (Option Int × Env)) : Prop where
  po : ∀ G, PO X e (fun σ H Q => ∃ env, VS c G O env σ H ∧ RP (m env) (fun o env' => ∀ H', VS c G O env' σ H' → Keep mu (Wn O σ) H H' → Q o H') (exK c G W O σ))
theorem do_none : DO X c W O mu none mNoPart := ⟨fun G => ⟨fun pins s σ H Q I q => po_none.run pins s σ H Q I (by
  obtain ⟨env, vs, h⟩ := q
  exact h H vs Keep.refl)⟩⟩
theorem do_some (h : DE X c W O [] mu e m) : DO X c W O mu (some e) (mPart m) := ⟨fun G => ⟨fun pins s σ H Q I q => (po_some (h.pe G)).run pins s σ H Q I (by
  obtain ⟨env, vs, h⟩ := q
  refine ⟨env, vs, (RP.bind h).mono (fun d e1 h1 x H1 vs1 k1 r1 => ?_) (fun _ _ q => q)⟩
  cases d <;> first | exact h1.elim | skip
  unfold Rep at r1
  exact ⟨_, r1, h1 H1 vs1 k1⟩)⟩⟩
theorem de_slice {lo hi : Option Expr} {ml mh : Env → R (Option Int × Env)} {p2 : Pos} {r : V → Option Int → Option Int → Hp → VK → Prop} {g : D → Option Int → Option Int → Option D} (hr : SlR X r) (hf : SlD c r g) (he : DE X c W O F mu e m) (hl : DO X c W O mu lo ml) (hu : DO X c W O mu hi mh) (hm : mu = true → ∀ i ∈ O, i ∈ F := by decide) :
    DE X c W O F mu (.Subscript e (.Slice lo hi none p2) pos) (mSl g m ml mh) := ⟨he.hF, fun G => PE.weak (pe_slice hr (he.pe G) (hl.po G) (hu.po G)) (by
  rintro σ H Q ⟨env, vs, h⟩
  refine ⟨env, vs, (RP.bind h).mono (fun da e1 h1 x H1 vs1 k1 r1 => ?_) (fun _ _ q => q)⟩
  refine ⟨e1, vs1, (RP.bind h1).mono (fun l e2 h2 H2 vs2 k2 => ?_) (fun _ _ q => q)⟩
  refine ⟨e2, vs2, (RP.bind h2).mono (fun u e3 h3 H3 vs3 k3 => ?_) (fun _ _ q => q)⟩
  obtain ⟨d, hd, h4⟩ := RP.ofO h3
  exact hf _ H3 x da d l u Q (vs3.freshS he.hF) (Rep.sub ((k2.trans k3).hide hm) _ _ r1) hd fun v H' s rv => h4 v H' (vs3.grow s) (((k1.trans k2).trans k3).trans (Keep.of s)) rv)⟩

/-! ### tests -/
variable {t u : TD}
theorem test_weak : ∀ σ H Q, dT c G W O mu (mTest m) σ H Q → tTest (dE c G W O [] mu m) σ H Q := by
  rintro σ H Q ⟨env, vs, h⟩
  refine ⟨env, vs, (RP.bind h).mono (fun d e1 h1 x H1 vs1 k1 r1 => ?_) (fun _ _ q => q)⟩
  cases d <;> first | exact h1.elim | skip
  unfold Rep at r1
  exact ⟨_, r1, h1 H1 vs1 k1⟩
theorem dt_cmp {op : CmpOp} (ho : OpR X (compareOp op) r) (hf : OpD c r f) (ha : DE X c W O F mu a ma) (hb : DE X c W O F mu b mb) (hmk : behindInMarks op b = false) (hm : mu = true → ∀ i ∈ O, i ∈ F := by decide) : DT X c W O mu (.Compare a [op] [b] pos) (mTest (mBin f ma mb)) :=
  ⟨fun G => PT.weak (pt_cmpR ho (ha.pe G) (hb.pe G) hmk) (by
    rintro σ H Q ⟨env, vs, h⟩
    refine bin_weak ha.hF hf hm σ H _ ⟨env, vs, (RP.bind h).mono (fun d e1 h1 x H1 vs1 k1 r1 => ?_) (fun _ _ q => q)⟩
    cases d <;> first | exact h1.elim | skip
    unfold Rep at r1
    exact ⟨_, r1, h1 H1 vs1 k1⟩)⟩
theorem dt_val (h : DE X c W O [] mu e m) (he : ∀ whole, isTrue e X.env whole = (do let v ← whole; standAt e.pos; holding [v] (truthy v)) := by intro _; rfl) : DT X c W O mu e (mTest m) := ⟨fun G => PT.weak (pt_val (h.pe G) he) (by
  rintro σ H Q ⟨env, vs, h⟩
  refine ⟨env, vs, (RP.bind h).mono (fun d e1 h1 x H1 vs1 k1 r1 => ?_) (fun _ _ q => q)⟩
  cases d <;> first | exact h1.elim | skip
  unfold Rep at r1
  exact ⟨_, r1, h1 H1 vs1 k1⟩)⟩
theorem dt_not (h : DT X c W O mu a t) : DT X c W O mu (.UnaryOp .Not a pos) (mNot t) := ⟨fun G => PT.weak (pt_not (h.pt G)) (by
  rintro σ H Q ⟨env, vs, h⟩
  exact ⟨env, vs, (RP.bind h).mono (fun d e1 h1 H1 vs1 k1 => h1 H1 vs1 k1) (fun _ _ q => q)⟩)⟩
theorem dw_and1 (h : DT X c W O mu a t) : DWt X c W O mu (.BoolOp .And [a] pos) t := ⟨fun G => pw_and1 (h.pt G)⟩
theorem dw_or1 (h : DT X c W O mu a t) : DWt X c W O mu (.BoolOp .Or [a] pos) t := ⟨fun G => pw_or1 (h.pt G)⟩
theorem dw_and {rest : List Expr} (ha : DT X c W O mu a t) (hb : DWt X c W O mu (.BoolOp .And (b :: rest) pos) u) : DWt X c W O mu (.BoolOp .And (a :: b :: rest) pos) (mAnd t u) := ⟨fun G => PW.weak (pw_and (ha.pt G) (hb.pw G)) (by
  rintro σ H Q ⟨env, vs, h⟩
  refine ⟨env, vs, (RP.bind h).mono (fun d e1 h1 H1 vs1 k1 => ?_) (fun _ _ q => q)⟩
  cases d with
  | true => exact ⟨e1, vs1, RP.mono (h1 : RP (u e1) _ _) (fun d e2 h2 H2 vs2 k2 => h2 H2 vs2 (k1.trans k2)) fun _ _ q => q⟩
  | false => exact h1 H1 vs1 k1)⟩
theorem dw_or {rest : List Expr} (ha : DT X c W O mu a t) (hb : DWt X c W O mu (.BoolOp .Or (b :: rest) pos) u) : DWt X c W O mu (.BoolOp .Or (a :: b :: rest) pos) (mOr t u) := ⟨fun G => PW.weak (pw_or (ha.pt G) (hb.pw G)) (by
  rintro σ H Q ⟨env, vs, h⟩
  refine ⟨env, vs, (RP.bind h).mono (fun d e1 h1 H1 vs1 k1 => ?_) (fun _ _ q => q)⟩
  cases d with
  | true => exact h1 H1 vs1 k1
  | false => exact ⟨e1, vs1, RP.mono (h1 : RP (u e1) _ _) (fun d e2 h2 H2 vs2 k2 => h2 H2 vs2 (k1.trans k2)) fun _ _ q => q⟩)⟩
theorem DWt.dt (h : DWt X c W O mu e t) : DT X c W O mu e t := ⟨fun G => (h.pw G).pt⟩
theorem DT.toMu (h : DT X c W O false e t) : DT X c W O mu e t := ⟨fun G => PT.weak (h.pt G) (by
  rintro σ H Q ⟨env, vs, h⟩
  exact ⟨env, vs, RP.mono h (fun d e q H' vs' k => q H' vs' k.up) fun _ _ q => q⟩)⟩
/-- .. as values -/
theorem de_one {op} (h : DE X c W O F mu a m) : DE X c W O F mu (.BoolOp op [a] pos) m := ⟨h.hF, fun G => pe_one (h.pe G)⟩
theorem rep_bl {H : Hp} {b : Bool} {v : V} : Rep c H (.bl b) v ↔ v = .bl b := by unfold Rep; exact Iff.rfl
def mAndV (ma mb : ED) : ED := fun env => (ma env).bind fun a => match a.1 with
  | .bl true => mb a.2
  | .bl false => .ok (.bl false, a.2)
  | _ => .bad
def mOrV (ma mb : ED) : ED := fun env => (ma env).bind fun a => match a.1 with
  | .bl false => mb a.2
  | .bl true => .ok (.bl true, a.2)
  | _ => .bad
theorem de_and {rest : List Expr} (ha : DE X c W O F mu a ma) (hb : DE X c W O F mu (.BoolOp .And (b :: rest) pos) mb) : DE X c W O F mu (.BoolOp .And (a :: b :: rest) pos) (mAndV ma mb) := ⟨ha.hF, fun G => PE.weak (pe_and (ha.pe G) (hb.pe G)) (by
  rintro σ H Q ⟨env, vs, h⟩
  refine ⟨env, vs, (RP.bind h).mono (fun d e1 h1 x H1 vs1 k1 r1 => ?_) (fun _ _ q => q)⟩
  cases d <;> first | exact h1.elim | skip
  rename_i b
  have e := rep_bl.mp r1
  refine ⟨b, e, ?_⟩
  cases b with
  | true => exact ⟨e1, vs1, RP.mono (h1 : RP (mb e1) _ _) (fun d e2 h2 v H2 vs2 k2 r2 => h2 v H2 vs2 (k1.trans k2) r2) fun _ _ q => q⟩
  | false => exact h1 _ H1 vs1 k1 (rep_bl.mpr rfl))⟩
theorem de_or {rest : List Expr} (ha : DE X c W O F mu a ma) (hb : DE X c W O F mu (.BoolOp .Or (b :: rest) pos) mb) : DE X c W O F mu (.BoolOp .Or (a :: b :: rest) pos) (mOrV ma mb) := ⟨ha.hF, fun G => PE.weak (pe_or (ha.pe G) (hb.pe G)) (by
  rintro σ H Q ⟨env, vs, h⟩
  refine ⟨env, vs, (RP.bind h).mono (fun d e1 h1 x H1 vs1 k1 r1 => ?_) (fun _ _ q => q)⟩
  cases d <;> first | exact h1.elim | skip
  rename_i b
  have e := rep_bl.mp r1
  refine ⟨b, e, ?_⟩
  cases b with
  | false => exact ⟨e1, vs1, RP.mono (h1 : RP (mb e1) _ _) (fun d e2 h2 v H2 vs2 k2 r2 => h2 v H2 vs2 (k1.trans k2) r2) fun _ _ q => q⟩
  | true => exact h1 _ H1 vs1 k1 (rep_bl.mpr rfl))⟩
def mNotV (ma : ED) : ED := fun env => (ma env).bind fun a => match a.1 with
  | .bl b => .ok (.bl (!b), a.2)
  | _ => .bad
theorem de_not (ha : DE X c W O F mu a ma) : DE X c W O F mu (.UnaryOp .Not a pos) (mNotV ma) := ⟨ha.hF, fun G => PE.weak (pe_not (ha.pe G)) (by
  rintro σ H Q ⟨env, vs, h⟩
  refine ⟨env, vs, (RP.bind h).mono (fun d e1 h1 x H1 vs1 k1 r1 => ?_) (fun _ _ q => q)⟩
  cases d <;> first | exact h1.elim | skip
  rename_i b
  exact ⟨b, rep_bl.mp r1, h1 _ H1 vs1 k1 (rep_bl.mpr rfl)⟩)⟩
theorem de_if {cnd : Expr} (hc : DT X c W O mu cnd t) (ha : DE X c W O F mu a ma) (hb : DE X c W O F mu b mb) : DE X c W O F mu (.IfExp cnd a b pos) (mIf t ma mb) := ⟨ha.hF, fun G => PE.weak (pe_ifExp (hc.pt G) (ha.pe G) (hb.pe G)) (by
  rintro σ H Q ⟨env, vs, h⟩
  refine ⟨env, vs, (RP.bind h).mono (fun d e1 h1 H1 vs1 k1 => ?_) (fun _ _ q => q)⟩
  cases d with
  | true => exact ⟨e1, vs1, RP.mono (h1 : RP (ma e1) _ _) (fun d e2 h2 v H2 vs2 k2 r2 => h2 v H2 vs2 (k1.trans k2) r2) fun _ _ q => q⟩
  | false => exact ⟨e1, vs1, RP.mono (h1 : RP (mb e1) _ _) (fun d e2 h2 v H2 vs2 k2 r2 => h2 v H2 vs2 (k1.trans k2) r2) fun _ _ q => q⟩)⟩
end
end VL
end

section
set_option Elab.async false
set_option linter.all false
set_option maxRecDepth 100000
namespace VL
open PySem PySem.Spec PyProof.Rows L2

/-! ### the state's moves -/
section
variable {c : Cen} {G : Gm} {O O' : List Nat} {env : Env} {σ : L2.St} {H H' : Hp} {i j : Nat} {d : D} {v : V} {a : Addr}
theorem getset {α : Type} {l : List α} {i j : Nat} {x y : α} (h : (l.set i x)[j]? = some y) : (j = i ∧ y = x) ∨ (j ≠ i ∧ l[j]? = some y) := by
  by_cases e : i = j
  · subst e
    rw [List.getElem?_set] at h
    simp only [if_true] at h
    split at h
    · cases h; exact .inl ⟨rfl, rfl⟩
    · cases h
  · rw [List.getElem?_set_ne e] at h
    exact .inr ⟨fun z => e z.symm, h⟩
/-- fewer slots own -/
theorem VS.drop (vs : VS c G O env σ H) (s : ∀ k ∈ O', k ∈ O) (t : ∀ p ∈ G.ins, p.1 ∈ O') : VS c G O' env σ H := by
  refine ⟨vs.len, fun k d e n => ?_, fun k hk => ?_, fun k hk l hl e => vs.sep k (s k hk) l (s l hl) e, vs.frame, vs.hid, fun p hp => ⟨t p hp, (vs.ios p hp).2⟩⟩
  · by_cases hk : k ∈ O
    · obtain ⟨d', b, h1, h2, h3, h4, h5⟩ := vs.own k hk
      rw [e] at h1; cases h1
      refine ⟨_, h2, ?_⟩
      have nw : ¬ Wn O' σ b := fun ⟨l, hl, el⟩ => n (by rw [vs.sep k hk l (s l hl) (h2.trans el.symm)]; exact hl)
      exact (h3.sub (Hh' := hide (hs G O' σ) H) (H' := hide (hs G O' σ) H) (hs_le s) fun o z => hide_of z (by rintro (z | z) <;> first | exact h4 z | exact nw z)).rep fun _ _ z => z
    · obtain ⟨x, h1, h2⟩ := vs.imm k d e hk
      exact ⟨x, h1, Rep.sub (hs_le s) _ _ h2⟩
  · obtain ⟨d', b, h1, h2, h3, h4⟩ := vs.own k (s k hk)
    exact ⟨d', b, h1, h2, h3.sub (hs_le s) fun _ z => z, h4⟩
theorem mem_not {O : List Nat} {i k : Nat} : k ∈ O.filter (· != i) ↔ k ∈ O ∧ k ≠ i := by simp
/-- a slot takes a kept value -/
theorem VS.set (vs : VS c G O env σ H) (hi : i < env.length) (r : Rep c (hide (hs G O σ) H) d v) (t : ∀ p ∈ G.ins, p.1 ≠ i) : VS c G (O.filter (· != i)) (env.set i (some d)) (σ.set i (some v)) H := by
  have wn : ∀ b, Wn (O.filter (· != i)) (σ.set i (some v)) b → Wn O σ b := fun b ⟨k, hk, e⟩ => by
    obtain ⟨h1, h2⟩ := mem_not.mp hk
    rw [List.getElem?_set_ne (Ne.symm h2)] at e
    exact ⟨k, h1, e⟩
  have hm : Same (hide (hs G O σ) H) (hide (hs G (O.filter (· != i)) (σ.set i (some v))) H) := hide_mono (fun b z => z.imp id (wn b)) fun _ _ e _ => e
  refine ⟨by simp [vs.len], fun k d' e n => ?_, fun k hk => ?_, fun k hk l hl e => ?_, vs.frame, vs.hid, fun p hp => ⟨mem_not.mpr ⟨(vs.ios p hp).1, t p hp⟩, ?_⟩⟩
  · rcases getset e with ⟨rfl, e1⟩ | ⟨hk, e1⟩
    · cases e1
      exact ⟨v, by rw [List.getElem?_set_self (by rw [← vs.len]; exact hi)], Rep.sub hm _ _ r⟩
    · have nk : k ∉ O := fun z => n (mem_not.mpr ⟨z, hk⟩)
      obtain ⟨x, h1, h2⟩ := vs.imm k d' e1 nk
      exact ⟨x, by rw [List.getElem?_set_ne (Ne.symm hk)]; exact h1, Rep.sub hm _ _ h2⟩
  · obtain ⟨h1, h2⟩ := mem_not.mp hk
    obtain ⟨d', b, e1, e2, e3, e4⟩ := vs.own k h1
    exact ⟨d', b, by rw [List.getElem?_set_ne (Ne.symm h2)]; exact e1, by rw [List.getElem?_set_ne (Ne.symm h2)]; exact e2, e3.sub hm fun _ z => z, e4⟩
  · obtain ⟨h1, h2⟩ := mem_not.mp hk
    obtain ⟨h3, h4⟩ := mem_not.mp hl
    rw [List.getElem?_set_ne (Ne.symm h2), List.getElem?_set_ne (Ne.symm h4)] at e
    exact vs.sep k h1 l h3 e
  · rw [List.getElem?_set_ne (Ne.symm (t p hp))]
    exact (vs.ios p hp).2
/-- a thing beside the slots, that nothing leans on -/
def Gm.hid (G : Gm) (a : Addr) (o : HO) : Gm := { H0 := upd G.H0 a o, ins := G.ins, Hid := fun b => G.Hid b ∨ b = a }
theorem hs_hid {F : List Nat} {o : HO} {b : Addr} : hs (G.hid a o) F σ b ↔ hs G F σ b ∨ b = a := by
  unfold hs Gm.hid
  constructor
  · rintro ((h | h) | h)
    · exact .inl (.inl h)
    · exact .inr h
    · exact .inl (.inr h)
  · rintro ((h | h) | h)
    · exact .inl (.inl h)
    · exact .inr h
    · exact .inl (.inr h)
theorem hid_le {F : List Nat} {o : HO} : Same (hide (hs (G.hid a o) F σ) H) (hide (hs G F σ) H) := hide_mono (fun b z => hs_hid.mpr (.inl z)) fun _ _ e _ => e
theorem VS.unhid {o : HO} (vs : VS c (G.hid a o) O env σ H) (h0 : G.H0 a = none) (hn : ¬ G.Hid a) : VS c G O env σ H := by
  refine ⟨vs.len, fun k d e n => ?_, fun k hk => ?_, vs.sep, fun b o' e n => ?_, fun b hb => ?_, vs.ios⟩
  · obtain ⟨x, h1, h2⟩ := vs.imm k d e n
    exact ⟨x, h1, Rep.sub hid_le _ _ h2⟩
  · obtain ⟨d', b, h1, h2, h3, h4, h5⟩ := vs.own k hk
    refine ⟨d', b, h1, h2, h3.sub hid_le fun _ z => z, fun z => h4 (.inl z), ?_⟩
    rcases h5 with h5 | h5
    · refine .inl ?_
      have hb : b ≠ a := fun z => h4 (.inr z)
      exact (upd_ne hb).symm.trans h5
    · exact .inr h5
  · refine vs.frame b o' ?_ n
    show upd G.H0 a o b = some o'
    rw [upd_ne (fun z => by rw [z, h0] at e; cases e)]
    exact e
  · obtain ⟨h1, h2⟩ := vs.hid b (.inl hb)
    refine ⟨fun z => h1 ?_, h2⟩
    have hba : b ≠ a := fun e => hn (e ▸ hb)
    show upd G.H0 a o b = none
    rw [upd_ne hba]; exact z
/-- a new thing, owned by a slot from now on -/
theorem VS.setO {o : HO} (vs : VS c (G.hid a o) O env σ H) (hi : i < env.length) (ho : H a = some o) (h0 : G.H0 a = none) (hn : ¬ G.Hid a) (nw : ¬ Wn O σ a) (r : RepO c (hide (hs (G.hid a o) O σ) H) H d a) (t : ∀ p ∈ G.ins, p.1 ≠ i) :
    VS c G (i :: O.filter (· != i)) (env.set i (some d)) (σ.set i (some (.ref a))) H := by
  have vs0 := vs.unhid h0 hn
  have hiσ : i < σ.length := by rw [← vs.len]; exact hi
  have wn : ∀ b, Wn (i :: O.filter (· != i)) (σ.set i (some (.ref a))) b → Wn O σ b ∨ b = a := fun b ⟨k, hk, e⟩ => by
    rcases List.mem_cons.mp hk with rfl | hk
    · rw [List.getElem?_set_self hiσ] at e; cases e; exact .inr rfl
    · obtain ⟨h1, h2⟩ := mem_not.mp hk
      rw [List.getElem?_set_ne (Ne.symm h2)] at e
      exact .inl ⟨k, h1, e⟩
  have hm : Same (hide (hs (G.hid a o) O σ) H) (hide (hs G (i :: O.filter (· != i)) (σ.set i (some (.ref a)))) H) := hide_mono (fun b z => by
    rcases z with z | z
    · exact hs_hid.mpr (.inl (.inl z))
    · rcases wn b z with z | z
      · exact hs_hid.mpr (.inl (.inr z))
      · exact hs_hid.mpr (.inr z)) fun _ _ e _ => e
  refine ⟨by simp [vs.len], fun k d' e n => ?_, fun k hk => ?_, fun k hk l hl e => ?_, vs0.frame, vs0.hid, fun p hp => ⟨List.mem_cons_of_mem _ (mem_not.mpr ⟨(vs0.ios p hp).1, t p hp⟩), ?_⟩⟩
  · rcases getset e with ⟨rfl, e1⟩ | ⟨hk, e1⟩
    · exact absurd List.mem_cons_self n
    · have nk : k ∉ O := fun z => n (List.mem_cons_of_mem _ (mem_not.mpr ⟨z, hk⟩))
      obtain ⟨x, h1, h2⟩ := vs.imm k d' e1 nk
      exact ⟨x, by rw [List.getElem?_set_ne (Ne.symm hk)]; exact h1, Rep.sub hm _ _ h2⟩
  · rcases List.mem_cons.mp hk with rfl | hk
    · exact ⟨d, a, by rw [List.getElem?_set_self hi], by rw [List.getElem?_set_self hiσ], r.sub hm fun _ z => z, hn, .inl h0⟩
    · obtain ⟨h1, h2⟩ := mem_not.mp hk
      obtain ⟨d', b, e1, e2, e3, e4, e5⟩ := vs.own k h1
      obtain ⟨d2, b2, f1, f2, f3, f4, f5⟩ := vs0.own k h1
      rw [e2] at f2; cases f2
      exact ⟨d', b, by rw [List.getElem?_set_ne (Ne.symm h2)]; exact e1, by rw [List.getElem?_set_ne (Ne.symm h2)]; exact e2, e3.sub hm fun _ z => z, f4, f5⟩
  · have nr : ∀ k ∈ O.filter (· != i), (σ.set i (some (.ref a)))[k]? ≠ some (some (.ref a)) := fun k hk e => by
      obtain ⟨h1, h2⟩ := mem_not.mp hk
      rw [List.getElem?_set_ne (Ne.symm h2)] at e
      exact nw ⟨k, h1, e⟩
    rcases List.mem_cons.mp hk with rfl | hk
    · rcases List.mem_cons.mp hl with rfl | hl
      · rfl
      · rw [List.getElem?_set_self hiσ] at e
        exact absurd e.symm (nr l hl)
    · rcases List.mem_cons.mp hl with rfl | hl
      · rw [List.getElem?_set_self hiσ] at e
        exact absurd e (nr k hk)
      · obtain ⟨h1, h2⟩ := mem_not.mp hk
        obtain ⟨h3, h4⟩ := mem_not.mp hl
        rw [List.getElem?_set_ne (Ne.symm h2), List.getElem?_set_ne (Ne.symm h4)] at e
        exact vs.sep k h1 l h3 e
  · rw [List.getElem?_set_ne (Ne.symm (t p hp))]
    exact (vs0.ios p hp).2
/-- an owned thing is written -/
theorem VS.write {o : HO} (vs : VS c G O env σ H) (hi : i ∈ O) (e : σ[i]? = some (some (.ref a))) (r : RepO c (hide (hs G O σ) H) (upd H a o) d a) : VS c G O (env.set i (some d)) σ (upd H a o) := by
  have wa : Wn O σ a := ⟨i, hi, e⟩
  obtain ⟨d0, a0, g1, g2, g3, g4, g5⟩ := vs.own i hi
  rw [e] at g2; cases g2
  have hm : Same (hide (hs G O σ) H) (hide (hs G O σ) (upd H a o)) := hide_mono (fun _ z => z) fun b x eb nb => by
    have hb : b ≠ a := fun z => nb (.inr (by rw [z]; exact wa))
    rw [upd_ne hb]; exact eb
  have hil : i < env.length := (List.getElem?_eq_some_iff.mp g1).1
  refine ⟨by simp [vs.len], fun k d' ek n => ?_, fun k hk => ?_, vs.sep, fun b x eb nb => ?_, vs.hid, vs.ios⟩
  · rcases getset ek with ⟨rfl, e1⟩ | ⟨hk, e1⟩
    · exact absurd hi n
    · obtain ⟨x, h1, h2⟩ := vs.imm k d' e1 n
      exact ⟨x, h1, Rep.sub hm _ _ h2⟩
  · by_cases hki : k = i
    · subst hki
      exact ⟨d, a, by rw [List.getElem?_set_self hil], e, r.sub hm fun _ z => z, g4, g5⟩
    · obtain ⟨d', b, h1, h2, h3, h4⟩ := vs.own k hk
      have hb : b ≠ a := fun z => hki (vs.sep k hk i hi (by rw [h2, e, z]))
      exact ⟨d', b, by rw [List.getElem?_set_ne (Ne.symm hki)]; exact h1, h2, h3.sub hm fun x z => by rw [upd_ne hb]; exact z, h4⟩
  · have hb : b ≠ a := fun z => by
      rcases g5 with g5 | g5
      · rw [z, g5] at eb; cases eb
      · exact nb (z ▸ g5)
    rw [upd_ne hb]; exact vs.frame b x eb nb
theorem Keep.write {o : HO} (w : Wn O σ a) : Keep true (Wn O σ) H (upd H a o) := fun b x e n => by
  have hb : b ≠ a := fun z => n rfl (by rw [z]; exact w)
  rw [upd_ne hb]; exact e
end

/-! ### a new list or dict -/
def dEO (c : Cen) (G : Gm) (W : WX) (O F : List Nat) (mu : Bool) (m : ED) : TE := fun σ H Q => ∃ env, VS c G O env σ H ∧
  RP (m env) (fun d env' => ∀ a o H', H' a = some o → G.H0 a = none → ¬ G.Hid a → ¬ Wn O σ a → VS c (G.hid a o) O env' σ H' → Keep mu (Wn O σ) H H' → RepO c (hide (hs (G.hid a o) F σ) H') H' d a → Q (.ref a) H') (exK c G W O σ)
structure DEO (X : Cx) (c : Cen) (W : WX) (O F : List Nat) (mu : Bool) (e : Expr) (m : ED) : Prop where
  hF : ∀ i ∈ F, i ∈ O
  pe : ∀ G, PE X e (dEO c G W O F mu m)
section
variable {X : Cx} {c : Cen} {W : WX} {O F : List Nat} {mu : Bool} {pos : Pos} {a b e : Expr} {ma mb m : ED}
/-- .. is a value -/
theorem DEO.de (h : DEO X c W O F mu e m) : DE X c W O F mu e m := ⟨h.hF, fun G => PE.weak (h.pe G) (by
  rintro σ H Q ⟨env, vs, h'⟩
  refine ⟨env, vs, RP.mono h' (fun d env' q a o H' e1 e2 e3 e4 vs' k r => q (.ref a) H' (vs'.unhid e2 e3) k ?_) fun _ _ q => q⟩
  have nh : ¬ hs G F σ a := by
    rintro (z | z)
    · exact e3 z
    · exact e4 (z.sub h.hF)
  exact (r.sub (H' := hide (hs G F σ) H') hid_le fun o' z => hide_of z nh).rep fun _ _ z => z)⟩
theorem VS.hidNew {G : Gm} {env : Env} {σ : L2.St} {H : Hp} {p : Addr} {o : HO} (vs : VS c G O env σ H) (hp : H p = none) : VS c (G.hid p o) O env σ (upd H p o) := by
  obtain ⟨n1, n2, n3⟩ := vs.fresh hp
  have s : Same H (upd H p o) := same_new hp
  have hm : Same (hide (hs G O σ) H) (hide (hs (G.hid p o) O σ) (upd H p o)) := fun b x e => by
    obtain ⟨e1, e2⟩ := of_hide e
    exact hide_of (s b x e1) fun z => (hs_hid.mp z).elim e2 fun z => by rw [z, hp] at e1; cases e1
  refine ⟨vs.len, fun k d e n => ?_, fun k hk => ?_, vs.sep, fun b x e n => ?_, fun b hb => ?_, vs.ios⟩
  · obtain ⟨x, h1, h2⟩ := vs.imm k d e n
    exact ⟨x, h1, Rep.sub hm _ _ h2⟩
  · obtain ⟨d', b, h1, h2, h3, h4, h5⟩ := vs.own k hk
    have hb : b ≠ p := fun z => n2 ⟨k, hk, by rw [h2, z]⟩
    refine ⟨d', b, h1, h2, h3.sub hm fun x z => s b x z, fun z => z.elim h4 hb, ?_⟩
    rcases h5 with h5 | h5
    · exact .inl ((upd_ne hb).trans h5)
    · exact .inr h5
  · by_cases hb : b = p
    · subst hb
      have e' : upd G.H0 b o b = some x := e
      rw [upd_same] at e'; cases e'
      exact upd_same
    · have e' : upd G.H0 p o b = some x := e
      rw [upd_ne hb] at e'
      exact s b x (vs.frame b x e' n)
  · rcases hb with hb | hb
    · obtain ⟨h1, h2⟩ := vs.hid b hb
      refine ⟨fun z => h1 ?_, h2⟩
      have hbp : b ≠ p := fun e => n1 (e ▸ hb)
      exact (upd_ne hbp).symm.trans z
    · subst hb
      refine ⟨fun z => ?_, fun z => ?_⟩
      · have z' : upd G.H0 b o b = none := z
        rw [upd_same] at z'; cases z'
      · obtain ⟨q, hq, e⟩ := z
        exact n2 ⟨q.1, (vs.ios q hq).1, by rw [(vs.ios q hq).2, e]⟩
theorem do_lst {es : List Expr} {ms : AD} (h' : DA X c W O F mu es ms) : DEO X c W O F mu (.List es pos) (mLst ms) := ⟨h'.hF, fun G => PE.weak (pe_lst (h'.pa G)) (by
  rintro σ H Q ⟨env, vs, h⟩
  refine ⟨env, vs, (RP.bind h).mono (fun ds e1 h1 xs H1 vs1 k1 r1 => ?_) (fun _ _ q => q)⟩
  obtain ⟨hz, h2⟩ := RP.guard h1
  refine ⟨by rw [← r1.len]; exact of_decide_eq_true hz, fun p hp => ?_⟩
  obtain ⟨n1, n2, n3⟩ := vs1.fresh hp
  have s : Same H1 (upd H1 p (.lst xs)) := same_new hp
  refine h2 p _ _ upd_same n3 n1 n2 (vs1.hidNew hp) (k1.trans (Keep.of s)) ⟨xs, upd_same, Reps.sub (fun b x e => ?_) _ _ r1⟩
  obtain ⟨g1, g2⟩ := of_hide e
  exact hide_of (s b x g1) fun z => (hs_hid.mp z).elim g2 fun z => by rw [z, hp] at g1; cases g1)⟩
end
end VL
end

section
set_option Elab.async false
set_option linter.all false
set_option maxRecDepth 100000
namespace VL
open PySem PySem.Spec PyProof.Rows L2

/-! ### statements -/
def retK (c : Cen) (G : Gm) (io : List Nat) (rm : Bool) (En : Ends) (d : D) (env' : Env) : Prop :=
  ∀ v σ' H', VS c G io env' σ' H' → (rm = false → Rep c (hide (hs G io σ') H') d v) →
    (rm = true → ∃ a o, v = .ref a ∧ H' a = some o ∧ G.H0 a = none ∧ ¬ G.Hid a ∧ ¬ Wn io σ' a ∧ RepO c (hide (hs (G.hid a o) io σ') H') H' d a) → En.rt v H'
def exS (c : Cen) (G : Gm) (W : WX) (Ox : List Nat) : Exn → Env → Prop := fun x env' => ∀ cls dd σ' H', VS c G Ox env' σ' H' → ExcRep c (hide G.Hid H') x cls dd → W cls dd σ' H'
def flK (c : Cen) (G : Gm) (io : List Nat) (rm : Bool) (Ob O' : List Nat) (En : Ends) (f : Fl) (env' : Env) : Prop := match f with
  | .next => ∀ σ' H', VS c G O' env' σ' H' → En.nx σ' H'
  | .brk => ∀ σ' H', VS c G Ob env' σ' H' → En.bk σ' H'
  | .cont => ∀ σ' H', VS c G Ob env' σ' H' → En.ct σ' H'
  | .ret d => retK c G io rm En d env'
def dS (c : Cen) (G : Gm) (W : WX) (io : List Nat) (rm : Bool) (Ox Ob O O' : List Nat) (m : SD) : TS := fun D σ H => ∃ env, VS c G O env σ H ∧ RP (m env) (flK c G io rm Ob O' D) (exS c G W Ox)
/-- what does not change in a def: the classes, the wish for exceptions, the slots handed in to be written, whether a new thing is handed out, what is owned where an exception is met -/
structure Kf where
  c : Cen
  W : WX
  io : List Nat
  rm : Bool
  Ox : List Nat
def Gm.for (G : Gm) (k : Kf) : Prop := G.ins.map (·.1) = k.io ∧ ∀ i ∈ k.io, i ∈ k.Ox
structure DS (X : Cx) (k : Kf) (Ob O O' : List Nat) (st : Stmt) (m : SD) : Prop where
  ps : ∀ G : Gm, G.for k → PS X st (dS k.c G k.W k.io k.rm k.Ox Ob O O' m)
structure DSs (X : Cx) (k : Kf) (Ob O O' : List Nat) (st : List Stmt) (m : SD) : Prop where
  pss : ∀ G : Gm, G.for k → PSs X st (dS k.c G k.W k.io k.rm k.Ox Ob O O' m)
theorem Gm.for.mem {G : Gm} {k : Kf} (h : G.for k) {p : Nat × Addr} (hp : p ∈ G.ins) : p.1 ∈ k.io := by rw [← h.1]; exact List.mem_map_of_mem hp
theorem Gm.for.ne {G : Gm} {k : Kf} (h : G.for k) {i : Nat} (hi : i ∉ k.io) : ∀ p ∈ G.ins, p.1 ≠ i := fun p hp e => hi (e ▸ h.mem hp)
theorem exK_of {k : Kf} {G : Gm} (g : G.for k) {O : List Nat} (hx : ∀ i ∈ k.Ox, i ∈ O) {σ : L2.St} {x : Exn} {env' : Env} (h : exS k.c G k.W k.Ox x env') : exK k.c G k.W O σ x env' := fun cls dd H' vs r =>
  h cls dd σ H' (vs.drop hx fun p hp => g.2 _ (g.mem hp)) r

def sNext : SD := fun env => .ok (.next, env)
def sSeq (m n : SD) : SD := fun env => (m env).bind fun r => match r.1 with
  | .next => n r.2
  | f => .ok (f, r.2)
def sSet (i : Nat) (m : ED) : SD := fun env => (m env).bind fun a => R.guard (decide (i < a.2.length)) (.ok (.next, a.2.set i (some a.1)))
def sMove (i j : Nat) : SD := fun env => match env[j]? with
  | some (some d) => R.guard (decide (i < env.length)) (.ok (.next, (env.set j none).set i (some d)))
  | _ => .bad
def sExpr (m : ED) : SD := fun env => (m env).bind fun a => .ok (.next, a.2)
def sRet (m : ED) : SD := fun env => (m env).bind fun a => .ok (.ret a.1, a.2)
def sRetN : SD := fun env => .ok (.ret .non, env)
def sIf (t : TD) (m n : SD) : SD := fun env => (t env).bind fun a => if a.1 = true then m a.2 else n a.2
def sBrk : SD := fun env => .ok (.brk, env)
def sCont : SD := fun env => .ok (.cont, env)
def sBad : SD := fun _ => .bad

section
variable {X : Cx} {k : Kf} {Ob O O' O'' : List Nat} {st : Stmt} {sts : List Stmt} {m n : SD} {me : ED} {t : TD} {e : Expr} {pos : Pos}
theorem dss_nil : DSs X k Ob O O [] sNext := ⟨fun G g => PSs.weak pss_nil (by
  rintro D σ H ⟨env, vs, h⟩
  exact h σ H vs)⟩
theorem dss_cons (h1 : DS X k Ob O O' st m) (h2 : DSs X k Ob O' O'' sts n) : DSs X k Ob O O'' (st :: sts) (sSeq m n) := ⟨fun G g => PSs.weak (pss_cons (h1.ps G g) (h2.pss G g)) (by
  rintro D σ H ⟨env, vs, h⟩
  refine ⟨env, vs, (RP.bind h).mono (fun f e1 h1 => ?_) fun _ _ q => q⟩
  cases f with
  | next => exact fun σ' H' vs' => ⟨e1, vs', h1⟩
  | brk => exact h1
  | cont => exact h1
  | ret d => exact h1)⟩
theorem dss_one (h1 : DS X k Ob O O' st m) : DSs X k Ob O O' [st] m := ⟨fun G g => pss_one (h1.ps G g)⟩
/-- fewer slots own behind -/
theorem DSs.drop (h : DSs X k Ob O O' sts m) (s : ∀ i ∈ O'', i ∈ O' := by decide) (t : ∀ i ∈ k.io, i ∈ O'' := by (try dsimp only); decide) : DSs X k Ob O O'' sts m := ⟨fun G g => PSs.weak (h.pss G g) (by
  rintro D σ H ⟨env, vs, h⟩
  refine ⟨env, vs, RP.mono h (fun f e1 h1 => ?_) fun _ _ q => q⟩
  cases f with
  | next => exact fun σ' H' vs' => h1 σ' H' (vs'.drop s fun p hp => t _ (g.mem hp))
  | brk => exact h1
  | cont => exact h1
  | ret d => exact h1)⟩
/-- where nothing goes on behind, it does not matter what is owned there -/
def noNext (m : SD) : Prop := ∀ env env', m env ≠ .ok (.next, env')
theorem DSs.stop (h : DSs X k Ob O O' sts m) (hn : noNext m) : DSs X k Ob O O'' sts m := ⟨fun G g => PSs.weak (h.pss G g) (by
  rintro D σ H ⟨env, vs, h⟩
  refine ⟨env, vs, ?_⟩
  unfold RP at h ⊢
  split
  · rename_i f e1 he
    rw [he] at h
    cases f with
    | next => exact absurd he (hn _ _)
    | brk => exact h
    | cont => exact h
    | ret d => exact h
  · rename_i x e1 he
    rw [he] at h
    exact h
  · rename_i he
    rw [he] at h
    exact h)⟩
theorem noNext_ret {me : ED} : noNext (sRet me) := fun env env' h => by
  unfold sRet at h
  cases e : me env with
  | ok a => rw [e] at h; simp at h
  | exc x e' => rw [e] at h; simp at h
  | bad => rw [e] at h; simp at h
theorem noNext_retN : noNext sRetN := fun env env' h => by unfold sRetN at h; simp at h
theorem noNext_brk : noNext sBrk := fun env env' h => by unfold sBrk at h; simp at h
theorem noNext_cont : noNext sCont := fun env env' h => by unfold sCont at h; simp at h
theorem noNext_seq {m n : SD} (h : noNext n) : noNext (sSeq m n) := fun env env' q => by
  unfold sSeq at q
  cases e : m env with
  | ok a =>
    rw [e] at q
    obtain ⟨f, e1⟩ := a
    cases f with
    | next => exact h _ _ q
    | brk => simp at q
    | cont => simp at q
    | ret d => simp at q
  | exc x e' => rw [e] at q; simp at q
  | bad => rw [e] at q; simp at q
theorem noNext_if {t : TD} {m n : SD} (h1 : noNext m) (h2 : noNext n) : noNext (sIf t m n) := fun env env' q => by
  unfold sIf at q
  cases e : t env with
  | ok a =>
    rw [e] at q
    simp only [R.bind_ok] at q
    split at q
    · exact h1 _ _ q
    · exact h2 _ _ q
  | exc x e' => rw [e] at q; simp at q
  | bad => rw [e] at q; simp at q

theorem ds_pass : DS X k Ob O O (.Pass pos) sNext := ⟨fun G g => PS.weak ps_pass (by
  rintro D σ H ⟨env, vs, h⟩
  exact h σ H vs)⟩
theorem ds_break (ho : O = Ob := by rfl) : DS X k Ob O O' (.Break pos) sBrk := ⟨fun G g => PS.weak ps_break (by
  rintro D σ H ⟨env, vs, h⟩
  subst ho
  exact h σ H vs)⟩
theorem ds_continue (ho : O = Ob := by rfl) : DS X k Ob O O' (.Continue pos) sCont := ⟨fun G g => PS.weak ps_continue (by
  rintro D σ H ⟨env, vs, h⟩
  subst ho
  exact h σ H vs)⟩
theorem ds_expr {F : List Nat} {mu : Bool} (he : DE X k.c k.W O F mu e me) (hs : swapsWith e none pos.line X.env = pure false := by rfl) (hx : ∀ i ∈ k.Ox, i ∈ O := by (try dsimp only); decide) : DS X k Ob O O (.Expr e pos) (sExpr me) := ⟨fun G g => PS.weak (ps_expr (he.pe G) hs) (by
  rintro D σ H ⟨env, vs, h⟩
  exact ⟨env, vs, (RP.bind h).mono (fun d e1 h1 v H1 vs1 k1 r1 => h1 σ H1 vs1) fun x e1 q => exK_of g hx q⟩)⟩
/-- name = value, kept -/
theorem ds_set {i : Nat} {x : Str} {mu : Bool} {pos' : Pos} (hN : X.N.Nodup) (hi : X.N[i]? = some x) (hx : Loc X.env.scope x) (he : DE X k.c k.W O O mu e me) (hio : i ∉ k.io := by (try dsimp only); decide) (hs : swapsWith e (some (.Name x pos')) pos.line X.env = pure false := by rfl) (hf : X.fn x = true ∨ X.env.scope.names.lookup x = some .local := by first | exact .inl rfl | exact .inr rfl | assumption)
    (hxo : ∀ i ∈ k.Ox, i ∈ O := by (try dsimp only); decide) : DS X k Ob O (O.filter (· != i)) (.Assign [.Name x pos'] e pos) (sSet i me) := ⟨fun G g => PS.weak (ps_set hN hi hx (he.pe G) hs hf) (by
  rintro D σ H ⟨env, vs, h⟩
  refine ⟨env, vs, (RP.bind h).mono (fun d e1 h1 v H1 vs1 k1 r1 => ?_) fun x e1 q => exK_of g hxo q⟩
  obtain ⟨hl, h2⟩ := RP.guard h1
  exact h2 _ H1 (vs1.set (of_decide_eq_true hl) r1 (g.ne hio)))⟩
/-- name = value, owned -/
theorem ds_setO {i : Nat} {x : Str} {mu : Bool} {pos' : Pos} (hN : X.N.Nodup) (hi : X.N[i]? = some x) (hx : Loc X.env.scope x) (he : DEO X k.c k.W O O mu e me) (hio : i ∉ k.io := by (try dsimp only); decide) (hs : swapsWith e (some (.Name x pos')) pos.line X.env = pure false := by rfl) (hf : X.fn x = true ∨ X.env.scope.names.lookup x = some .local := by first | exact .inl rfl | exact .inr rfl | assumption)
    (hxo : ∀ i ∈ k.Ox, i ∈ O := by (try dsimp only); decide) : DS X k Ob O (i :: O.filter (· != i)) (.Assign [.Name x pos'] e pos) (sSet i me) := ⟨fun G g => PS.weak (ps_set hN hi hx (he.pe G) hs hf) (by
  rintro D σ H ⟨env, vs, h⟩
  refine ⟨env, vs, (RP.bind h).mono (fun d e1 h1 a o H1 f1 f2 f3 f4 vs1 k1 r1 => ?_) fun x e1 q => exK_of g hxo q⟩
  obtain ⟨hl, h2⟩ := RP.guard h1
  exact h2 _ H1 (vs1.setO (of_decide_eq_true hl) f1 f2 f3 f4 r1 (g.ne hio)))⟩
theorem VS.move {c : Cen} {G : Gm} {env : Env} {σ : L2.St} {H : Hp} {i j : Nat} {d : D} (vs : VS c G O env σ H) (hj : j ∈ O) (e : env[j]? = some (some d)) (hi : i < env.length) (hij : i ≠ j) (ti : ∀ p ∈ G.ins, p.1 ≠ i) (tj : ∀ p ∈ G.ins, p.1 ≠ j) :
    ∃ a, σ[j]? = some (some (.ref a)) ∧ VS c G (i :: (O.filter (· != j)).filter (· != i)) ((env.set j none).set i (some d)) (σ.set i (some (.ref a))) H := by
  obtain ⟨d', a, h1, h2, h3, h4, h5⟩ := vs.own j hj
  rw [e] at h1; cases h1
  have hiσ : i < σ.length := by rw [← vs.len]; exact hi
  have mm : ∀ {q : Nat}, q ∈ (O.filter (· != j)).filter (· != i) → q ∈ O ∧ q ≠ j ∧ q ≠ i := fun {q} hq => by
    obtain ⟨z1, z2⟩ := mem_not.mp hq
    obtain ⟨z3, z4⟩ := mem_not.mp z1
    exact ⟨z3, z4, z2⟩
  have wn : ∀ b, Wn (i :: (O.filter (· != j)).filter (· != i)) (σ.set i (some (.ref a))) b → Wn O σ b := fun b ⟨q, hq, eq⟩ => by
    rcases List.mem_cons.mp hq with rfl | hq
    · rw [List.getElem?_set_self hiσ] at eq; cases eq; exact ⟨j, hj, h2⟩
    · obtain ⟨g1, g2, g3⟩ := mm hq
      rw [List.getElem?_set_ne (Ne.symm g3)] at eq
      exact ⟨q, g1, eq⟩
  have hm : Same (hide (hs G O σ) H) (hide (hs G (i :: (O.filter (· != j)).filter (· != i)) (σ.set i (some (.ref a)))) H) := hide_mono (fun b z => z.imp id (wn b)) fun _ _ e _ => e
  refine ⟨a, h2, by simp [vs.len], fun q d' eq n => ?_, fun q hq => ?_, fun q hq l hl eq => ?_, vs.frame, vs.hid, fun p hp => ⟨List.mem_cons_of_mem _ (mem_not.mpr ⟨mem_not.mpr ⟨(vs.ios p hp).1, tj p hp⟩, ti p hp⟩), ?_⟩⟩
  · rcases getset eq with ⟨rfl, e1⟩ | ⟨hq, e1⟩
    · exact absurd List.mem_cons_self n
    · rcases getset e1 with ⟨_, e2⟩ | ⟨hq2, e2⟩
      · cases e2
      · have nk : q ∉ O := fun z => n (List.mem_cons_of_mem _ (mem_not.mpr ⟨mem_not.mpr ⟨z, hq2⟩, hq⟩))
        obtain ⟨x, g1, g2⟩ := vs.imm q d' e2 nk
        exact ⟨x, by rw [List.getElem?_set_ne (Ne.symm hq)]; exact g1, Rep.sub hm _ _ g2⟩
  · rcases List.mem_cons.mp hq with rfl | hq
    · exact ⟨d, a, by rw [List.getElem?_set_self (by simpa using hi)], by rw [List.getElem?_set_self hiσ], h3.sub hm fun _ z => z, h4, h5⟩
    · obtain ⟨g1, g2, g3⟩ := mm hq
      obtain ⟨d', b, f1, f2, f3, f4⟩ := vs.own q g1
      exact ⟨d', b, by rw [List.getElem?_set_ne (Ne.symm g3), List.getElem?_set_ne (Ne.symm g2)]; exact f1, by rw [List.getElem?_set_ne (Ne.symm g3)]; exact f2, f3.sub hm fun _ z => z, f4⟩
  · have nr : ∀ q ∈ (O.filter (· != j)).filter (· != i), (σ.set i (some (.ref a)))[q]? ≠ some (some (.ref a)) := fun q hq eq => by
      obtain ⟨g1, g2, g3⟩ := mm hq
      rw [List.getElem?_set_ne (Ne.symm g3)] at eq
      exact g2 (vs.sep q g1 j hj (eq.trans h2.symm))
    rcases List.mem_cons.mp hq with rfl | hq
    · rcases List.mem_cons.mp hl with rfl | hl
      · rfl
      · rw [List.getElem?_set_self hiσ] at eq
        exact absurd eq.symm (nr l hl)
    · rcases List.mem_cons.mp hl with rfl | hl
      · rw [List.getElem?_set_self hiσ] at eq
        exact absurd eq (nr q hq)
      · obtain ⟨g1, g2, g3⟩ := mm hq
        obtain ⟨f1, f2, f3⟩ := mm hl
        rw [List.getElem?_set_ne (Ne.symm g3), List.getElem?_set_ne (Ne.symm f3)] at eq
        exact vs.sep q g1 l f1 eq
  · rw [List.getElem?_set_ne (Ne.symm (ti p hp))]
    exact (vs.ios p hp).2
theorem ds_move {i j : Nat} {x y : Str} {pos' py : Pos} (hN : X.N.Nodup) (hi : X.N[i]? = some x) (hx : Loc X.env.scope x) (he : PE X (.Name y py) (tVar j)) (hj : j ∈ O := by decide) (hij : i ≠ j := by decide) (hio : i ∉ k.io := by (try dsimp only); decide) (hjo : j ∉ k.io := by (try dsimp only); decide) (hs : swapsWith (.Name y py) (some (.Name x pos')) pos.line X.env = pure false := by rfl) (hf : X.fn x = true ∨ X.env.scope.names.lookup x = some .local := by first | exact .inl rfl | exact .inr rfl | assumption) :
    DS X k Ob O (i :: (O.filter (· != j)).filter (· != i)) (.Assign [.Name x pos'] (.Name y py) pos) (sMove i j) := ⟨fun G g => PS.weak (ps_set hN hi hx he hs hf) (by
  rintro D σ H ⟨env, vs, h⟩
  unfold sMove at h
  split at h
  · rename_i d e
    obtain ⟨hl, h2⟩ := RP.guard h
    obtain ⟨a, e2, vs2⟩ := vs.move hj e (of_decide_eq_true hl) hij (g.ne hio) (g.ne hjo)
    exact ⟨_, e2, h2 _ H vs2⟩
  · exact h.elim)⟩
theorem ds_ret {F : List Nat} {mu : Bool} (he : DE X k.c k.W O F mu e me) (hr : k.rm = false := by rfl) (hF : ∀ i ∈ k.io, i ∈ F := by (try dsimp only); decide) (ho : ∀ i ∈ k.io, i ∈ O := by (try dsimp only); decide) (hxo : ∀ i ∈ k.Ox, i ∈ O := by (try dsimp only); decide) : DS X k Ob O O' (.Return (some e) pos) (sRet me) := ⟨fun G g => PS.weak (ps_ret (he.pe G)) (by
  rintro D σ H ⟨env, vs, h⟩
  refine ⟨env, vs, (RP.bind h).mono (fun d e1 h1 v H1 vs1 k1 r1 => ?_) fun x e1 q => exK_of g hxo q⟩
  exact h1 v σ H1 (vs1.drop ho fun p hp => g.mem hp) (fun _ => Rep.sub (hs_le hF) _ _ r1) fun z => by rw [hr] at z; cases z)⟩
theorem ds_retO {F : List Nat} {mu : Bool} (he : DEO X k.c k.W O F mu e me) (hr : k.rm = true := by rfl) (hF : ∀ i ∈ k.io, i ∈ F := by (try dsimp only); decide) (ho : ∀ i ∈ k.io, i ∈ O := by (try dsimp only); decide) (hxo : ∀ i ∈ k.Ox, i ∈ O := by (try dsimp only); decide) : DS X k Ob O O' (.Return (some e) pos) (sRet me) := ⟨fun G g => PS.weak (ps_ret (he.pe G)) (by
  rintro D σ H ⟨env, vs, h⟩
  refine ⟨env, vs, (RP.bind h).mono (fun d e1 h1 a o H1 f1 f2 f3 f4 vs1 k1 r1 => ?_) fun x e1 q => exK_of g hxo q⟩
  exact h1 (.ref a) σ H1 ((vs1.unhid f2 f3).drop ho fun p hp => g.mem hp) (fun z => by rw [hr] at z; cases z) fun _ => ⟨a, o, rfl, f1, f2, f3, fun w => f4 (w.sub ho), r1.sub (hs_le hF) fun _ z => z⟩)⟩
/-- return of what a slot owns -/
theorem ds_retV {i : Nat} {x : Str} {px : Pos} (he : PE X (.Name x px) (tVar i)) (hi : i ∈ O := by decide) (hr : k.rm = true := by rfl) (hio : i ∉ k.io := by (try dsimp only); decide) (ho : ∀ j ∈ k.io, j ∈ O := by (try dsimp only); decide) : DS X k Ob O O' (.Return (some (.Name x px)) pos) (sRet (mVar i)) := ⟨fun G g => PS.weak (ps_ret he) (by
  rintro D σ H ⟨env, vs, h⟩
  obtain ⟨d, a, e1, e2, e3, e4, e5⟩ := vs.own i hi
  have h' := RP.bind h
  unfold mVar at h'
  rw [e1] at h'
  have h1 : retK k.c G k.io k.rm D d env := h'
  obtain ⟨o, f1, _⟩ := e3.at
  have nw : ¬ Wn k.io σ a := fun ⟨q, hq, eq⟩ => hio (by rw [vs.sep i hi q (ho q hq) (e2.trans eq.symm)]; exact hq)
  have h0 : G.H0 a = none := by
    rcases e5 with e5 | ⟨p, hp, ep⟩
    · exact e5
    · exact absurd ⟨p.1, g.mem hp, by rw [(vs.ios p hp).2, ep]⟩ nw
  refine ⟨_, e2, h1 (.ref a) σ H (vs.drop ho fun p hp => g.mem hp) (fun z => by rw [hr] at z; cases z) fun _ => ⟨a, o, rfl, f1, h0, e4, nw, e3.sub ?_ fun _ z => z⟩⟩
  refine hide_mono (fun b z => ?_) fun _ _ e _ => e
  rcases hs_hid.mp z with z | z
  · exact z.imp id fun w => w.sub ho
  · exact .inr ⟨i, hi, by rw [e2, z]⟩)⟩
theorem ds_retN (hr : k.rm = false := by rfl) (ho : ∀ i ∈ k.io, i ∈ O := by (try dsimp only); decide) : DS X k Ob O O' (.Return none pos) sRetN := ⟨fun G g => PS.weak ps_retN (by
  rintro D σ H ⟨env, vs, h⟩
  exact h .non σ H (vs.drop ho fun p hp => g.mem hp) (fun _ => by unfold Rep; rfl) fun z => by rw [hr] at z; cases z)⟩
theorem ds_if {cnd : Expr} {sa sb : List Stmt} {mu : Bool} (hc : DT X k.c k.W O mu cnd t) (ha : DSs X k Ob O O' sa m) (hb : DSs X k Ob O O' sb n) (hxo : ∀ i ∈ k.Ox, i ∈ O := by (try dsimp only); decide) : DS X k Ob O O' (.If cnd sa sb pos) (sIf t m n) := ⟨fun G g => PS.weak (ps_if (hc.pt G) (ha.pss G g) (hb.pss G g)) (by
  rintro D σ H ⟨env, vs, h⟩
  refine ⟨env, vs, (RP.bind h).mono (fun d e1 h1 H1 vs1 k1 => ?_) fun x e1 q => exK_of g hxo q⟩
  cases d with
  | true => exact ⟨e1, vs1, h1⟩
  | false => exact ⟨e1, vs1, h1⟩)⟩
end
end VL
end

section
set_option Elab.async false
set_option linter.all false
set_option maxRecDepth 100000
namespace VL
open PySem PySem.Spec PyProof.Rows L2

/-! ### while -/
def wIter (t : TD) (b : SD) : Nat → Env → Option (R (Fl × Env))
  | 0, _ => none
  | n + 1, env => match t env with
    | .ok (false, e) => some (.ok (.next, e))
    | .ok (true, e) => match b e with
      | .ok (.next, e') => wIter t b n e'
      | .ok (.cont, e') => wIter t b n e'
      | .ok (.brk, e') => some (.ok (.next, e'))
      | .ok (.ret d, e') => some (.ok (.ret d, e'))
      | .exc x e' => some (.exc x e')
      | .bad => some .bad
    | .exc x e => some (.exc x e)
    | .bad => some .bad
theorem wIter_succ (t : TD) (b : SD) : ∀ (n : Nat) (env : Env) (r : R (Fl × Env)), wIter t b n env = some r → wIter t b (n + 1) env = some r
  | 0, env, r, h => by cases h
  | n + 1, env, r, h => by
    unfold wIter at h ⊢
    split at h
    · exact h
    · split at h
      · exact wIter_succ t b n _ r h
      · exact wIter_succ t b n _ r h
      · exact h
      · exact h
      · exact h
      · exact h
    · exact h
    · exact h
theorem wIter_le (t : TD) (b : SD) {n m : Nat} (hm : n ≤ m) {env : Env} {r : R (Fl × Env)} (h : wIter t b n env = some r) : wIter t b m env = some r := by
  induction hm with
  | refl => exact h
  | step _ ih => exact wIter_succ t b _ _ _ ih
open Classical in
noncomputable def sWhile (t : TD) (b : SD) : SD := fun env => if h : ∃ r, ∃ n, wIter t b n env = some r then h.choose else .bad
theorem sWhile_of {t : TD} {b : SD} {env : Env} {n : Nat} {r : R (Fl × Env)} (h : wIter t b n env = some r) : sWhile t b env = r := by
  have hx : ∃ r, ∃ n, wIter t b n env = some r := ⟨r, n, h⟩
  unfold sWhile
  rw [dif_pos hx]
  obtain ⟨m, hm⟩ := hx.choose_spec
  have h1 := wIter_le t b (Nat.le_max_left m n) hm
  have h2 := wIter_le t b (Nat.le_max_right m n) h
  rw [h1] at h2
  exact Option.some.inj h2
theorem sWhile_ex {t : TD} {b : SD} {env : Env} (h : sWhile t b env ≠ .bad) : ∃ n, wIter t b n env = some (sWhile t b env) := by
  by_cases hx : ∃ r, ∃ n, wIter t b n env = some r
  · obtain ⟨m, hm⟩ := hx.choose_spec
    exact ⟨m, by rw [sWhile_of hm]; exact hm⟩
  · exact absurd (by unfold sWhile; rw [dif_neg hx]) h
/-- one turn more -/
theorem sWhile_false {t : TD} {b : SD} {env e : Env} (h : t env = .ok (false, e)) : sWhile t b env = .ok (.next, e) := sWhile_of (n := 1) (by unfold wIter; rw [h])
theorem sWhile_next {t : TD} {b : SD} {env e e' : Env} (h : t env = .ok (true, e)) (hb : b e = .ok (.next, e')) (r : R (Fl × Env)) (hr : r ≠ .bad) (hw : sWhile t b e' = r) : sWhile t b env = r := by
  subst hw
  obtain ⟨n, hn⟩ := sWhile_ex hr
  exact sWhile_of (n := n + 1) (by rw [wIter, h]; simp only [hb]; exact hn)
theorem sWhile_ret {t : TD} {b : SD} {env e e' : Env} {d : D} (h : t env = .ok (true, e)) (hb : b e = .ok (.ret d, e')) : sWhile t b env = .ok (.ret d, e') := sWhile_of (n := 1) (by rw [wIter, h]; simp only [hb])
theorem sWhile_brk {t : TD} {b : SD} {env e e' : Env} (h : t env = .ok (true, e)) (hb : b e = .ok (.brk, e')) : sWhile t b env = .ok (.next, e') := sWhile_of (n := 1) (by rw [wIter, h]; simp only [hb])
theorem sWhile_exc {t : TD} {b : SD} {env e e' : Env} {x : Exn} (h : t env = .ok (true, e)) (hb : b e = .exc x e') : sWhile t b env = .exc x e' := sWhile_of (n := 1) (by rw [wIter, h]; simp only [hb])

section
variable {X : Cx} {k : Kf} {Ob O O' : List Nat} {st : Stmt} {sts : List Stmt} {m n : SD} {me : ED} {t : TD} {e : Expr} {pos : Pos}
theorem ds_while {cnd : Expr} {mu : Bool} (hp : PassesOwn (model X.prog X.w) X.A X.env X.xe) (hc : DT X k.c k.W O mu cnd t) (hb : DSs X k O O O sts m) (hxo : ∀ i ∈ k.Ox, i ∈ O := by (try dsimp only); decide) : DS X k Ob O O (.While cnd sts [] pos) (sWhile t m) := ⟨fun G g => PS.weak (ps_while hp (hc.pt G) (hb.pss G g)) (by
  rintro D σ H ⟨env, vs, h⟩
  have hne : sWhile t m env ≠ .bad := fun z => by rw [z] at h; exact h
  obtain ⟨n0, hn0⟩ := sWhile_ex hne
  refine ⟨fun n σ H => ∃ env r, VS k.c G O env σ H ∧ wIter t m n env = some r ∧ RP r (flK k.c G k.io k.rm Ob O D) (exS k.c G k.W k.Ox), ⟨n0, env, _, vs, hn0, h⟩, ?_⟩
  rintro n σ1 H1 ⟨env1, r, vs1, hw, hr⟩
  cases n with
  | zero => cases hw
  | succ n =>
    refine ⟨env1, vs1, ?_⟩
    rw [wIter] at hw
    cases ht : t env1 with
    | bad => rw [ht] at hw; cases hw; exact hr.elim
    | exc x e1 => rw [ht] at hw; cases hw; exact exK_of g hxo hr
    | ok be =>
      obtain ⟨b, e1⟩ := be
      rw [ht] at hw
      cases b with
      | false =>
        cases hw
        exact fun H2 vs2 k2 => hr σ1 H2 vs2
      | true =>
        intro H2 vs2 k2
        rw [if_pos rfl]
        refine ⟨fun σ' H' => ∃ m', m' < n + 1 ∧ ∃ env r, VS k.c G O env σ' H' ∧ wIter t m m' env = some r ∧ RP r (flK k.c G k.io k.rm Ob O D) (exS k.c G k.W k.Ox), fun σ' H' q => q, e1, vs2, ?_⟩
        simp only at hw
        cases hb' : m e1 with
        | bad => rw [hb'] at hw; cases hw; exact hr.elim
        | exc x e2 => rw [hb'] at hw; cases hw; exact hr
        | ok fe =>
          obtain ⟨f, e2⟩ := fe
          rw [hb'] at hw
          cases f with
          | next => exact fun σ' H' vs' => ⟨n, Nat.lt_succ_self _, e2, r, vs', hw, hr⟩
          | cont => exact fun σ' H' vs' => ⟨n, Nat.lt_succ_self _, e2, r, vs', hw, hr⟩
          | brk => cases hw; exact hr
          | ret d => cases hw; exact hr)⟩
end

/-! ### what is walked -/
/-- the items of J are ds, while what Ss shows at the start stands; they are told by what Si shows -/
def Wk (c : Cen) (Ss Si : Addr → Prop) (Hb : Hp) (J : It) (ds : List D) : Prop := ∀ (S' : Addr → Prop) (H' : Hp), Same (hide Ss Hb) H' → Same (hide Si Hb) (hide S' H') → (∀ p, H' p = none → ¬ S' p) →
  (∀ i d, ds[i]? = some d → J.go i H' ∧ ∀ x H'', J.yld i H' x H'' → Same H' H'' ∧ Rep c (hide S' H'') d x) ∧ (∀ i, ds.length ≤ i → J.stop i H')
abbrev LD := Env → R (List D × Env)
def dI (c : Cen) (G : Gm) (W : WX) (O F : List Nat) (mu : Bool) (m : LD) : TI := fun σ H Rk => ∃ env, VS c G O env σ H ∧
  RP (m env) (fun ds env' => ∀ J H', VS c G O env' σ H' → Keep mu (Wn O σ) H H' → Wk c (hs G F σ) (hs G O σ) H' J ds → Rk J H') (exK c G W O σ)
structure DI (X : Cx) (c : Cen) (W : WX) (O F : List Nat) (mu : Bool) (tg iter : Expr) (m : LD) : Prop where
  hF : ∀ i ∈ F, i ∈ O
  pi : ∀ G, PI X tg iter (dI c G W O F mu m)
theorem PI.weak {X : Cx} {tg e : Expr} {t u : TI} (h : PI X tg e t) (i : ∀ σ H Rk, u σ H Rk → t σ H Rk) : PI X tg e u := ⟨fun pins s σ H Rk I q => h.run pins s σ H Rk I (i σ H Rk q)⟩
/-- a thing that is walked: a list, a tuple, a text -/
def SrcRep (c : Cen) (Ss Si : Addr → Prop) (H : Hp) (d : D) (v : V) : Prop := match d with
  | .lst ds => ∃ a xs, v = .ref a ∧ hide Ss H a = some (.lst xs) ∧ Reps c (hide Si H) ds xs
  | .tup ds => ∃ a xs, v = .ref a ∧ SqT c.K (hide Ss H) a xs ∧ Reps c (hide Si H) ds xs
  | .str x => v = .str x
  | _ => False
def dQ (c : Cen) (G : Gm) (W : WX) (O F : List Nat) (mu : Bool) (m : ED) : TE := fun σ H Q => ∃ env, VS c G O env σ H ∧
  RP (m env) (fun d env' => ∀ v H', VS c G O env' σ H' → Keep mu (Wn O σ) H H' → SrcRep c (hs G F σ) (hs G O σ) H' d v → Q v H') (exK c G W O σ)
structure DQ (X : Cx) (c : Cen) (W : WX) (O F : List Nat) (mu : Bool) (e : Expr) (m : ED) : Prop where
  hF : ∀ i ∈ F, i ∈ O
  pe : ∀ G, PE X e (dQ c G W O F mu m)
def seqOf : D → Option (List D)
  | .lst ds => some ds
  | .tup ds => some ds
  | .str x => some (x.cps.toList.map fun q => D.str ⟨#[q]⟩)
  | _ => none
def mSrc (m : ED) : ED := fun env => (m env).bind fun a => R.guard (seqOf a.1).isSome (.ok a)
/-- the items of a list, a tuple, a text -/
def mSeq (m : ED) : LD := fun env => (m env).bind fun a => match seqOf a.1 with
  | some ds => .ok (ds, a.2)
  | none => .bad
section
variable {X : Cx} {c : Cen} {W : WX} {O F : List Nat} {mu : Bool} {pos : Pos} {e : Expr} {m : ED} {G : Gm} {σ : L2.St} {H : Hp}
theorem srcRep_of {S : Addr → Prop} {d : D} {v : V} (h : Rep c (hide S H) d v) (hs : (seqOf d).isSome = true) : SrcRep c S S H d v := by
  cases d <;> first | exact absurd (show false = true from hs) Bool.false_ne_true | skip
  case str x => unfold Rep at h; exact h
  case tup ds => unfold Rep at h; exact h
  case lst ds => unfold Rep at h; exact h
theorem dq_of (h : DE X c W O O mu e m) : DQ X c W O O mu e (mSrc m) := ⟨h.hF, fun G => PE.weak (h.pe G) (by
  rintro σ H Q ⟨env, vs, h⟩
  refine ⟨env, vs, (RP.bind h).mono (fun d e q => ?_) fun _ _ q => q⟩
  obtain ⟨p, q⟩ := RP.guard q
  exact fun v H' vs' k r => q v H' vs' k (srcRep_of r p))⟩
/-- a list that a slot owns, where nothing owned is written -/
theorem dq_own {i : Nat} {x : Str} (he : PE X (.Name x pos) (tVar i)) (hi : i ∈ O := by decide) : DQ X c W O [] false (.Name x pos) (mSrc (mVar i)) := ⟨fun i hi => (by cases hi), fun G => PE.weak he (by
  rintro σ H Q ⟨env, vs, h⟩
  obtain ⟨d, a, h1, h2, h3, h4, h5⟩ := vs.own i hi
  have q := RP.bind h
  unfold mVar at q
  rw [h1] at q
  have q : RP (R.guard (seqOf d).isSome (.ok (d, env))) _ _ := q
  obtain ⟨p, q⟩ := RP.guard q
  refine ⟨_, h2, q _ H vs Keep.refl ?_⟩
  cases d <;> first | exact h3.elim | exact absurd (show false = true from p) Bool.false_ne_true | skip
  obtain ⟨xs, g1, g2⟩ := h3
  exact ⟨a, xs, rfl, hide_of g1 (by rintro (z | ⟨j, hj, _⟩) <;> first | exact h4 z | cases hj), g2⟩)⟩
end
theorem wk_lst {c : Cen} {S Si : Addr → Prop} {H : Hp} {a : Addr} {xs : List V} {ds : List D} (h : hide S H a = some (.lst xs)) (r : Reps c (hide Si H) ds xs) : Wk c S Si H (Itl c.K a) ds := fun S' H' s0 s f => by
  have hq : SqL c.K H' a xs := SqL.of (s0 _ _ h)
  refine ⟨fun i d e => ?_, fun i hi => ⟨xs, hq, by rw [← r.len]; exact hi⟩⟩
  obtain ⟨x, e1, r1⟩ := r.get e
  refine ⟨⟨xs, x, hq, e1⟩, fun y H'' ⟨e2, e3⟩ => ?_⟩
  subst e2
  have e4 := e3 xs hq
  rw [e1] at e4; cases e4
  exact ⟨fun _ _ z => z, Rep.sub s _ _ r1⟩
theorem wk_tup {c : Cen} {S Si : Addr → Prop} {H : Hp} {a : Addr} {xs : List V} {ds : List D} (h : SqT c.K (hide S H) a xs) (r : Reps c (hide Si H) ds xs) : Wk c S Si H (Itt c.K a) ds := fun S' H' s0 s f => by
  have hq : SqT c.K H' a xs := SqT.sub s0 h
  refine ⟨fun i d e => ?_, fun i hi => ⟨xs, hq, by rw [← r.len]; exact hi⟩⟩
  obtain ⟨x, e1, r1⟩ := r.get e
  refine ⟨⟨xs, x, hq, e1⟩, fun y H'' ⟨e2, e3⟩ => ?_⟩
  subst e2
  have e4 := e3 xs hq
  rw [e1] at e4; cases e4
  exact ⟨fun _ _ z => z, Rep.sub s _ _ r1⟩
theorem wk_str {c : Cen} {S Si : Addr → Prop} {H : Hp} {x : Str} : Wk c S Si H (Its x) (x.cps.toList.map (fun q => D.str ⟨#[q]⟩)) := fun S' H' _ s f => by
  refine ⟨fun i d e => ?_, fun i hi => show x.cps.size ≤ i by simpa using hi⟩
  rw [List.getElem?_map] at e
  cases e1 : x.cps.toList[i]? with
  | none => rw [e1] at e; cases e
  | some q =>
    rw [e1] at e; cases e
    have e2 : x.cps[i]? = some q := by simpa using e1
    refine ⟨(Array.getElem?_eq_some_iff.mp e2).1, fun y H'' ⟨e3, c', e4, e5⟩ => ?_⟩
    subst e3
    rw [e2] at e4; cases e4
    exact ⟨fun _ _ z => z, by unfold Rep; exact e5⟩
theorem wk_range {c : Cen} {S Si : Addr → Prop} {H : Hp} {lo : Int} {n : Nat} : Wk c S Si H (Itr lo n) ((List.range n).map fun (i : Nat) => D.int (lo + (i : Int))) := fun S' H' _ s f => by
  refine ⟨fun i d e => ?_, fun i hi => show n ≤ i by simpa using hi⟩
  rw [List.getElem?_map] at e
  by_cases hi : i < n
  · rw [List.getElem?_range hi] at e
    cases e
    refine ⟨hi, fun y H'' ⟨e3, e4⟩ => ?_⟩
    subst e3
    exact ⟨fun _ _ z => z, by unfold Rep; exact e4⟩
  · rw [List.getElem?_eq_none (by simpa using hi)] at e
    cases e
def mRange1 (m : AD) : LD := fun env => (m env).bind fun a => match a.1 with
  | [.int j] => R.guard (decide (-(2 ^ 62) ≤ j ∧ j < 2 ^ 62)) (.ok ((List.range j.toNat).map (fun (i : Nat) => D.int (i : Int)), a.2))
  | _ => .bad
def mRange2 (m : AD) : LD := fun env => (m env).bind fun a => match a.1 with
  | [.int i, .int j] => R.guard (decide (-(2 ^ 62) ≤ i ∧ i < 2 ^ 62 ∧ -(2 ^ 62) ≤ j ∧ j < 2 ^ 62)) (.ok ((List.range (j - i).toNat).map (fun (q : Nat) => D.int (i + (q : Int))), a.2))
  | _ => .bad
section
variable {X : Cx} {c : Cen} {W : WX} {O F : List Nat} {mu : Bool} {pos p : Pos} {a b e tg : Expr} {m : ED} {ms : AD}
theorem reps1 {c : Cen} {H : Hp} {d : D} {vs : List V} (h : Reps c H [d] vs) : ∃ x, vs = [x] ∧ Rep c H d x := by
  unfold Reps at h
  obtain ⟨x, r, rfl, h1, h2⟩ := h
  unfold Reps at h2
  subst h2
  exact ⟨x, rfl, h1⟩
theorem reps2 {c : Cen} {H : Hp} {d d' : D} {vs : List V} (h : Reps c H [d, d'] vs) : ∃ x y, vs = [x, y] ∧ Rep c H d x ∧ Rep c H d' y := by
  unfold Reps at h
  obtain ⟨x, r, rfl, h1, h2⟩ := h
  obtain ⟨y, rfl, h3⟩ := reps1 h2
  exact ⟨x, y, rfl, h1, h3⟩
theorem RP.cases {α : Type} {r : R (α × Env)} {P : α → Env → Prop} {Ex : Exn → Env → Prop} (z : RP r P Ex) : (∃ d e, r = .ok (d, e) ∧ P d e) ∨ (∃ x e, r = .exc x e ∧ Ex x e) := by
  cases r with
  | ok a => exact .inl ⟨a.1, a.2, rfl, z⟩
  | exc x e => exact .inr ⟨x, e, rfl, z⟩
  | bad => exact z.elim
theorem di_seq (hK : X.K = c.K) (h : DQ X c W O F mu e m) : DI X c W O F mu tg e (mSeq m) := ⟨h.hF, fun G => ⟨fun pins s σ H Rk I q => by
  obtain ⟨env, vs, h'⟩ := q
  have q0 := RP.bind h'
  have key : ∀ {t : TI}, PI X tg e t → t σ H Rk → wpAny (model X.prog X.w) X.A (eval e X.env) (fun v s1 => wpAny (model X.prog X.w) X.A (pyIter v) (PIE X pins σ tg Rk) X.xe s1) X.xe s := fun hp ht => hp.run pins s σ H Rk I ht
  rcases RP.cases q0 with ⟨d, e1, hd, q1⟩ | ⟨x, e1, hx, q1⟩
  · cases d <;> first | exact q1.elim | skip
    case str x =>
      refine key (pi_str (h.pe G)) ⟨env, vs, ?_⟩
      rw [hd]
      intro v H1 vs1 k1 r1
      exact ⟨x, r1, q1 _ H1 vs1 k1 wk_str⟩
    case tup ds =>
      refine key (pi_tup (h.pe G)) ⟨env, vs, ?_⟩
      rw [hd]
      intro v H1 vs1 k1 r1
      obtain ⟨a, xs, rfl, h1, h2⟩ := r1
      refine ⟨a, rfl, ⟨xs, by rw [hK]; exact SqT.sub hide_sub h1⟩, ?_⟩
      rw [hK]
      exact q1 _ H1 vs1 k1 (wk_tup h1 h2)
    case lst ds =>
      refine key (pi_list (h.pe G)) ⟨env, vs, ?_⟩
      rw [hd]
      intro v H1 vs1 k1 r1
      obtain ⟨a, xs, rfl, h1, h2⟩ := r1
      refine ⟨a, rfl, ⟨xs, SqL.of (of_hide h1).1⟩, ?_⟩
      rw [hK]
      exact q1 _ H1 vs1 k1 (wk_lst h1 h2)
  · refine key (pi_list (h.pe G)) ⟨env, vs, ?_⟩
    rw [hx]
    exact q1⟩⟩
theorem di_range1 (hg : Gl X "range") (hm : X.mg "range" = none) (ha : DA X c W O F mu [a] ms) (hs : starEach [a] X.env = [(false, eval a X.env)] := by rfl) : DI X c W O F mu tg (.Call (.Name "range" p) [a] [] pos) (mRange1 ms) := ⟨ha.hF, fun G => PI.weak (pi_range1 hg hm (ha.pa G) hs) (by
  rintro σ H Rk ⟨env, vs, h⟩
  refine ⟨env, vs, (RP.bind h).mono (fun ds e1 q xs H1 vs1 k1 r1 => ?_) fun _ _ q => q⟩
  match ds, q, r1 with
  | [.int j], q, r1 =>
    obtain ⟨x, rfl, r2⟩ := reps1 r1
    unfold Rep at r2
    obtain ⟨hb, q⟩ := RP.guard q
    have hb' := of_decide_eq_true hb
    refine ⟨j, by rw [r2], hb'.1, hb'.2, q _ H1 vs1 k1 ?_⟩
    have := wk_range (c := c) (S := VL.hs G F σ) (Si := VL.hs G O σ) (H := H1) (lo := 0) (n := j.toNat)
    simpa using this)⟩
theorem di_range2 (hg : Gl X "range") (hm : X.mg "range" = none) (ha : DA X c W O F mu [a, b] ms) (hs : starEach [a, b] X.env = [(false, eval a X.env), (false, eval b X.env)] := by rfl) (hs2 : starEach [b] X.env = [(false, eval b X.env)] := by rfl) : DI X c W O F mu tg (.Call (.Name "range" p) [a, b] [] pos) (mRange2 ms) := ⟨ha.hF, fun G => PI.weak (pi_range2 hg hm (ha.pa G) hs hs2) (by
  rintro σ H Rk ⟨env, vs, h⟩
  refine ⟨env, vs, (RP.bind h).mono (fun ds e1 q xs H1 vs1 k1 r1 => ?_) fun _ _ q => q⟩
  match ds, q, r1 with
  | [.int i, .int j], q, r1 =>
    obtain ⟨x, y, rfl, r2, r3⟩ := reps2 r1
    unfold Rep at r2 r3
    obtain ⟨hb, q⟩ := RP.guard q
    have hb' := of_decide_eq_true hb
    exact ⟨i, j, by rw [r2, r3], hb', q _ H1 vs1 k1 wk_range⟩)⟩
/-- any source may be taken for one that hides less -/
theorem DI.to {F' : List Nat} {mu' : Bool} {mi : LD} {iter : Expr} (h : DI X c W O F' mu' tg iter mi) (hF : ∀ i ∈ F, i ∈ F' := by decide) (hm : mu' = true → mu = true := by decide) : DI X c W O F mu tg iter mi := ⟨fun i hi => h.hF i (hF i hi), fun G => PI.weak (h.pi G) (by
  rintro σ H Rk ⟨env, vs, h⟩
  refine ⟨env, vs, h.mono (fun ds e q J H' vs' k wk => q J H' vs' (fun x o e n => k x o e fun z => n (hm z)) fun S' H2 s0 s f => wk S' H2 (fun b o e => s0 b o (hs_le hF b o e)) s f) fun _ _ q => q⟩)⟩
end
end VL
end

section
set_option Elab.async false
set_option linter.all false
set_option maxRecDepth 100000
namespace VL
open PySem PySem.Spec PyProof.Rows L2

/-! ### targets -/
abbrev GD := D → Env → Option Env
def OnlyAt (vs : List Nat) (σ σ' : L2.St) : Prop := σ'.length = σ.length ∧ ∀ i, i ∉ vs → σ'[i]? = σ[i]?
theorem OnlyAt.refl {vs : List Nat} {σ : L2.St} : OnlyAt vs σ σ := ⟨rfl, fun _ _ => rfl⟩
theorem OnlyAt.trans {vs ws : List Nat} {σ σ1 σ2 : L2.St} (a : OnlyAt vs σ σ1) (b : OnlyAt ws σ1 σ2) : OnlyAt (vs ++ ws) σ σ2 := ⟨b.1.trans a.1, fun i hi => by
  simp only [List.mem_append, not_or] at hi
  exact (b.2 i hi.2).trans (a.2 i hi.1)⟩
def gD (c : Cen) (G : Gm) (O vs : List Nat) (gd : GD) : TG := fun v σ H Q => ∃ env d, VS c G O env σ H ∧ Rep c (hide (hs G O σ) H) d v ∧
  ∃ env', gd d env = some env' ∧ ∀ σ', OnlyAt vs σ σ' → VS c G O env' σ' H → Q σ' H
abbrev GDs := List D → Env → Option Env
def gDs (c : Cen) (G : Gm) (O vs : List Nat) (gd : GDs) : TGs := fun xs σ H Q => ∃ env ds, VS c G O env σ H ∧ Reps c (hide (hs G O σ) H) ds xs ∧
  ∃ env', gd ds env = some env' ∧ ∀ σ', OnlyAt vs σ σ' → VS c G O env' σ' H → Q σ' H
structure DG (X : Cx) (c : Cen) (O vs : List Nat) (tg : Expr) (gd : GD) : Prop where
  pg : ∀ G : Gm, PG X tg (gD c G O vs gd)
structure DGs (X : Cx) (c : Cen) (O vs : List Nat) (tg : List Expr) (gd : GDs) : Prop where
  pgs : ∀ G : Gm, PGs X tg (gDs c G O vs gd)
  vO : ∀ i ∈ vs, i ∉ O
def gName (i : Nat) : GD := fun d env => if i < env.length then some (env.set i (some d)) else none
def gNil : GDs := fun ds env => match ds with
  | [] => some env
  | _ => none
def gCons (g : GD) (gs : GDs) : GDs := fun ds env => match ds with
  | d :: r => (g d env).bind fun e => gs r e
  | [] => none
def gTup (n : Nat) (gs : GDs) : GD := fun d env => match d with
  | .tup ds => if ds.length = n then gs ds env else none
  | _ => none
theorem PG.weak {X : Cx} {tg : Expr} {t u : TG} (h : PG X tg t) (i : ∀ v σ H Q, u v σ H Q → t v σ H Q) : PG X tg u := ⟨fun pins s σ H v w Q I r q => h.run pins s σ H v w Q I r (i v σ H Q q)⟩
theorem PGs.weak {X : Cx} {tg : List Expr} {t u : TGs} (h : PGs X tg t) (i : ∀ v σ H Q, u v σ H Q → t v σ H Q) : PGs X tg u := ⟨fun pins s σ H v w Q I r q => h.run pins s σ H v w Q I r (i v σ H Q q)⟩
theorem Wn.only {O vs : List Nat} {σ σ' : L2.St} (h : OnlyAt vs σ σ') (hv : ∀ i ∈ vs, i ∉ O) {a : Addr} : Wn O σ' a ↔ Wn O σ a :=
  ⟨fun ⟨i, hi, e⟩ => ⟨i, hi, by rw [h.2 i fun z => hv i z hi] at e; exact e⟩, fun ⟨i, hi, e⟩ => ⟨i, hi, by rw [h.2 i fun z => hv i z hi]; exact e⟩⟩
section
variable {X : Cx} {c : Cen} {O vs ws : List Nat} {tg : Expr} {tgs : List Expr} {gd : GD} {gs : GDs} {pos : Pos} {i : Nat}
theorem filter_out {O : List Nat} {i : Nat} (h : i ∉ O) : O.filter (· != i) = O := List.filter_eq_self.mpr fun a ha => by
  have : a ≠ i := fun e => h (e ▸ ha)
  simpa using this
theorem VS.set' {G : Gm} {env : Env} {σ : L2.St} {H : Hp} {d : D} {v : V} (vs : VS c G O env σ H) (hO : i ∉ O) (hi : i < env.length) (r : Rep c (hide (hs G O σ) H) d v) (t : ∀ p ∈ G.ins, p.1 ≠ i) : VS c G O (env.set i (some d)) (σ.set i (some v)) H := by
  have h := vs.set hi r t
  rw [filter_out hO] at h
  exact h
theorem dg_name {x : Str} (hN : X.N.Nodup) (hi : X.N[i]? = some x) (hx : Loc X.env.scope x) (hO : i ∉ O := by decide) (hf : X.fn x = true ∨ X.env.scope.names.lookup x = some .local := by first | exact .inl rfl | exact .inr rfl | assumption) : DG X c O [i] (.Name x pos) (gName i) := ⟨fun G => PG.weak (pg_name hN hi hx hf) (by
  rintro v σ H Q ⟨env, d, vs, r, env', h, h2⟩
  unfold gName at h
  split at h
  case isFalse => cases h
  rename_i hl
  cases h
  refine h2 _ ⟨by simp, fun j hj => ?_⟩ (vs.set' hO hl r fun p hp e => hO (e ▸ (vs.ios p hp).1))
  rw [List.getElem?_set_ne (fun e => hj (by simp [e]))])⟩
theorem dgs_nil : DGs X c O [] [] gNil := ⟨fun G => PGs.weak pgs_nil (by
  rintro xs σ H Q ⟨env, ds, vs, r, env', h, h2⟩
  cases ds with
  | nil =>
    unfold Reps at r
    cases h
    exact ⟨r, h2 σ OnlyAt.refl vs⟩
  | cons d ds => cases h), fun i hi => by cases hi⟩
theorem dgs_cons (h1 : DG X c O vs tg gd) (h2 : DGs X c O ws tgs gs) (hv : ∀ i ∈ vs, i ∉ O := by decide) (hs : (assignEach (tg :: tgs) X.env).map (·.2) = assign tg X.env :: (assignEach tgs X.env).map (·.2) := by rfl) : DGs X c O (vs ++ ws) (tg :: tgs) (gCons gd gs) := ⟨fun G => PGs.weak (pgs_cons (h1.pg G) (h2.pgs G) hs) (by
  rintro xs σ H Q ⟨env, ds, vS, r, env', h, h2⟩
  cases ds with
  | nil => cases h
  | cons d ds =>
    unfold Reps at r
    obtain ⟨x, rr, rfl, r1, r2⟩ := r
    obtain ⟨e1, g1, g2⟩ := Option.bind_eq_some_iff.mp h
    refine ⟨x, rr, rfl, env, d, vS, r1, e1, g1, fun σ1 o1 vs1 => ?_⟩
    exact ⟨e1, ds, vs1, Reps.sub (hide_mono (fun b z => z.imp id fun w => (Wn.only o1 hv).mp w) fun _ _ e _ => e) _ _ r2, env', g2, fun σ2 o2 vs2 => h2 σ2 (o1.trans o2) vs2⟩), fun i hi => by
  rcases List.mem_append.mp hi with z | z
  · exact hv i z
  · exact h2.vO i z⟩
theorem dg_tup {n kk : Nat} (hK : X.K = c.K) (hc : X.calm = true) (h : DGs X c O vs tgs gs) (hn : (assignEach tgs X.env).length = n := by rfl) (hst : (assignEach tgs X.env).findIdx? (·.1) = none := by rfl) : DG X c O vs (.Tuple tgs kk pos) (gTup n gs) := ⟨fun G => PG.weak (pg_tup hc (h.pgs G) hn hst) (by
  rintro v σ H Q ⟨env, d, vS, r, env', h, h4⟩
  unfold gTup at h
  split at h
  case h_2 => cases h
  split at h
  case isFalse => cases h
  rename_i hl
  unfold Rep at r
  obtain ⟨a, xs, rfl, h1, h2⟩ := r
  exact ⟨a, xs, rfl, by rw [hK]; exact SqT.sub hide_sub h1, by rw [← h2.len]; exact hl, env, _, vS, h2, env', h, h4⟩)⟩
end

/-! ### for -/
def forIter (gd : GD) (b : SD) : List D → Env → R (Fl × Env)
  | [], env => .ok (.next, env)
  | d :: ds, env => match gd d env with
    | none => .bad
    | some e => (b e).bind fun r => match r.1 with
      | .next => forIter gd b ds r.2
      | .cont => forIter gd b ds r.2
      | .brk => .ok (.next, r.2)
      | .ret x => .ok (.ret x, r.2)
def sFor (mi : LD) (gd : GD) (b : SD) : SD := fun env => (mi env).bind fun a => forIter gd b a.1 a.2
open Classical in
noncomputable def Gm.at (G : Gm) (H1 : Hp) (O : List Nat) (σ : L2.St) : Gm := { H0 := fun b => if Wn O σ b then G.H0 b else H1 b, ins := G.ins, Hid := G.Hid }
section
variable {c : Cen} {G : Gm} {O O' : List Nat} {env env' : Env} {σ σ' : L2.St} {H H' : Hp}
theorem Gm.at_w {b : Addr} (h : Wn O σ b) : (G.at H O σ).H0 b = G.H0 b := by unfold Gm.at; simp only [if_pos h]
theorem Gm.at_n {b : Addr} (h : ¬ Wn O σ b) : (G.at H O σ).H0 b = H b := by unfold Gm.at; simp only [if_neg h]
theorem VS.inW (vs : VS c G O env σ H) {b : Addr} (h : G.inA b) : Wn O σ b := let ⟨p, hp, e⟩ := h; ⟨p.1, (vs.ios p hp).1, by rw [(vs.ios p hp).2, e]⟩
theorem VS.at (vs : VS c G O env σ H) : VS c (G.at H O σ) O env σ H := by
  refine ⟨vs.len, vs.imm, fun k hk => ?_, vs.sep, fun b o e n => ?_, fun b hb => ?_, vs.ios⟩
  · obtain ⟨d, a, h1, h2, h3, h4, h5⟩ := vs.own k hk
    exact ⟨d, a, h1, h2, h3, h4, h5.imp (fun z => (Gm.at_w ⟨k, hk, h2⟩).trans z) id⟩
  · by_cases hw : Wn O σ b
    · rw [Gm.at_w hw] at e
      exact vs.frame b o e n
    · rw [Gm.at_n hw] at e
      exact e
  · obtain ⟨h1, h2⟩ := vs.hid b hb
    refine ⟨fun z => ?_, h2⟩
    by_cases hw : Wn O σ b
    · rw [Gm.at_w hw] at z; exact h1 z
    · rw [Gm.at_n hw] at z
      cases e : G.H0 b with
      | none => exact h1 e
      | some o => rw [vs.frame b o e h2] at z; cases z
theorem VS.at0 (vs : VS c G O env σ H) {b : Addr} (h : (G.at H O σ).H0 b = none) : G.H0 b = none := by
  by_cases hw : Wn O σ b
  · rw [Gm.at_w hw] at h; exact h
  · rw [Gm.at_n hw] at h
    cases e : G.H0 b with
    | none => rfl
    | some o => rw [vs.frame b o e fun z => hw (vs.inW z)] at h; cases h
theorem VS.unat (vs : VS c G O env σ H) (v' : VS c (G.at H O σ) O' env' σ' H') : VS c G O' env' σ' H' := by
  refine ⟨v'.len, v'.imm, fun k hk => ?_, v'.sep, fun b o e n => ?_, fun b hb => vs.hid b hb, v'.ios⟩
  · obtain ⟨d, a, h1, h2, h3, h4, h5⟩ := v'.own k hk
    exact ⟨d, a, h1, h2, h3, h4, h5.imp (fun z => vs.at0 z) id⟩
  · refine v'.frame b o ?_ n
    by_cases hw : Wn O σ b
    · rw [Gm.at_w hw]; exact e
    · rw [Gm.at_n hw]; exact vs.frame b o e n
/-- what was kept at the start is kept -/
theorem VS.since (vs : VS c G O env σ H) (v' : VS c (G.at H O σ) O' env' σ' H') : Same (hide (hs G O σ) H) (hide (hs G O' σ') H') := fun b o e => by
  obtain ⟨e1, n⟩ := of_hide e
  have nw : ¬ Wn O σ b := fun z => n (.inr z)
  have ni : ¬ G.inA b := fun z => nw (vs.inW z)
  have e2 : (G.at H O σ).H0 b = some o := by rw [Gm.at_n nw]; exact e1
  refine hide_of (v'.frame b o e2 ni) ?_
  rintro (z | ⟨i, hi, ei⟩)
  · exact n (.inl z)
  · obtain ⟨d, a, h1, h2, h3, h4, h5⟩ := v'.own i hi
    rw [ei] at h2; cases h2
    rcases h5 with h5 | h5
    · rw [e2] at h5; cases h5
    · exact ni h5
end
theorem flK_at {c : Cen} {G : Gm} {O : List Nat} {env : Env} {σ : L2.St} {H : Hp} (vs : VS c G O env σ H) {io : List Nat} {rm : Bool} {En : Ends} {d : D} {e : Env} (h : retK c G io rm En d e) : retK c (G.at H O σ) io rm En d e := fun v σ' H' v1 r1 r2 =>
  h v σ' H' (vs.unat v1) r1 fun hr => by
    obtain ⟨a, o, e1, e2, e3, e4, e5, e6⟩ := r2 hr
    exact ⟨a, o, e1, e2, vs.at0 e3, e4, e5, e6⟩
section
variable {X : Cx} {k : Kf} {Ob O O' vs : List Nat} {sts : List Stmt} {m : SD} {mi : LD} {gd : GD} {tg iter : Expr} {pos : Pos}
theorem Gm.at_for {G : Gm} {H : Hp} {σ : L2.St} (g : G.for k) : (G.at H O σ).for k := g
theorem ds_for {mu : Bool} (hp : PassesOwn (model X.prog X.w) X.A X.env X.xe) (hc : X.calm = true) (hi : DI X k.c k.W O O mu tg iter mi) (hg : DG X k.c O vs tg gd) (hb : DSs X k O O O sts m)
    (hs : ∀ x, foldedSetIterable iter X.env x = pure x := by intro _; rfl) (hxo : ∀ i ∈ k.Ox, i ∈ O := by (try dsimp only); decide) : DS X k Ob O O (.For tg iter sts [] pos) (sFor mi gd m) := ⟨fun G g => ⟨fun pins s σ0 H0 En I q => by
  obtain ⟨env0, vs0, h0⟩ := q
  -- the source is told in the state as it stands; the loop's own frame is told behind it
  let P : L2.St → Hp → Env → List D → Prop := fun σ H e ds => RP (forIter gd m ds e) (flK k.c G k.io k.rm Ob O En) (exS k.c G k.W k.Ox)
  let Gx : Hp × L2.St → Gm := fun z => G.at z.1 O z.2
  refine (ps_for hp hc (hi.pi G) (g := fun v σ H Q => ∃ G' : Gm, G'.for k ∧ gD k.c G' O vs gd v σ H Q) ?_ (tb := fun D σ H => ∃ G' : Gm, G'.for k ∧ dS k.c G' k.W k.io k.rm k.Ox O O O m D σ H) ?_ hs).run pins s σ0 H0 En I ?_
  · exact ⟨fun pins s σ H v u Q I r ⟨G', g', q⟩ => (hg.pg G').run pins s σ H v u Q I r q⟩
  · exact ⟨fun pins s σ H D I ⟨G', g', q⟩ => (hb.pss G' g').run pins s σ H D I q⟩
  · refine ⟨env0, vs0, (RP.bind h0).mono (fun ds e1 h1 J H1 vs1 k1 wk => ?_) fun x e1 q => exK_of g hxo q⟩
    refine ⟨fun i n σ H => n = ds.length - i ∧ ∃ e, VS k.c (G.at H1 O σ0) O e σ H ∧ i ≤ ds.length ∧ P σ H e (ds.drop i), ⟨ds.length, by simp, e1, vs1.at, Nat.zero_le _, h1⟩, ?_⟩
    rintro i n σ H ⟨rfl, e, vs2, hi', hP⟩
    obtain ⟨w1, w2⟩ := wk (VL.hs G O σ) H (fun b o e => hide_sub b o (vs1.since vs2 b o e)) (vs1.since vs2) (vs2.freshS (F := O) fun _ z => z)
    by_cases hlt : i < ds.length
    · refine .inr ?_
      have hd : ds[i]? = some ds[i] := by simp [hlt]
      obtain ⟨go, yl⟩ := w1 i _ hd
      refine ⟨go, fun σ' H' => ∃ e, VS k.c (G.at H1 O σ0) O e σ' H' ∧ P σ' H' e (ds.drop (i + 1)), fun σ' H' ⟨e', v', q'⟩ => ⟨ds.length - (i + 1), by omega, rfl, e', v', hlt, q'⟩, fun x H' hy => ?_⟩
      obtain ⟨s1, r1⟩ := yl x H' hy
      have hP' : RP (forIter gd m (ds[i] :: ds.drop (i + 1)) e) (flK k.c G k.io k.rm Ob O En) (exS k.c G k.W k.Ox) := by
        have e3 : ds.drop i = ds[i] :: ds.drop (i + 1) := List.drop_eq_getElem_cons hlt
        have hP2 : RP (forIter gd m (ds.drop i) e) (flK k.c G k.io k.rm Ob O En) (exS k.c G k.W k.Ox) := hP
        rw [e3] at hP2
        exact hP2
      refine ⟨G.at H1 O σ0, g, e, ds[i], vs2.grow s1, r1, ?_⟩
      rw [forIter] at hP'
      cases hgd : gd ds[i] e with
      | none => rw [hgd] at hP'; exact hP'.elim
      | some e2 =>
        rw [hgd] at hP'
        refine ⟨e2, rfl, fun σ2 o2 vs3 => ⟨G.at H1 O σ0, g, e2, vs3, (RP.bind hP').mono (fun f e4 h4 => ?_) fun x e4 q cls dd σ' H' v' r' => q cls dd σ' H' (vs1.unat v') r'⟩⟩
        cases f with
        | next => exact fun σ' H' v' => ⟨e4, v', h4⟩
        | cont => exact fun σ' H' v' => ⟨e4, v', h4⟩
        | brk => exact fun σ' H' v' => h4 σ' H' (vs1.unat v')
        | ret x => exact flK_at vs1 h4
    · have e3 : i = ds.length := by omega
      subst e3
      have hP2 : RP (forIter gd m (ds.drop ds.length) e) (flK k.c G k.io k.rm Ob O En) (exS k.c G k.W k.Ox) := hP
      rw [List.drop_length] at hP2
      exact .inl ⟨w2 _ (Nat.le_refl _), hP2 σ H (vs1.unat vs2)⟩⟩⟩
end
end VL
end

section
set_option Elab.async false
set_option linter.all false
set_option maxRecDepth 100000
namespace VL
open PySem PySem.Spec PyProof.Rows L2

/-! ### what a def promises -/
abbrev FD := List D → R (D × Env)
def proj (io : List Nat) (e : Env) : Env := io.map fun i => (e[i]?).getD none
def runFn (io : List Nat) (rm : Bool) (n : Nat) (body : SD) : FD := fun args => match body (args.map some ++ List.replicate (n - args.length) none) with
  | .ok (.ret d, e) => .ok (d, proj io e)
  | .ok (.next, e) => if rm then .bad else .ok (.non, proj io e)
  | .ok _ => .bad
  | .exc x e => .exc x (proj io e)
  | .bad => .bad
structure OutOK (c : Cen) (G : Gm) (outs : Env) (H' : Hp) : Prop where
  frame : ∀ a o, G.H0 a = some o → ¬ G.inA a → H' a = some o
  outs : ∀ (j : Nat) (p : Nat × Addr), G.ins[j]? = some p → ∃ d, outs[j]? = some (some d) ∧ RepO c (hide (fun b => G.Hid b ∨ G.inA b) H') H' d p.2
def spD (c : Cen) (io : List Nat) (rm : Bool) (np : Nat) (sem : FD) : Sp := fun vs H Q E => vs.length = np ∧ ∃ (G : Gm) (ds : List D), G.H0 = H ∧ G.ins.map (·.1) = io ∧ VS c G io (ds.map some) (vs.map some) H ∧
  RP (sem ds) (fun d outs => ∀ v H', OutOK c G outs H' → (rm = false → Rep c (hide (fun b => G.Hid b ∨ G.inA b) H') d v) →
      (rm = true → ∃ a o, v = .ref a ∧ H' a = some o ∧ H a = none ∧ RepO c (hide (fun b => (G.Hid b ∨ G.inA b) ∨ b = a) H') H' d a) → Q v H')
    (fun x outs => ∀ cls dd H', OutOK c G outs H' → ExcRep c (hide G.Hid H') x cls dd → E cls dd H')
section
variable {c : Cen} {G : Gm} {O : List Nat} {env : Env} {σ : L2.St} {H : Hp}
theorem VS.pad (vs : VS c G O env σ H) (n : Nat) : VS c G O (env ++ List.replicate n none) (σ ++ List.replicate n none) H := by
  have up : ∀ {i : Nat} {x : Option V}, σ[i]? = some x → (σ ++ List.replicate n none)[i]? = some x := fun {i x} e => by rw [List.getElem?_append_left (List.getElem?_eq_some_iff.mp e).1]; exact e
  have dn : ∀ {i : Nat} {x : V}, (σ ++ List.replicate n none)[i]? = some (some x) → σ[i]? = some (some x) := fun {i x} e => by
    by_cases h : i < σ.length
    · rw [List.getElem?_append_left h] at e; exact e
    · rw [List.getElem?_append_right (Nat.le_of_not_lt h), List.getElem?_replicate] at e
      split at e <;> cases e
  have dnE : ∀ {i : Nat} {x : D}, (env ++ List.replicate n none)[i]? = some (some x) → env[i]? = some (some x) := fun {i x} e => by
    by_cases h : i < env.length
    · rw [List.getElem?_append_left h] at e; exact e
    · rw [List.getElem?_append_right (Nat.le_of_not_lt h), List.getElem?_replicate] at e
      split at e <;> cases e
  have wn : ∀ F a, Wn F (σ ++ List.replicate n none) a → Wn F σ a := fun F a ⟨i, hi, e⟩ => ⟨i, hi, dn e⟩
  have hm : Same (hide (hs G O σ) H) (hide (hs G O (σ ++ List.replicate n none)) H) := hide_mono (fun b z => z.imp id (wn O b)) fun _ _ e _ => e
  refine ⟨by simp [vs.len], fun i d e hn => ?_, fun i hi => ?_, fun i hi j hj e => ?_, vs.frame, vs.hid, fun p hp => ⟨(vs.ios p hp).1, up (vs.ios p hp).2⟩⟩
  · obtain ⟨x, h1, h2⟩ := vs.imm i d (dnE e) hn
    exact ⟨x, up h1, Rep.sub hm _ _ h2⟩
  · obtain ⟨d, a, h1, h2, h3, h4⟩ := vs.own i hi
    exact ⟨d, a, by rw [List.getElem?_append_left (List.getElem?_eq_some_iff.mp h1).1]; exact h1, up h2, h3.sub hm fun _ z => z, h4⟩
  · obtain ⟨_, a, _, h2, _⟩ := vs.own i hi
    obtain ⟨_, b, _, h3, _⟩ := vs.own j hj
    rw [up h2, up h3] at e
    exact vs.sep i hi j hj (by rw [h2, h3, e])
theorem VS.io_iff {io : List Nat} (vs : VS c G O env σ H) (g : G.ins.map (·.1) = io) {b : Addr} : Wn io σ b ↔ G.inA b := by
  constructor
  · rintro ⟨i, hi, e⟩
    rw [← g] at hi
    obtain ⟨p, hp, rfl⟩ := List.mem_map.mp hi
    rw [(vs.ios p hp).2] at e
    exact ⟨p, hp, by cases e; rfl⟩
  · rintro ⟨p, hp, e⟩
    exact ⟨p.1, by rw [← g]; exact List.mem_map_of_mem hp, by rw [(vs.ios p hp).2, e]⟩
theorem VS.out {io : List Nat} (vs : VS c G io env σ H) (g : G.ins.map (·.1) = io) : OutOK c G (proj io env) H := ⟨vs.frame, fun j p hp => by
  have hm : p.1 ∈ io := by rw [← g]; exact List.mem_map_of_mem (List.mem_of_getElem? hp)
  obtain ⟨d, a, h1, h2, h3, _⟩ := vs.own p.1 hm
  rw [(vs.ios p (List.mem_of_getElem? hp)).2] at h2
  cases h2
  refine ⟨d, ?_, h3.sub (hide_mono (fun b z => z.imp id (vs.io_iff g).mpr) fun _ _ e _ => e) fun _ z => z⟩
  unfold proj
  rw [List.getElem?_map, ← g, List.getElem?_map, hp]
  simp [h1]⟩
end
section
variable {P : Program} {w : World} {K : PySem.W.Frag} {mg : Str → Option Value} {base : Heap}
/-- a def keeps the promise of its body -/
theorem fn_ok {x qual : Str} {st : Stmt} {f : Addr} {fd : FuncData} {N ps : List Str} {kk : Nat} {c : Cen} {io O' : List Nat} {rm : Bool} {body : SD} (F : Fun K x qual st f fd) (S : FnScope N ps (defScope st))
    (hn : rm = true → noNext body) (hO : ∀ i ∈ io, i ∈ O')
    (hb : ∀ (cdv : Value) (A : Around) (outer : List PySem.Env) (s : Shared) (H : Hp) (E : XK), Room kk (A.deeper (envOfC qual (defScope st) s.heap.objs.size f cdv)) →
      DSs (cxOf (L2.CX P w) P w K mg base N qual (defScope st) f cdv A outer s H E) ⟨c, fun cls d _ H => E cls d H, io, rm, io⟩ [] io O' (defBody st) body) :
    FnOk P w K mg base (L2.CX P w) (kk + 1) f fd ps (spD c io rm ps.length (runFn io rm N.length body)) := by
  refine F.okX S (fun vs H Q E h => h.1) fun cdv A outer s H vs Q E hr h => ?_
  obtain ⟨hl, G, ds, h0, g, v0, hq⟩ := h
  refine ⟨_, (hb cdv A outer s H E hr).pss G ⟨g, fun _ z => z⟩, ds.map some ++ List.replicate (N.length - ds.length) none, ?_, ?_⟩
  · have hl2 : ds.length = vs.length := by have := v0.len; simpa using this
    unfold L2.start
    rw [← hl2]
    exact v0.pad _
  · unfold runFn at hq
    generalize hbd : body (ds.map some ++ List.replicate (N.length - ds.length) none) = r at hq ⊢
    have wi : ∀ {H' : Hp} {σ' : L2.St} {e : Env}, VS c G io e σ' H' → Same (hide (hs G io σ') H') (hide (fun b => G.Hid b ∨ G.inA b) H') := fun {H' σ' e} v' => hide_mono (fun b z => z.imp id (v'.io_iff g).mpr) fun _ _ e _ => e
    cases r with
    | bad => exact hq.elim
    | exc x e => exact fun cls dd σ' H' v' r' => hq cls dd H' (v'.out g) r'
    | ok fe =>
      obtain ⟨fl, e⟩ := fe
      cases fl with
      | next =>
        cases rm with
        | true => exact absurd hbd (hn rfl _ _)
        | false =>
          intro σ' H' v'
          have v2 := v'.drop hO fun p hp => by rw [← g]; exact List.mem_map_of_mem hp
          exact hq .non H' (v2.out g) (fun _ => by unfold Rep; rfl) fun z => by cases z
      | brk => exact hq.elim
      | cont => exact hq.elim
      | ret d =>
        intro v σ' H' v' r1 r2
        refine hq v H' (v'.out g) (fun z => Rep.sub (wi v') _ _ (r1 z)) fun z => ?_
        obtain ⟨a, o, e1, e2, e3, e4, e5, e6⟩ := r2 z
        refine ⟨a, o, e1, e2, by rw [← h0]; exact e3, e6.sub (hide_mono (fun b z => ?_) fun _ _ e _ => e) fun _ z => z⟩
        rcases z with z | z
        · exact hs_hid.mpr (.inl (z.imp id (v'.io_iff g).mpr))
        · exact hs_hid.mpr (.inr z)
end

/-! ### calls that write nothing -/
def mCall (sem : FD) (ms : AD) : ED := fun env => (ms env).bind fun a => match sem a.1 with
  | .ok (d, _) => .ok (d, a.2)
  | .exc x _ => .exc x a.2
  | .bad => .bad
section
variable {X : Cx} {c : Cen} {W : WX} {O F : List Nat} {mu : Bool} {pos p : Pos} {e : Expr} {es : List Expr} {ms : AD} {k : Nat} {f : Addr} {fd : FuncData} {ps : List Str} {x : Str} {sem : FD} {rm : Bool}
/-- the callee's view: all that F's slots own is hidden -/
def Gm.cal (G : Gm) (F : List Nat) (σ : L2.St) (H : Hp) : Gm := { H0 := H, ins := [], Hid := hs G F σ }
theorem reps_get {H : Hp} {ds : List D} {vs : List V} (r : Reps c H ds vs) {i : Nat} {d : D} (e : (ds.map some)[i]? = some (some d)) : ∃ v, (vs.map some)[i]? = some (some v) ∧ Rep c H d v := by
  rw [List.getElem?_map] at e
  cases h : ds[i]? with
  | none => rw [h] at e; cases e
  | some d' =>
    rw [h] at e; cases e
    obtain ⟨v, h1, h2⟩ := r.get h
    exact ⟨v, by rw [List.getElem?_map, h1]; rfl, h2⟩
theorem VS.toCal {G : Gm} {env : Env} {σ : L2.St} {H : Hp} {ds : List D} {vs : List V} (v : VS c G O env σ H) (hF : ∀ i ∈ F, i ∈ O) (r : Reps c (hide (hs G F σ) H) ds vs) : VS c (G.cal F σ H) [] (ds.map some) (vs.map some) H := by
  have nw : ∀ b, ¬ Wn [] (vs.map some) b := fun b ⟨i, hi, _⟩ => by cases hi
  refine ⟨by simp [r.len], fun i d e n => ?_, fun i hi => (by cases hi), fun i hi => (by cases hi), fun a o e _ => e, fun a ha => ⟨fun z => ?_, fun ⟨p, hp, _⟩ => (by cases hp)⟩, fun p hp => (by cases hp)⟩
  · obtain ⟨x, h1, h2⟩ := reps_get r e
    exact ⟨x, h1, Rep.sub (hide_mono (fun b z => z.elim id fun z => (nw b z).elim) fun _ _ e _ => e) _ _ h2⟩
  · rcases ha with ha | ⟨i, hi, e⟩
    · obtain ⟨h1, h2⟩ := v.hid a ha
      cases e : G.H0 a with
      | none => exact h1 e
      | some o =>
        have q := v.frame a o e h2
        have z' : H a = none := z
        rw [q] at z'; cases z'
    · obtain ⟨d, b, h1, h2, h3, _⟩ := v.own i (hF i hi)
      rw [e] at h2; cases h2
      obtain ⟨o, ho, _⟩ := h3.at
      have z' : H a = none := z
      rw [ho] at z'; cases z'
theorem call_weak {np : Nat} (ha : DA X c W O F mu es ms) (hl : es.length = np) : ∀ (G : Gm) σ H Q, dE c G W O F mu (mCall sem ms) σ H Q → tCallS (spD c [] false np sem) (WE W) (dA c G W O F mu ms) σ H Q := by
  have hF := ha.hF
  rintro G σ H Q ⟨env, vs, h⟩
  cases hms : ms env with
  | bad =>
    unfold mCall at h
    rw [hms] at h; exact h.elim
  | exc x e1 =>
    refine ⟨env, vs, ?_⟩
    rw [hms]
    unfold mCall at h
    rw [hms] at h
    exact h
  | ok de =>
  obtain ⟨ds, e1⟩ := de
  have h1 := RP.bind h
  rw [hms] at h1
  refine ⟨env, vs, ?_⟩
  rw [hms]
  intro xs H1 vs1 k1 r1
  have h1 : RP (match sem ds with | .ok (d, _) => .ok (d, e1) | .exc x _ => .exc x e1 | .bad => .bad) _ _ := h1
  refine ⟨by rw [← r1.len, ha.len _ _ _ hms, hl], G.cal F σ H1, ds, rfl, rfl, vs1.toCal hF r1, ?_⟩
  have keep : ∀ {H' : Hp} {outs : Env}, OutOK c (G.cal F σ H1) outs H' → Same H1 H' := fun {H' outs} o a z e => o.frame a z e fun ⟨p, hp, _⟩ => by cases hp
  have inv : ∀ b, ((G.cal F σ H1).Hid b ∨ (G.cal F σ H1).inA b) → hs G F σ b := fun b z => z.elim id fun ⟨p, hp, _⟩ => by cases hp
  cases hs' : sem ds with
  | bad => rw [hs'] at h1; exact h1.elim
  | exc x o =>
    rw [hs'] at h1
    intro cls dd H' out er
    refine h1 cls dd H' (vs1.grow (keep out)) ?_
    obtain ⟨e1, e2⟩ := er
    refine ⟨e1, e2.imp id fun ⟨d, xs, q1, q2, q3⟩ => ⟨d, xs, q1, ?_, Reps.sub (hide_mono (fun b z => .inl z) fun _ _ e _ => e) _ _ q3⟩⟩
    obtain ⟨g1, g2⟩ := of_hide q2
    exact hide_of g1 fun z => g2 (.inl z)
  | ok de =>
    obtain ⟨d, o⟩ := de
    rw [hs'] at h1
    intro v H' out r2 _
    exact h1 v H' (vs1.grow (keep out)) (k1.trans (Keep.of (keep out))) (Rep.sub (hide_mono (fun b z => .inl z) fun _ _ e _ => e) _ _ (r2 rfl))
end
end VL
end

section
set_option Elab.async false
set_option linter.all false
set_option maxRecDepth 100000
namespace VL
open PySem PySem.Spec PyProof.Rows L2

section
variable {X : Cx} {c : Cen} {W : WX} {O F : List Nat} {mu : Bool} {pos p : Pos} {e : Expr} {es : List Expr} {ms : AD} {k : Nat} {f : Addr} {fd : FuncData} {ps : List Str} {x : Str} {sem : FD} {rm : Bool}
theorem de_call (Fn : FnOk X.prog X.w X.K X.mg X.base (L2.CX X.prog X.w) k f fd ps (spD c [] false ps.length sem)) (hr : Room k X.A) (hg : Gl X x) (hm : X.mg x = some (.ref f)) (hk : PySem.W.keepIn X.K (.ref f) = true) (hb : Binds X.K fd ps []) (tk : Takes X W)
    (ha : DA X c W O F mu (e :: es) ms) (hl : (e :: es).length = ps.length := by rfl) (hdb : (x == ("__debug__" : Str)) = false := by decide) (he : starEach (e :: es) X.env = (false, eval e X.env) :: starEach es X.env := by rfl) (hpl : (backTo pos (starEach es X.env)).any (·.1) = false := by rfl) :
    DE X c W O F mu (.Call (.Name x p) (e :: es) [] pos) (mCall sem ms) :=
  ⟨ha.hF, fun G => PE.weak (pe_callS Fn hr hg hm hk hb (fun σ => passAt tk σ) (ha.pa G) hdb he hpl) (call_weak ha hl G)⟩
/-- a def that hands out a new thing -/
theorem callO_weak {np : Nat} (ha : DA X c W O F mu es ms) (hl : es.length = np) : ∀ (G : Gm) σ H Q, dEO c G W O F mu (mCall sem ms) σ H Q → tCallS (spD c [] true np sem) (WE W) (dA c G W O F mu ms) σ H Q := by
  have hF := ha.hF
  rintro G σ H Q ⟨env, vs, h⟩
  cases hms : ms env with
  | bad =>
    unfold mCall at h
    rw [hms] at h; exact h.elim
  | exc x e1 =>
    refine ⟨env, vs, ?_⟩
    rw [hms]
    unfold mCall at h
    rw [hms] at h
    exact h
  | ok de =>
  obtain ⟨ds, e1⟩ := de
  have h1 := RP.bind h
  rw [hms] at h1
  refine ⟨env, vs, ?_⟩
  rw [hms]
  intro xs H1 vs1 k1 r1
  have h1 : RP (match sem ds with | .ok (d, _) => .ok (d, e1) | .exc x _ => .exc x e1 | .bad => .bad) _ _ := h1
  refine ⟨by rw [← r1.len, ha.len _ _ _ hms, hl], G.cal F σ H1, ds, rfl, rfl, vs1.toCal hF r1, ?_⟩
  have keep : ∀ {H' : Hp} {outs : Env}, OutOK c (G.cal F σ H1) outs H' → Same H1 H' := fun {H' outs} o a z e => o.frame a z e fun ⟨p, hp, _⟩ => by cases hp
  have inv : ∀ b, ((G.cal F σ H1).Hid b ∨ (G.cal F σ H1).inA b) → hs G F σ b := fun b z => z.elim id fun ⟨p, hp, _⟩ => by cases hp
  cases hs' : sem ds with
  | bad => rw [hs'] at h1; exact h1.elim
  | exc x o =>
    rw [hs'] at h1
    intro cls dd H' out er
    refine h1 cls dd H' (vs1.grow (keep out)) ?_
    obtain ⟨e1, e2⟩ := er
    refine ⟨e1, e2.imp id fun ⟨d, xs, q1, q2, q3⟩ => ⟨d, xs, q1, ?_, Reps.sub (hide_mono (fun b z => .inl z) fun _ _ e _ => e) _ _ q3⟩⟩
    obtain ⟨g1, g2⟩ := of_hide q2
    exact hide_of g1 fun z => g2 (.inl z)
  | ok de =>
    obtain ⟨d, o⟩ := de
    rw [hs'] at h1
    intro v H' out _ r2
    obtain ⟨a, o, rfl, e2, e3, e4⟩ := r2 rfl
    obtain ⟨n1, n2, n3⟩ := vs1.fresh e3
    have s : Same (upd H1 a o) H' := fun b x e => by
      by_cases hb : b = a
      · subst hb
        rw [upd_same] at e; cases e; exact e2
      · rw [upd_ne hb] at e
        exact keep out b x e
    refine h1 a o H' e2 n3 n1 n2 ((vs1.hidNew e3).grow s) (k1.trans (Keep.of (keep out))) (e4.sub (hide_mono (fun b z => (hs_hid.mp z).elim (fun q => .inl (.inl q)) .inr) fun _ _ e _ => e) fun _ z => z)
theorem do_call (Fn : FnOk X.prog X.w X.K X.mg X.base (L2.CX X.prog X.w) k f fd ps (spD c [] true ps.length sem)) (hr : Room k X.A) (hg : Gl X x) (hm : X.mg x = some (.ref f)) (hk : PySem.W.keepIn X.K (.ref f) = true) (hb : Binds X.K fd ps []) (tk : Takes X W)
    (ha : DA X c W O F mu (e :: es) ms) (hl : (e :: es).length = ps.length := by rfl) (hdb : (x == ("__debug__" : Str)) = false := by decide) (he : starEach (e :: es) X.env = (false, eval e X.env) :: starEach es X.env := by rfl) (hpl : (backTo pos (starEach es X.env)).any (·.1) = false := by rfl) :
    DEO X c W O F mu (.Call (.Name x p) (e :: es) [] pos) (mCall sem ms) :=
  ⟨ha.hF, fun G => PE.weak (pe_callS Fn hr hg hm hk hb (fun σ => passAt tk σ) (ha.pa G) hdb he hpl) (callO_weak ha hl G)⟩
end

/-! ### calls that are handed owned slots to write -/
inductive AK where
  | val (d : D) | slot (i : Nat)
abbrev KD := Env → R (List AK × Env)
/-- the arguments as they came: kept values; owned slots by their places -/
def AKs (c : Cen) (G : Gm) (O : List Nat) (σ : L2.St) (H : Hp) : List AK → List V → Prop
  | [], vs => vs = []
  | .val d :: r, vs => ∃ v s, vs = v :: s ∧ Rep c (hide (hs G O σ) H) d v ∧ AKs c G O σ H r s
  | .slot i :: r, vs => ∃ a s, vs = .ref a :: s ∧ σ[i]? = some (some (.ref a)) ∧ AKs c G O σ H r s
def dK (c : Cen) (G : Gm) (W : WX) (O : List Nat) (m : KD) : TA := fun σ H Q => ∃ env, VS c G O env σ H ∧
  RP (m env) (fun ks env' => ∀ vs H', VS c G O env' σ H' → Keep true (Wn O σ) H H' → AKs c G O σ H' ks vs → Q vs H') (exK c G W O σ)
/-- sl: which arguments are slots -/
structure DK (X : Cx) (c : Cen) (W : WX) (O : List Nat) (es : List Expr) (sl : List (Option Nat)) (m : KD) : Prop where
  len : sl.length = es.length
  shape : ∀ env ks e, m env = .ok (ks, e) → ks.length = sl.length ∧ ∀ j : Nat, (∀ i, sl[j]? = some (some i) → ks[j]? = some (.slot i)) ∧ (sl[j]? = some none → ∃ d, ks[j]? = some (.val d))
  own : ∀ i, some i ∈ sl → i ∈ O
  pa : ∀ G, PA X es (dK c G W O m)
def kNil : KD := fun env => .ok ([], env)
def kVal (m : ED) (ms : KD) : KD := fun env => (m env).bind fun a => (ms a.2).bind fun r => .ok (.val a.1 :: r.1, r.2)
def kSlot (i : Nat) (ms : KD) : KD := fun env => (ms env).bind fun r => .ok (.slot i :: r.1, r.2)
section
variable {X : Cx} {c : Cen} {W : WX} {O F : List Nat} {mu : Bool} {pos p : Pos} {e : Expr} {es : List Expr} {m : ED} {ms : KD} {sl : List (Option Nat)} {G : Gm} {σ : L2.St} {H H' : Hp}
theorem AKs.sub (s : Same (hide (hs G O σ) H) (hide (hs G O σ) H')) : ∀ {ks : List AK} {vs : List V}, AKs c G O σ H ks vs → AKs c G O σ H' ks vs
  | [], vs, h => h
  | .val d :: r, vs, ⟨v, t, e, h1, h2⟩ => ⟨v, t, e, Rep.sub s _ _ h1, AKs.sub s h2⟩
  | .slot i :: r, vs, ⟨a, t, e, h1, h2⟩ => ⟨a, t, e, h1, AKs.sub s h2⟩
theorem dk_nil : DK X c W O [] [] kNil := ⟨rfl, fun env ks e h => by cases h; exact ⟨rfl, fun j => ⟨fun i z => by simp at z, fun z => by simp at z⟩⟩, fun i hi => (by cases hi), fun G => PA.weak pa_nil (by
  rintro σ H Q ⟨env, vs, h⟩
  exact h [] H vs Keep.refl rfl)⟩
theorem dk_val (ha : DE X c W O O mu e m) (hr : DK X c W O es sl ms) (hst : starEach (e :: es) X.env = (false, eval e X.env) :: starEach es X.env := by rfl) : DK X c W O (e :: es) (none :: sl) (kVal m ms) := ⟨by simp [hr.len], fun env ks e h => by
  unfold kVal at h
  cases h1 : m env with
  | bad => rw [h1] at h; cases h
  | exc x e => rw [h1] at h; cases h
  | ok a =>
    rw [h1] at h
    simp only [R.bind_ok] at h
    cases h2 : ms a.2 with
    | bad => rw [h2] at h; cases h
    | exc x e => rw [h2] at h; cases h
    | ok b =>
      rw [h2] at h
      cases h
      obtain ⟨g1, g2⟩ := hr.shape _ _ _ h2
      refine ⟨by simp [g1], fun j => ?_⟩
      cases j with
      | zero => exact ⟨fun i z => by simp at z, fun _ => ⟨_, by simp; rfl⟩⟩
      | succ j => simpa using g2 j, fun i hi => hr.own i (by simpa using hi), fun G => PA.weak (pa_cons (ha.pe G) (hr.pa G) hst) (by
  rintro σ H Q ⟨env, vs, h⟩
  refine ⟨env, vs, (RP.bind h).mono (fun da e1 h1 x H1 vs1 k1 r1 => ?_) (fun _ _ q => q)⟩
  refine ⟨e1, vs1, (RP.bind h1).mono (fun ds e2 h2 ys H2 vs2 k2 r2 => ?_) (fun _ _ q => q)⟩
  exact h2 (x :: ys) H2 vs2 (fun b o e n => k2 b o (k1 b o e fun _ => n rfl) n) ⟨x, ys, rfl, Rep.sub (k2.hide fun _ _ z => z) _ _ r1, r2⟩)⟩
theorem dk_slot {i : Nat} {x : Str} {px : Pos} (ha : PE X (.Name x px) (tVar i)) (hr : DK X c W O es sl ms) (hi : i ∈ O := by decide) (hst : starEach (.Name x px :: es) X.env = (false, eval (.Name x px) X.env) :: starEach es X.env := by rfl) : DK X c W O (.Name x px :: es) (some i :: sl) (kSlot i ms) := ⟨by simp [hr.len], fun env ks e h => by
  unfold kSlot at h
  cases h2 : ms env with
  | bad => rw [h2] at h; cases h
  | exc x e => rw [h2] at h; cases h
  | ok b =>
    rw [h2] at h
    cases h
    obtain ⟨g1, g2⟩ := hr.shape _ _ _ h2
    refine ⟨by simp [g1], fun j => ?_⟩
    cases j with
    | zero => exact ⟨fun i z => by simp at z; simp [z], fun z => by simp at z⟩
    | succ j => simpa using g2 j, fun j hj => by
      simp only [List.mem_cons, Option.some.injEq] at hj
      rcases hj with rfl | hj
      · exact hi
      · exact hr.own j hj, fun G => PA.weak (pa_cons ha (hr.pa G) hst) (by
  rintro σ H Q ⟨env, vs, h⟩
  obtain ⟨d, a, e1, e2, _⟩ := vs.own i hi
  refine ⟨_, e2, env, vs, (RP.bind h).mono (fun ds e2' h2 ys H2 vs2 k2 r2 => ?_) (fun _ _ q => q)⟩
  exact h2 (.ref a :: ys) H2 vs2 k2 ⟨a, ys, rfl, e2, r2⟩)⟩
end

/-- what the callee is handed -/
def akD (env : Env) : AK → Option D
  | .val d => some d
  | .slot i => (env[i]?).getD none
def akAll (env : Env) : List AK → Option (List D)
  | [] => some []
  | a :: r => (akD env a).bind fun d => (akAll env r).bind fun ds => some (d :: ds)
/-- behind the call the slots hold what came out -/
def setAll : List Nat → Env → Env → Env
  | i :: r, o :: outs, env => setAll r outs (env.set i o)
  | _, _, env => env
def mCallK (sem : FD) (ss : List Nat) (ms : KD) : ED := fun env => (ms env).bind fun a => match akAll a.2 a.1 with
  | none => .bad
  | some ds => match sem ds with
    | .ok (d, outs) => .ok (d, setAll ss outs a.2)
    | .exc x outs => .exc x (setAll ss outs a.2)
    | .bad => .bad

/-- the owned slots among the arguments, with their places in the callee -/
def slPairs : List (Option Nat) → Nat → List (Nat × Nat)
  | [], _ => []
  | some i :: r, j => (j, i) :: slPairs r (j + 1)
  | none :: r, j => slPairs r (j + 1)
theorem mem_slPairs : ∀ {sl : List (Option Nat)} {j0 : Nat} {q : Nat × Nat}, q ∈ slPairs sl j0 ↔ ∃ j, q.1 = j0 + j ∧ sl[j]? = some (some q.2)
  | [], j0, q => by simp [slPairs]
  | some i :: r, j0, q => by
    unfold slPairs
    rw [List.mem_cons, mem_slPairs]
    constructor
    · rintro (h | ⟨j, h1, h2⟩)
      · exact ⟨0, by rw [h]; simp, by rw [h]; simp⟩
      · exact ⟨j + 1, by rw [h1]; omega, by simpa using h2⟩
    · rintro ⟨j, h1, h2⟩
      cases j with
      | zero =>
        left
        simp at h2
        exact Prod.ext (by simpa using h1) h2.symm
      | succ j => exact .inr ⟨j, by rw [h1]; omega, by simpa using h2⟩
  | none :: r, j0, q => by
    unfold slPairs
    rw [mem_slPairs]
    constructor
    · rintro ⟨j, h1, h2⟩
      exact ⟨j + 1, by rw [h1]; omega, by simpa using h2⟩
    · rintro ⟨j, h1, h2⟩
      cases j with
      | zero => simp at h2
      | succ j => exact ⟨j, by rw [h1]; omega, by simpa using h2⟩
def adr (σ : L2.St) (i : Nat) : Addr := match σ[i]? with
  | some (some (.ref a)) => a
  | _ => 0
/-- the callee's view where slots are handed in -/
def Gm.calK (G : Gm) (O : List Nat) (sl : List (Option Nat)) (σ : L2.St) (H : Hp) : Gm :=
  { H0 := H, ins := (slPairs sl 0).map fun q => (q.1, adr σ q.2), Hid := fun b => hs G O σ b ∧ ∀ q ∈ slPairs sl 0, adr σ q.2 ≠ b }
section
variable {X : Cx} {c : Cen} {W : WX} {O F : List Nat} {mu : Bool} {pos p : Pos} {e : Expr} {es : List Expr} {m : ED} {ms : KD} {sl : List (Option Nat)} {G : Gm} {σ : L2.St} {H H' : Hp} {env : Env}
theorem akAll_len {env : Env} : ∀ {ks : List AK} {ds : List D}, akAll env ks = some ds → ds.length = ks.length
  | [], ds, h => by cases h; rfl
  | a :: r, ds, h => by
    unfold akAll at h
    obtain ⟨d, h1, h2⟩ := Option.bind_eq_some_iff.mp h
    obtain ⟨ds', h3, h4⟩ := Option.bind_eq_some_iff.mp h2
    cases h4
    simp [akAll_len h3]
theorem akAll_get {env : Env} : ∀ {ks : List AK} {ds : List D} {j : Nat} {k : AK}, akAll env ks = some ds → ks[j]? = some k → ∃ d, ds[j]? = some d ∧ akD env k = some d
  | [], ds, j, k, h, e => by simp at e
  | a :: r, ds, j, k, h, e => by
    unfold akAll at h
    obtain ⟨d, h1, h2⟩ := Option.bind_eq_some_iff.mp h
    obtain ⟨ds', h3, h4⟩ := Option.bind_eq_some_iff.mp h2
    cases h4
    cases j with
    | zero => simp at e; subst e; exact ⟨d, by simp, h1⟩
    | succ j => simpa using akAll_get (j := j) h3 (by simpa using e)
theorem AKs.get : ∀ {ks : List AK} {vs : List V} {j : Nat} {k : AK}, AKs c G O σ H ks vs → ks[j]? = some k → (∀ d, k = .val d → ∃ v, vs[j]? = some v ∧ Rep c (hide (hs G O σ) H) d v) ∧ (∀ i, k = .slot i → ∃ a, vs[j]? = some (.ref a) ∧ σ[i]? = some (some (.ref a)))
  | [], vs, j, k, h, e => by simp at e
  | .val d :: r, vs, j, k, ⟨v, t, ev, h1, h2⟩, e => by
    subst ev
    cases j with
    | zero => simp at e; subst e; exact ⟨fun d' z => by cases z; exact ⟨v, by simp, h1⟩, fun i z => by cases z⟩
    | succ j => simpa using AKs.get (j := j) h2 (by simpa using e)
  | .slot i :: r, vs, j, k, ⟨a, t, ev, h1, h2⟩, e => by
    subst ev
    cases j with
    | zero => simp at e; subst e; exact ⟨fun d' z => by (cases z), fun i' z => by cases z; exact ⟨a, by simp, h1⟩⟩
    | succ j => simpa using AKs.get (j := j) h2 (by simpa using e)
theorem AKs.len : ∀ {ks : List AK} {vs : List V}, AKs c G O σ H ks vs → vs.length = ks.length
  | [], vs, h => by
    have h : vs = [] := h
    rw [h]; rfl
  | .val d :: r, vs, ⟨v, t, ev, h1, h2⟩ => by subst ev; simp [AKs.len h2]
  | .slot i :: r, vs, ⟨a, t, ev, h1, h2⟩ => by subst ev; simp [AKs.len h2]
theorem adr_of {i : Nat} {a : Addr} (e : σ[i]? = some (some (.ref a))) : adr σ i = a := by unfold adr; rw [e]
theorem VS.toCalK {ks : List AK} {ds : List D} {vs : List V} (v : VS c G O env σ H) (io : List Nat) (hio : (slPairs sl 0).map (·.1) = io) (nd : ((slPairs sl 0).map (·.2)).Nodup) (own : ∀ i, some i ∈ sl → i ∈ O)
    (sh : ks.length = sl.length ∧ ∀ j : Nat, (∀ i, sl[j]? = some (some i) → ks[j]? = some (.slot i)) ∧ (sl[j]? = some none → ∃ d, ks[j]? = some (.val d))) (r : AKs c G O σ H ks vs) (hd : akAll env ks = some ds) :
    VS c (G.calK O sl σ H) io (ds.map some) (vs.map some) H := by
  have hadr : ∀ q ∈ slPairs sl 0, ∃ d a, env[q.2]? = some (some d) ∧ σ[q.2]? = some (some (.ref a)) ∧ adr σ q.2 = a ∧ RepO c (hide (hs G O σ) H) H d a ∧ ¬ G.Hid a ∧ (vs.map some)[q.1]? = some (some (.ref a)) ∧ (ds.map some)[q.1]? = some (some d) := fun q hq => by
    obtain ⟨j, hj, e⟩ := mem_slPairs.mp hq
    have hj' : q.1 = j := by omega
    obtain ⟨d, a, h1, h2, h3, h4, _⟩ := v.own q.2 (own _ (List.mem_of_getElem? e))
    have hk := (sh.2 j).1 q.2 e
    obtain ⟨a', g1, g2⟩ := (r.get hk).2 q.2 rfl
    rw [h2] at g2; cases g2
    obtain ⟨d', f1, f2⟩ := akAll_get hd hk
    have f3 : d' = d := by
      have f2 : (env[q.2]?).getD none = some d' := f2
      rw [h1] at f2
      exact (Option.some.inj f2).symm
    subst f3
    exact ⟨d', a, h1, h2, adr_of h2, h3, h4, by rw [hj', List.getElem?_map, g1]; rfl, by rw [hj', List.getElem?_map, f1]; rfl⟩
  have wio : ∀ b, Wn io (vs.map some) b ↔ ∃ q ∈ slPairs sl 0, adr σ q.2 = b := fun b => by
    constructor
    · rintro ⟨i, hi, e⟩
      rw [← hio] at hi
      obtain ⟨q, hq, rfl⟩ := List.mem_map.mp hi
      obtain ⟨d, a, _, _, h3, _, _, h6, _⟩ := hadr q hq
      rw [e] at h6; cases h6
      exact ⟨q, hq, h3⟩
    · rintro ⟨q, hq, e⟩
      obtain ⟨d, a, _, _, h3, _, _, h6, _⟩ := hadr q hq
      exact ⟨q.1, by rw [← hio]; exact List.mem_map_of_mem hq, by rw [h6, ← e, h3]⟩
  have hsI : ∀ b, hs (G.calK O sl σ H) io (vs.map some) b → hs G O σ b := fun b z => by
    rcases z with z | z
    · exact z.1
    · obtain ⟨q, hq, e⟩ := (wio b).mp z
      obtain ⟨d, a, _, h2, h3, _⟩ := hadr q hq
      obtain ⟨j, _, ej⟩ := mem_slPairs.mp hq
      exact .inr ⟨q.2, own _ (List.mem_of_getElem? ej), by rw [h2, ← e, h3]⟩
  have hm : Same (hide (hs G O σ) H) (hide (hs (G.calK O sl σ H) io (vs.map some)) H) := hide_mono hsI fun _ _ e _ => e
  refine ⟨by simp [akAll_len hd, r.len], fun i d e n => ?_, fun i hi => ?_, fun i hi j hj e => ?_, fun a o e _ => e, fun a ha => ⟨fun z => ?_, fun ⟨q, hq, eq⟩ => ?_⟩, fun q hq => ?_⟩
  · rw [List.getElem?_map] at e
    cases h : ds[i]? with
    | none => rw [h] at e; cases e
    | some d' =>
      rw [h] at e; cases e
      have hi : i < sl.length := by
        have h1 := (List.getElem?_eq_some_iff.mp h).1
        rw [akAll_len hd, sh.1] at h1
        exact h1
      have hsl : sl[i]? = some sl[i] := by simp [hi]
      cases hq : sl[i] with
      | some i' =>
        rw [hq] at hsl
        exact absurd (by rw [← hio]; exact List.mem_map.mpr ⟨(i, i'), mem_slPairs.mpr ⟨i, by simp, hsl⟩, rfl⟩) n
      | none =>
        rw [hq] at hsl
        obtain ⟨dd, hk⟩ := (sh.2 i).2 hsl
        obtain ⟨x, h1, h2⟩ := (r.get hk).1 dd rfl
        obtain ⟨d2, f1, f2⟩ := akAll_get hd hk
        rw [h] at f1; cases f1
        cases f2
        exact ⟨x, by rw [List.getElem?_map, h1]; rfl, Rep.sub hm _ _ h2⟩
  · rw [← hio] at hi
    obtain ⟨q, hq, rfl⟩ := List.mem_map.mp hi
    obtain ⟨d, a, h1, h2, h3, h4, h5, h6, h7⟩ := hadr q hq
    refine ⟨d, a, h7, h6, h4.sub hm fun _ z => z, fun z => z.2 q hq h3, .inr ⟨(q.1, adr σ q.2), List.mem_map.mpr ⟨q, hq, rfl⟩, h3⟩⟩
  · rw [← hio] at hi hj
    obtain ⟨q, hq, rfl⟩ := List.mem_map.mp hi
    obtain ⟨q', hq', rfl⟩ := List.mem_map.mp hj
    obtain ⟨d, a, h1, h2, h3, h4, h5, h6, h7⟩ := hadr q hq
    obtain ⟨d', a', g1, g2, g3, g4, g5, g6, g7⟩ := hadr q' hq'
    rw [h6, g6] at e; cases e
    obtain ⟨j, _, ej⟩ := mem_slPairs.mp hq
    obtain ⟨j', _, ej'⟩ := mem_slPairs.mp hq'
    have e2 : q.2 = q'.2 := v.sep q.2 (own _ (List.mem_of_getElem? ej)) q'.2 (own _ (List.mem_of_getElem? ej')) (by rw [h2, g2])
    obtain ⟨n1, hn1, en1⟩ := List.getElem_of_mem hq
    obtain ⟨n2, hn2, en2⟩ := List.getElem_of_mem hq'
    have : n1 = n2 := (List.getElem_inj (h₀ := by simpa using hn1) (h₁ := by simpa using hn2) nd).mp (by simp [en1, en2, e2])
    subst this
    rw [← en1, ← en2]
  · have z' : H a = none := z
    rcases ha.1 with ha | ⟨i, hi, e⟩
    · obtain ⟨h1, h2⟩ := v.hid a ha
      cases e : G.H0 a with
      | none => exact h1 e
      | some o => rw [v.frame a o e h2] at z'; cases z'
    · obtain ⟨d, b, h1, h2, h3, _⟩ := v.own i hi
      rw [e] at h2; cases h2
      obtain ⟨o, ho, _⟩ := h3.at
      rw [ho] at z'; cases z'
  · obtain ⟨q', hq', rfl⟩ := List.mem_map.mp hq
    exact ha.2 q' hq' eq
  · obtain ⟨q', hq', rfl⟩ := List.mem_map.mp hq
    obtain ⟨d, a, h1, h2, h3, h4, h5, h6, h7⟩ := hadr q' hq'
    exact ⟨by rw [← hio]; exact List.mem_map_of_mem (f := (·.1)) hq', by show _ = some (some (V.ref (adr σ q'.2))); rw [h3]; exact h6⟩

theorem setAll_len : ∀ (ss : List Nat) (outs env : Env), (setAll ss outs env).length = env.length
  | [], outs, env => by cases outs <;> rfl
  | i :: r, [], env => rfl
  | i :: r, o :: outs, env => by unfold setAll; rw [setAll_len]; simp
theorem setAll_out : ∀ (ss : List Nat) (outs env : Env) {k : Nat}, k ∉ ss → (setAll ss outs env)[k]? = env[k]?
  | [], outs, env, k, h => by cases outs <;> rfl
  | i :: r, [], env, k, h => rfl
  | i :: r, o :: outs, env, k, h => by
    simp only [List.mem_cons, not_or] at h
    unfold setAll
    rw [setAll_out r outs _ h.2, List.getElem?_set_ne (Ne.symm h.1)]
theorem setAll_in : ∀ (ss : List Nat) (outs env : Env) {j k : Nat} {o : Option D}, ss.Nodup → ss[j]? = some k → outs[j]? = some o → k < env.length → (setAll ss outs env)[k]? = some o
  | [], outs, env, j, k, o, nd, h, _, _ => by simp at h
  | i :: r, [], env, j, k, o, nd, h, h2, _ => by simp at h2
  | i :: r, o' :: outs, env, j, k, o, nd, h, h2, hk => by
    obtain ⟨n1, n2⟩ := List.nodup_cons.mp nd
    unfold setAll
    cases j with
    | zero =>
      simp at h h2; subst h; subst h2
      rw [setAll_out r outs _ n1, List.getElem?_set_self hk]
    | succ j => exact setAll_in r outs _ n2 (by simpa using h) (by simpa using h2) (by simpa using hk)
theorem VS.outs {outs : Env} {ss : List Nat} (v : VS c G O env σ H) (nd : ss.Nodup) (hss : ∀ i ∈ ss, i ∈ O) (kp : ∀ a o, H a = some o → (∀ i ∈ ss, adr σ i ≠ a) → H' a = some o)
    (ho : ∀ (j i : Nat), ss[j]? = some i → ∃ d, outs[j]? = some (some d) ∧ RepO c (hide (hs G O σ) H') H' d (adr σ i)) : VS c G O (setAll ss outs env) σ H' := by
  have aw : ∀ i ∈ ss, Wn O σ (adr σ i) := fun i hi => by
    obtain ⟨d, a, _, h2, _⟩ := v.own i (hss i hi)
    exact ⟨i, hss i hi, by rw [adr_of h2]; exact h2⟩
  have hm : Same (hide (hs G O σ) H) (hide (hs G O σ) H') := hide_mono (fun _ z => z) fun a o e n => kp a o e fun i hi z => n (.inr (z ▸ aw i hi))
  refine ⟨by rw [setAll_len]; exact v.len, fun k d e n => ?_, fun k hk => ?_, v.sep, fun a o e n => ?_, v.hid, v.ios⟩
  · rw [setAll_out ss outs env fun z => n (hss k z)] at e
    obtain ⟨x, h1, h2⟩ := v.imm k d e n
    exact ⟨x, h1, Rep.sub hm _ _ h2⟩
  · obtain ⟨d, a, h1, h2, h3, h4⟩ := v.own k hk
    by_cases hks : k ∈ ss
    · obtain ⟨j, hj, ej⟩ := List.getElem_of_mem hks
      have ej' : ss[j]? = some k := by simp [hj, ej]
      obtain ⟨d', g1, g2⟩ := ho j k ej'
      rw [adr_of h2] at g2
      exact ⟨d', a, setAll_in ss outs env nd ej' g1 (List.getElem?_eq_some_iff.mp h1).1, h2, g2, h4⟩
    · refine ⟨d, a, by rw [setAll_out ss outs env hks]; exact h1, h2, h3.sub hm fun o e => kp a o e fun i hi z => ?_, h4⟩
      obtain ⟨d', a', _, g2, _⟩ := v.own i (hss i hi)
      rw [adr_of g2] at z
      subst z
      exact hks (by rw [v.sep k hk i (hss i hi) (h2.trans g2.symm)]; exact hi)
  · refine kp a o (v.frame a o e n) fun i hi z => ?_
    obtain ⟨d', a', _, g2, _, _, g5⟩ := v.own i (hss i hi)
    rw [adr_of g2] at z
    subst z
    rcases g5 with g5 | g5
    · rw [g5] at e; cases e
    · exact n g5
theorem callK_weak {sem : FD} {np : Nat} {io ss : List Nat} (ha : DK X c W O es sl ms) (hl : es.length = np) (hio : (slPairs sl 0).map (·.1) = io) (hss : (slPairs sl 0).map (·.2) = ss) (nd : ss.Nodup) (hF : ∀ i ∈ F, i ∈ O) :
    ∀ (G : Gm) σ H Q, dE c G W O F true (mCallK sem ss ms) σ H Q → tCallS (spD c io false np sem) (WE W) (dK c G W O ms) σ H Q := by
  rintro G σ H Q ⟨env, vs, h⟩
  cases hms : ms env with
  | bad =>
    unfold mCallK at h
    rw [hms] at h; exact h.elim
  | exc x e1 =>
    refine ⟨env, vs, ?_⟩
    rw [hms]
    unfold mCallK at h
    rw [hms] at h
    exact h
  | ok ke =>
  obtain ⟨ks, e1⟩ := ke
  have h1 := RP.bind h
  rw [hms] at h1
  refine ⟨env, vs, ?_⟩
  rw [hms]
  intro xs H1 vs1 k1 r1
  have h1 : RP (match akAll e1 ks with
    | none => .bad
    | some ds => match sem ds with
      | .ok (d, outs) => .ok (d, setAll ss outs e1)
      | .exc x outs => .exc x (setAll ss outs e1)
      | .bad => .bad) _ _ := h1
  have sh := ha.shape _ _ _ hms
  cases hd : akAll e1 ks with
  | none => rw [hd] at h1; exact h1.elim
  | some ds =>
  rw [hd] at h1
  have h1 : RP (match sem ds with
      | .ok (d, outs) => .ok (d, setAll ss outs e1)
      | .exc x outs => .exc x (setAll ss outs e1)
      | .bad => .bad) _ _ := h1
  have own' : ∀ i ∈ ss, i ∈ O := fun i hi => by
    rw [← hss] at hi
    obtain ⟨q, hq, rfl⟩ := List.mem_map.mp hi
    obtain ⟨j, _, ej⟩ := mem_slPairs.mp hq
    exact ha.own _ (List.mem_of_getElem? ej)
  have v2 := vs1.toCalK io hio (by rw [hss]; exact nd) ha.own sh r1 hd
  refine ⟨by rw [r1.len, sh.1, ha.len, hl], G.calK O sl σ H1, ds, rfl, ?_, v2, ?_⟩
  · show ((slPairs sl 0).map fun q => (q.1, adr σ q.2)).map (·.1) = io
    rw [List.map_map, ← hio]; rfl
  have hin : ∀ b, (G.calK O sl σ H1).inA b ↔ ∃ i ∈ ss, adr σ i = b := fun b => by
    constructor
    · rintro ⟨p, hp, e⟩
      obtain ⟨q, hq, rfl⟩ := List.mem_map.mp hp
      exact ⟨q.2, by rw [← hss]; exact List.mem_map_of_mem hq, e⟩
    · rintro ⟨i, hi, e⟩
      rw [← hss] at hi
      obtain ⟨q, hq, rfl⟩ := List.mem_map.mp hi
      exact ⟨(q.1, adr σ q.2), List.mem_map.mpr ⟨q, hq, rfl⟩, e⟩
  have aw : ∀ i ∈ ss, Wn O σ (adr σ i) := fun i hi => by
    obtain ⟨d, a, _, h2, _⟩ := vs1.own i (own' i hi)
    exact ⟨i, own' i hi, by rw [adr_of h2]; exact h2⟩
  have inv : ∀ b, hs G O σ b ↔ ((G.calK O sl σ H1).Hid b ∨ (G.calK O sl σ H1).inA b) := fun b => by
    constructor
    · intro z
      by_cases hb : ∃ i ∈ ss, adr σ i = b
      · exact .inr ((hin b).mpr hb)
      · refine .inl ⟨z, fun q hq e => hb ⟨q.2, by rw [← hss]; exact List.mem_map_of_mem hq, e⟩⟩
    · rintro (z | z)
      · exact z.1
      · obtain ⟨i, hi, e⟩ := (hin b).mp z
        exact .inr (e ▸ aw i hi)
  have kp : ∀ {H' : Hp} {outs : Env}, OutOK c (G.calK O sl σ H1) outs H' → ∀ a o, H1 a = some o → (∀ i ∈ ss, adr σ i ≠ a) → H' a = some o := fun {H' outs} out a o e n => out.frame a o e fun z => by
    obtain ⟨i, hi, e⟩ := (hin a).mp z
    exact n i hi e
  have vo : ∀ {H' : Hp} {outs : Env}, OutOK c (G.calK O sl σ H1) outs H' → VS c G O (setAll ss outs e1) σ H' := fun {H' outs} out => vs1.outs nd own' (kp out) fun j i hj => by
    rw [← hss, List.getElem?_map] at hj
    cases hq : (slPairs sl 0)[j]? with
    | none => rw [hq] at hj; cases hj
    | some q =>
      rw [hq] at hj; cases hj
      obtain ⟨d, g1, g2⟩ := out.outs j (q.1, adr σ q.2) (by show ((slPairs sl 0).map fun q => (q.1, adr σ q.2))[j]? = _; rw [List.getElem?_map, hq]; rfl)
      exact ⟨d, g1, g2.sub (hide_mono (fun b z => (inv b).mp z) fun _ _ e _ => e) fun _ z => z⟩
  cases hs' : sem ds with
  | bad => rw [hs'] at h1; exact h1.elim
  | exc x o =>
    rw [hs'] at h1
    intro cls dd H' out er
    refine h1 cls dd H' (vo out) ?_
    obtain ⟨e1, e2⟩ := er
    have ne : ∀ b, G.Hid b → (G.calK O sl σ H1).Hid b := fun b z => ⟨.inl z, fun q hq e => by
      obtain ⟨j, _, ej⟩ := mem_slPairs.mp hq
      obtain ⟨d, a, _, h2, _, h4, _⟩ := vs1.own q.2 (ha.own _ (List.mem_of_getElem? ej))
      rw [adr_of h2] at e
      exact h4 (e ▸ z)⟩
    refine ⟨e1, e2.imp id fun ⟨d, xs, q1, q2, q3⟩ => ⟨d, xs, q1, ?_, Reps.sub (hide_mono ne fun _ _ e _ => e) _ _ q3⟩⟩
    obtain ⟨g1, g2⟩ := of_hide q2
    exact hide_of g1 fun z => g2 (ne _ z)
  | ok de =>
    obtain ⟨d, o⟩ := de
    rw [hs'] at h1
    intro v H' out r2 _
    refine h1 v H' (vo out) (fun b x e n => ?_) (Rep.sub (hide_mono (fun b z => (inv b).mp (z.imp id fun w => w.sub hF)) fun _ _ e _ => e) _ _ (r2 rfl))
    have n' := n rfl
    exact kp out b x (k1 b x e fun _ => n') fun i hi z => n' (z ▸ aw i hi)
variable {k : Nat} {f : Addr} {fd : FuncData} {ps : List Str} {x : Str} {sem : FD} {io ss : List Nat}
theorem de_callK (Fn : FnOk X.prog X.w X.K X.mg X.base (L2.CX X.prog X.w) k f fd ps (spD c io false ps.length sem)) (hr : Room k X.A) (hg : Gl X x) (hm : X.mg x = some (.ref f)) (hk : PySem.W.keepIn X.K (.ref f) = true) (hb : Binds X.K fd ps []) (tk : Takes X W)
    (ha : DK X c W O (e :: es) sl ms) (hio : (slPairs sl 0).map (·.1) = io := by rfl) (hss : (slPairs sl 0).map (·.2) = ss := by rfl) (nd : ss.Nodup := by decide) (hF : ∀ i ∈ F, i ∈ O := by decide)
    (hl : (e :: es).length = ps.length := by rfl) (hdb : (x == ("__debug__" : Str)) = false := by decide) (he : starEach (e :: es) X.env = (false, eval e X.env) :: starEach es X.env := by rfl) (hpl : (backTo pos (starEach es X.env)).any (·.1) = false := by rfl) :
    DE X c W O F true (.Call (.Name x p) (e :: es) [] pos) (mCallK sem ss ms) :=
  ⟨hF, fun G => PE.weak (pe_callS Fn hr hg hm hk hb (fun σ => passAt tk σ) (ha.pa G) hdb he hpl) (callK_weak ha hl hio hss nd hF G)⟩
end
end VL
end

section
set_option Elab.async false
set_option linter.all false
set_option maxRecDepth 100000
namespace VL
open PySem PySem.Spec PyProof.Rows L2

/-! ### comprehensions -/
abbrev WF : WX := fun _ _ _ _ => False
def wipeE : List Nat → Env → Env
  | [], e => e
  | v :: vs, e => (wipeE vs e).set v none
def putBack : List Nat → Env → Env → Env
  | [], _, e2 => e2
  | v :: vs, e1, e2 => (putBack vs e1 e2).set v ((e1[v]?).getD none)
theorem wipeE_len (e : Env) : ∀ vs : List Nat, (wipeE vs e).length = e.length
  | [] => rfl
  | v :: vs => by unfold wipeE; rw [List.length_set, wipeE_len e vs]
theorem wipeE_some {e : Env} {i : Nat} {x : D} : ∀ {vs : List Nat}, (wipeE vs e)[i]? = some (some x) → e[i]? = some (some x) ∧ i ∉ vs
  | [], h => ⟨h, by simp⟩
  | v :: vs, h => by
    unfold wipeE at h
    rcases getset h with ⟨_, z⟩ | ⟨h1, h2⟩
    · cases z
    · obtain ⟨h3, h4⟩ := wipeE_some h2
      exact ⟨h3, by simp [h1, h4]⟩
theorem wipeE_out {e : Env} {i : Nat} : ∀ {vs : List Nat}, i ∉ vs → (wipeE vs e)[i]? = e[i]?
  | [], _ => rfl
  | v :: vs, h => by
    simp only [List.mem_cons, not_or] at h
    unfold wipeE
    rw [List.getElem?_set_ne (Ne.symm h.1)]
    exact wipeE_out h.2
theorem putBack_len (e1 e2 : Env) : ∀ vs : List Nat, (putBack vs e1 e2).length = e2.length
  | [] => rfl
  | v :: vs => by unfold putBack; rw [List.length_set, putBack_len e1 e2 vs]
theorem putBack_out {e1 e2 : Env} {i : Nat} : ∀ {vs : List Nat}, i ∉ vs → (putBack vs e1 e2)[i]? = e2[i]?
  | [], _ => rfl
  | v :: vs, h => by
    simp only [List.mem_cons, not_or] at h
    unfold putBack
    rw [List.getElem?_set_ne (Ne.symm h.1)]
    exact putBack_out h.2
theorem putBack_in {e1 e2 : Env} {i : Nat} {x : D} : ∀ {vs : List Nat}, i ∈ vs → (putBack vs e1 e2)[i]? = some (some x) → e1[i]? = some (some x)
  | [], h, _ => by cases h
  | v :: vs, h, q => by
    unfold putBack at q
    rcases getset q with ⟨h1, h2⟩ | ⟨h1, h2⟩
    · subst h1
      cases h3 : e1[i]? with
      | none => rw [h3] at h2; cases h2
      | some z => rw [h3] at h2; rw [h2]; rfl
    · rcases List.mem_cons.mp h with h3 | h3
      · exact absurd h3 h1
      · exact putBack_in h3 h2
section
variable {c : Cen} {G : Gm} {O own : List Nat} {env e1 e2 : Env} {σ : L2.St} {H H' : Hp} {a : Addr} {o o' : HO}
theorem wn_wipe (hO : ∀ i ∈ own, i ∉ O) {b : Addr} : Wn O (wipe σ own) b ↔ Wn O σ b :=
  ⟨fun ⟨i, hi, e⟩ => ⟨i, hi, (wipe_some e).1⟩, fun ⟨i, hi, e⟩ => ⟨i, hi, by rw [wipe_out fun z => hO i z hi]; exact e⟩⟩
theorem hs_wipe (hO : ∀ i ∈ own, i ∉ O) : hide (hs G O (wipe σ own)) H = hide (hs G O σ) H := by
  funext b
  have q : hs G O (wipe σ own) b ↔ hs G O σ b := ⟨fun z => z.imp id (wn_wipe hO).mp, fun z => z.imp id (wn_wipe hO).mpr⟩
  unfold hide
  by_cases h : hs G O σ b
  · rw [if_pos h, if_pos (q.mpr h)]
  · rw [if_neg h, if_neg fun z => h (q.mp z)]
theorem VS.wipe (v : VS c G O env σ H) (hO : ∀ i ∈ own, i ∉ O) : VS c G O (wipeE own env) (L2.wipe σ own) H := by
  have out : ∀ {i}, i ∈ O → (L2.wipe σ own)[i]? = σ[i]? := fun {i} hi => wipe_out fun z => hO i z hi
  refine ⟨by rw [wipeE_len, wipe_length]; exact v.len, fun i d e n => ?_, fun i hi => ?_, fun i hi j hj e => v.sep i hi j hj (by rw [← out hi, ← out hj]; exact e), v.frame, v.hid, fun p hp => ⟨(v.ios p hp).1, by rw [out (v.ios p hp).1]; exact (v.ios p hp).2⟩⟩
  · obtain ⟨h1, h2⟩ := wipeE_some e
    obtain ⟨x, h3, h4⟩ := v.imm i d h1 n
    exact ⟨x, by rw [wipe_out h2]; exact h3, by rw [hs_wipe hO]; exact h4⟩
  · obtain ⟨d, b, h1, h2, h3, h4⟩ := v.own i hi
    exact ⟨d, b, by rw [wipeE_out fun z => hO i z hi]; exact h1, by rw [out hi]; exact h2, by rw [hs_wipe hO]; exact h3, h4⟩
theorem VS.putBack (v1 : VS c G O e1 σ H) (v2 : VS c G O e2 (L2.wipe σ own) H') (hO : ∀ i ∈ own, i ∉ O) (s : Same (hide (hs G O σ) H) (hide (hs G O σ) H')) : VS c G O (VL.putBack own e1 e2) σ H' := by
  have out : ∀ {i}, i ∈ O → (L2.wipe σ own)[i]? = σ[i]? := fun {i} hi => wipe_out fun z => hO i z hi
  refine ⟨by rw [putBack_len]; have := v2.len; rw [wipe_length] at this; exact this, fun i d e n => ?_, fun i hi => ?_, v1.sep, v2.frame, v2.hid, v1.ios⟩
  · by_cases hi : i ∈ own
    · obtain ⟨x, h3, h4⟩ := v1.imm i d (putBack_in hi e) n
      exact ⟨x, h3, Rep.sub s _ _ h4⟩
    · rw [putBack_out hi] at e
      obtain ⟨x, h3, h4⟩ := v2.imm i d e n
      rw [hs_wipe hO] at h4
      exact ⟨x, by rw [wipe_out hi] at h3; exact h3, h4⟩
  · obtain ⟨d, b, h1, h2, h3, h4⟩ := v2.own i hi
    rw [hs_wipe hO] at h3
    exact ⟨d, b, by rw [putBack_out fun z => hO i z hi]; exact h1, by rw [out hi] at h2; exact h2, h3, h4⟩
/-- the thing beside the slots grows -/
theorem VS.rehid (v : VS c (G.hid a o) O env σ H) : VS c (G.hid a o') O env σ (upd H a o') := by
  have hm : Same (hide (hs (G.hid a o) O σ) H) (hide (hs (G.hid a o') O σ) (upd H a o')) := fun b x e => by
    obtain ⟨e1, e2⟩ := of_hide e
    have hb : b ≠ a := fun z => e2 (hs_hid.mpr (.inr z))
    exact hide_of (by rw [upd_ne hb]; exact e1) fun z => e2 (hs_hid.mpr (hs_hid.mp z))
  refine ⟨v.len, fun i d e n => ?_, fun i hi => ?_, v.sep, fun b x e n => ?_, fun b hb => ?_, v.ios⟩
  · obtain ⟨x, h1, h2⟩ := v.imm i d e n
    exact ⟨x, h1, Rep.sub hm _ _ h2⟩
  · obtain ⟨d, b, h1, h2, h3, h4, h5⟩ := v.own i hi
    have hb : b ≠ a := fun z => h4 (.inr z)
    refine ⟨d, b, h1, h2, h3.sub hm fun x z => by rw [upd_ne hb]; exact z, h4, h5.imp (fun z => ?_) id⟩
    have z' : upd G.H0 a o b = none := z
    rw [upd_ne hb] at z'
    show upd G.H0 a o' b = none
    rw [upd_ne hb]; exact z'
  · have e' : upd G.H0 a o' b = some x := e
    by_cases hb : b = a
    · subst hb
      rw [upd_same] at e' ⊢; exact e'
    · rw [upd_ne hb] at e' ⊢
      refine v.frame b x ?_ n
      show upd G.H0 a o b = some x
      rw [upd_ne hb]; exact e'
  · obtain ⟨h1, h2⟩ := v.hid b hb
    refine ⟨fun z => ?_, h2⟩
    have z' : upd G.H0 a o' b = none := z
    by_cases hba : b = a
    · subst hba; rw [upd_same] at z'; cases z'
    · rw [upd_ne hba] at z'
      exact h1 (by show upd G.H0 a o b = none; rw [upd_ne hba]; exact z')
end
def lcIter (gd : GD) (tt : TD) (me : ED) (own : List Nat) : List D → Env → R (List D × Env)
  | [], env => .ok ([], env)
  | d :: ds, env => match gd d env with
    | none => .bad
    | some e => match tt e with
      | .ok (true, e1) => match me e1 with
        | .ok (y, e2) => match lcIter gd tt me own ds (wipeE own e2) with
          | .ok (ys, e3) => .ok (y :: ys, e3)
          | _ => .bad
        | _ => .bad
      | .ok (false, e1) => lcIter gd tt me own ds (wipeE own e1)
      | _ => .bad
def mLc (mi : LD) (gd : GD) (tt : TD) (me : ED) (own : List Nat) : ED := fun env => (mi env).bind fun a => R.guard (decide (a.1.length ≤ sizeLine)) (match lcIter gd tt me own a.1 (wipeE own a.2) with
  | .ok (ys, e) => .ok (.lst ys, putBack own a.2 e)
  | _ => .bad)
def tYesD : TD := fun env => .ok (true, env)
structure DTs (X : Cx) (c : Cen) (W : WX) (O : List Nat) (mu : Bool) (ifs : List Expr) (m : TD) : Prop where
  pts : ∀ G, PTs X ifs (dT c G W O mu m)
section
variable {X : Cx} {c : Cen} {W : WX} {O F F1 own vs : List Nat} {mu : Bool} {pos : Pos} {elt tg iter : Expr} {ifs : List Expr} {scope : Scope} {ownN : List (Str × Nat)} {mi : LD} {gd : GD} {tt : TD} {me : ED}
theorem PTs.weak {ifs : List Expr} {t u : TT} (h : PTs X ifs t) (i : ∀ σ H Q, u σ H Q → t σ H Q) : PTs X ifs u := ⟨fun pins s σ H Q I q => h.run pins s σ H Q I (i σ H Q q)⟩
theorem dts_nil : DTs X c W O mu [] tYesD := ⟨fun G => PTs.weak pts_nil (by
  rintro σ H Q ⟨env, vs, h⟩
  exact h H vs Keep.refl)⟩
theorem dts_one {e : Expr} {t : TD} (h : DT X c W O mu e t) : DTs X c W O mu [e] t := ⟨fun G => pts_one (h.pt G)⟩
theorem only_wipe {σ σ2 : L2.St} (h : OnlyAt vs σ σ2) (hv : ∀ i ∈ vs, i ∈ own) : wipe σ2 own = wipe σ own := by
  refine List.ext_getElem? fun i => ?_
  by_cases hi : i ∈ own
  · have key : ∀ {τ : L2.St} (w : List Nat), i ∈ w → (wipe τ w)[i]? = if i < τ.length then some none else none := by
      intro τ w
      induction w with
      | nil => intro h; cases h
      | cons a w ih =>
        intro h
        unfold wipe
        by_cases ha : a = i
        · subst ha
          by_cases hl : a < τ.length
          · rw [List.getElem?_set_self (by rw [wipe_length]; exact hl), if_pos hl]
          · rw [List.getElem?_eq_none (by rw [List.length_set, wipe_length]; omega), if_neg hl]
        · rw [List.getElem?_set_ne ha]
          exact ih ((List.mem_cons.mp h).resolve_left fun z => ha z.symm)
    rw [key own hi, key own hi, h.1]
  · rw [wipe_out hi, wipe_out hi]
    exact h.2 i fun z => hi (hv i z)
theorem wipe_wipe {σ : L2.St} : wipe (wipe σ own) own = wipe σ own := by
  refine List.ext_getElem? fun i => ?_
  by_cases hi : i ∈ own
  · have key : ∀ {τ : L2.St} (w : List Nat), i ∈ w → (wipe τ w)[i]? = if i < τ.length then some none else none := by
      intro τ w
      induction w with
      | nil => intro h; cases h
      | cons a w ih =>
        intro h
        unfold wipe
        by_cases ha : a = i
        · subst ha
          by_cases hl : a < τ.length
          · rw [List.getElem?_set_self (by rw [wipe_length]; exact hl), if_pos hl]
          · rw [List.getElem?_eq_none (by rw [List.length_set, wipe_length]; omega), if_neg hl]
        · rw [List.getElem?_set_ne ha]
          exact ih ((List.mem_cons.mp h).resolve_left fun z => ha z.symm)
    rw [key own hi, key own hi, wipe_length]
  · rw [wipe_out hi]
/-- the reading of a comprehension -/
theorem lc_weak (hF : ∀ i ∈ F, i ∈ O) (hF1 : ∀ i ∈ F1, i ∈ O) (hO : ∀ i ∈ own, i ∉ O) (hv : ∀ i ∈ vs, i ∈ own) (hm : mu = true → ∀ i ∈ O, i ∈ F) (hm1 : mu = true → ∀ i ∈ O, i ∈ F1) (G : Gm) : ∀ σ H Q, dEO c G W O F mu (mLc mi gd tt me own) σ H Q →
    tLc (dI c G W O F1 mu mi) (fun v σ H Q => ∃ G' : Gm, gD c G' O vs gd v σ H Q) (fun σ H Q => ∃ G' : Gm, dT c G' WF O mu tt σ H Q) (fun σ H Q => ∃ G' : Gm, dE c G' WF O F mu me σ H Q) own σ H Q := by
  rintro σ H Q ⟨env, v0, h⟩
  refine ⟨env, v0, (RP.bind h).mono (fun ds ea h1 J H1 v1 k1 wk Dn hD => ?_) fun _ _ q => q⟩
  obtain ⟨hz, h2⟩ := RP.guard h1
  have hz : ds.length ≤ sizeLine := of_decide_eq_true hz
  obtain ⟨n1, n2, n3⟩ := v1.fresh hD
  have nw : ∀ {b}, Wn O (wipe σ own) b ↔ Wn O σ b := wn_wipe hO
  -- what is wanted at the end
  let Fin : List D → Env → Prop := fun ys e => ∀ a o H', H' a = some o → G.H0 a = none → ¬ G.Hid a → ¬ Wn O σ a → VS c (G.hid a o) O (putBack own ea e) σ H' → Keep mu (Wn O σ) H H' → RepO c (hide (hs (G.hid a o) F σ) H') H' (.lst ys) a → Q (.ref a) H'
  have h3 : ∃ ys e, lcIter gd tt me own ds (wipeE own ea) = .ok (ys, e) ∧ Fin ys e := by
    cases hl : lcIter gd tt me own ds (wipeE own ea) with
    | bad => simp only [hl] at h2; exact h2.elim
    | exc x e => simp only [hl] at h2; exact h2.elim
    | ok r => simp only [hl] at h2; exact ⟨r.1, r.2, rfl, h2⟩
  obtain ⟨ys0, e0, hl0, hfin⟩ := h3
  refine ⟨fun i n H2 => n = ds.length - i ∧ i ≤ ds.length ∧ ∃ e acc xs ys, VS c (G.hid Dn (.lst xs)) O e (wipe σ own) H2 ∧ H2 Dn = some (.lst xs) ∧ Reps c (hide (hs (G.hid Dn (.lst xs)) F (wipe σ own)) H2) acc xs ∧ acc.length ≤ i ∧
      Keep mu (Wn O σ) H1 H2 ∧ lcIter gd tt me own (ds.drop i) e = .ok (ys, e0) ∧ acc ++ ys = ys0, ⟨ds.length, by simp, Nat.zero_le _, wipeE own ea, [], [], ys0, (v1.wipe hO).hidNew hD, upd_same, Reps.nil, Nat.le_refl _, Keep.of (same_new hD), hl0, rfl⟩, ?_⟩
  rintro i n H2 ⟨rfl, hi, e, acc, xs, ys, v2, h4, h5, h6, k2, h7, h8⟩
  have hD2 : ∀ {b o}, H1 b = some o → b ≠ Dn := fun {b o} e z => by rw [z, hD] at e; cases e
  have s1 : Same (hide (hs G F1 σ) H1) H2 := fun b o e => by
    obtain ⟨g1, g2⟩ := of_hide e
    exact k2 b o g1 fun m w => g2 (.inr (w.sub (hm1 m)))
  have s2 : Same (hide (hs G O σ) H1) (hide (hs (G.hid Dn (.lst xs)) O (wipe σ own)) H2) := fun b o e => by
    obtain ⟨g1, g2⟩ := of_hide e
    refine hide_of (k2 b o g1 fun _ w => g2 (.inr w)) fun z => ?_
    rcases hs_hid.mp z with z | z
    · exact g2 (z.imp id nw.mp)
    · exact hD2 g1 z
  obtain ⟨w1, w2⟩ := wk _ H2 s1 s2 (v2.freshS fun _ z => z)
  by_cases hlt : i < ds.length
  · refine .inr ?_
    have hd : ds[i]? = some ds[i] := by simp [hlt]
    obtain ⟨go, yl⟩ := w1 i _ hd
    refine ⟨go, fun H' => ∃ e acc xs ys, VS c (G.hid Dn (.lst xs)) O e (wipe σ own) H' ∧ H' Dn = some (.lst xs) ∧ Reps c (hide (hs (G.hid Dn (.lst xs)) F (wipe σ own)) H') acc xs ∧ acc.length ≤ i + 1 ∧
      Keep mu (Wn O σ) H1 H' ∧ lcIter gd tt me own (ds.drop (i + 1)) e = .ok (ys, e0) ∧ acc ++ ys = ys0, fun H' q => ⟨ds.length - (i + 1), by omega, rfl, hlt, q⟩, fun x H3 hy => ?_⟩
    obtain ⟨s3, r3⟩ := yl x H3 hy
    have e3 : ds.drop i = ds[i] :: ds.drop (i + 1) := List.drop_eq_getElem_cons hlt
    rw [e3, lcIter] at h7
    have v3 := v2.grow s3
    have h4' : H3 Dn = some (.lst xs) := s3 _ _ h4
    cases hgd : gd ds[i] e with
    | none => rw [hgd] at h7; cases h7
    | some eg =>
      rw [hgd] at h7
      refine ⟨G.hid Dn (.lst xs), e, ds[i], v3, r3, eg, hgd, fun σ2 o2 v4 => ?_⟩
      have ew : wipe σ2 own = wipe σ own := (only_wipe o2 hv).trans wipe_wipe
      have wn2 : ∀ {b}, Wn O σ2 b ↔ Wn O σ b := fun {b} => by rw [← wn_wipe hO (σ := σ2), ew]; exact nw
      have wf2 : ∀ {b}, Wn F σ2 b ↔ Wn F (wipe σ own) b := fun {b} => by rw [← wn_wipe (fun i hi z => hO i hi (hF i z)) (σ := σ2), ew]
      refine ⟨ew.trans rfl, G.hid Dn (.lst xs), eg, v4, ?_⟩
      have h7 : (match tt eg with
        | .ok (true, e1) => match me e1 with
          | .ok (y, e2) => match lcIter gd tt me own (ds.drop (i + 1)) (wipeE own e2) with
            | .ok (ys, e3) => .ok (y :: ys, e3)
            | _ => .bad
          | _ => .bad
        | .ok (false, e1) => lcIter gd tt me own (ds.drop (i + 1)) (wipeE own e1)
        | _ => .bad) = R.ok (ys, e0) := h7
      have keepD : ∀ {Ha Hb : Hp}, Keep mu (Wn O σ2) Ha Hb → Ha Dn = some (.lst xs) → Hb Dn = some (.lst xs) := fun {Ha Hb} k z => k Dn _ z fun _ w => n2 (wn2.mp w)
      have keepR : ∀ {Ha Hb : Hp}, Keep mu (Wn O σ2) Ha Hb → Reps c (hide (hs (G.hid Dn (.lst xs)) F (wipe σ own)) Ha) acc xs → Reps c (hide (hs (G.hid Dn (.lst xs)) F (wipe σ own)) Hb) acc xs := fun {Ha Hb} k r => Reps.sub (fun b o e => by
        obtain ⟨g1, g2⟩ := of_hide e
        exact hide_of (k b o g1 fun m w => g2 (.inr (wf2.mp (w.sub (hm m))))) g2) _ _ r
      have keep1 : ∀ {Ha Hb : Hp}, Keep mu (Wn O σ2) Ha Hb → Keep mu (Wn O σ) H1 Ha → Keep mu (Wn O σ) H1 Hb := fun {Ha Hb} k q b o e n => k b o (q b o e n) fun m w => n m (wn2.mp w)
      have h5' : Reps c (hide (hs (G.hid Dn (.lst xs)) F (wipe σ own)) H3) acc xs := Reps.sub (hide_mono (fun _ z => z) fun b o e _ => s3 b o e) _ _ h5
      have k3 : Keep mu (Wn O σ) H1 H3 := k2.trans (Keep.of s3)
      cases htt : tt eg with
      | bad => rw [htt] at h7; cases h7
      | exc x e => rw [htt] at h7; cases h7
      | ok be =>
        obtain ⟨b, e4⟩ := be
        rw [htt] at h7
        intro H4 v5 k4
        cases b with
        | false =>
          rw [if_neg Bool.false_ne_true]
          have v6 := v5.wipe hO
          rw [ew] at v6
          exact ⟨wipeE own e4, acc, xs, ys, v6, keepD k4 h4', keepR k4 h5', Nat.le_succ_of_le h6, keep1 k4 k3, h7, h8⟩
        | true =>
          rw [if_pos rfl]
          refine ⟨G.hid Dn (.lst xs), e4, v5, ?_⟩
          simp only at h7
          cases hme : me e4 with
          | bad => rw [hme] at h7; cases h7
          | exc x e => rw [hme] at h7; cases h7
          | ok ye =>
            obtain ⟨y, e5⟩ := ye
            rw [hme] at h7
            intro yv H5 v6 k5 r6
            have g1 := keepD k5 (keepD k4 h4')
            have g2 := keepR k5 (keepR k4 h5')
            have hlen : acc.length = xs.length := g2.len
            simp only at h7
            cases hlc : lcIter gd tt me own (ds.drop (i + 1)) (wipeE own e5) with
            | bad => rw [hlc] at h7; cases h7
            | exc x e => rw [hlc] at h7; cases h7
            | ok re =>
              obtain ⟨ys', e6⟩ := re
              rw [hlc] at h7
              cases h7
              have v7 := v6.wipe hO
              rw [ew] at v7
              refine ⟨xs, g1, by omega, wipeE own e5, acc ++ [y], xs ++ [yv], ys', v7.rehid, upd_same, ?_, by simp; omega, ?_, hlc, by rw [← h8]; simp⟩
              · have sD : Same (hide (hs (G.hid Dn (.lst xs)) F (wipe σ own)) H5) (hide (hs (G.hid Dn (.lst (xs ++ [yv]))) F (wipe σ own)) (upd H5 Dn (.lst (xs ++ [yv])))) := fun b o e => by
                  obtain ⟨f1, f2⟩ := of_hide e
                  have hb : b ≠ Dn := fun z => f2 (hs_hid.mpr (.inr z))
                  exact hide_of (by rw [upd_ne hb]; exact f1) fun z => f2 (hs_hid.mpr (hs_hid.mp z))
                refine Reps.append (Reps.sub sD _ _ g2) (Reps.cons (Rep.sub sD _ _ (Rep.sub (fun b o e => ?_) _ _ r6)) Reps.nil)
                obtain ⟨f1, f2⟩ := of_hide e
                exact hide_of f1 fun z => f2 (z.imp id wf2.mpr)
              · intro b o e n
                have hb : b ≠ Dn := hD2 e
                rw [upd_ne hb]
                exact keep1 k5 (keep1 k4 k3) b o e n
  · have e3 : i = ds.length := by omega
    subst e3
    rw [List.drop_length, lcIter] at h7
    cases h7
    rw [List.append_nil] at h8
    subst h8
    refine .inl ⟨w2 _ (Nat.le_refl _), hfin Dn _ H2 h4 n3 n1 n2 ?_ (k1.trans k2) ⟨xs, h4, ?_⟩⟩
    · have v1' : VS c (G.hid Dn (.lst xs)) O ea σ (upd H1 Dn (.lst xs)) := v1.hidNew hD
      refine v1'.putBack v2 hO fun b o e => ?_
      obtain ⟨g1, g2⟩ := of_hide e
      have hb : b ≠ Dn := fun z => g2 (hs_hid.mpr (.inr z))
      rw [upd_ne hb] at g1
      exact hide_of (k2 b o g1 fun _ w => g2 (.inr w)) g2
    · refine Reps.sub (fun b o e => ?_) _ _ h5
      obtain ⟨g1, g2⟩ := of_hide e
      refine hide_of g1 fun z => g2 (z.imp id fun w => ?_)
      exact (wn_wipe (fun i hi z => hO i hi (hF i z))).mpr w
theorem do_lc (hc : X.calm = true) (hN : X.N.Nodup) (hi : DI X c W O F1 mu tg iter mi) (ok : BlkOk X.N X.env.scope scope ownN)
    (hg : ∀ (s : Shared) (H : Hp) (C : Addr) (cl : List (Str × Addr)) (fp : List Addr), DG (X.blk s H scope (compEnvC scope cl C X.env) fp) c O vs tg gd)
    (ht : ∀ (s : Shared) (H : Hp) (C : Addr) (cl : List (Str × Addr)) (fp : List Addr), DTs (X.blk s H scope (compEnvC scope cl C X.env) fp) c WF O mu ifs tt)
    (he : ∀ (s : Shared) (H : Hp) (C : Addr) (cl : List (Str × Addr)) (fp : List Addr), DE (X.blk s H scope (compEnvC scope cl C X.env) fp) c WF O F mu elt me)
    (ho : ownN.map (·.2) = own := by rfl) (hF : ∀ i ∈ F, i ∈ O := by decide) (hO : ∀ i ∈ own, i ∉ O := by decide) (hv : ∀ i ∈ vs, i ∈ own := by decide) (hm : mu = true → ∀ i ∈ O, i ∈ F := by decide) (hm1 : mu = true → ∀ i ∈ O, i ∈ F1 := by decide)
    (hs : ∀ x, foldedSetIterable iter X.env x = pure x := by intro _; rfl) : DEO X c W O F mu (.ListComp elt [⟨tg, iter, ifs, 0⟩] scope pos) (mLc mi gd tt me own) := ⟨hF, fun G => by
  subst ho
  refine PE.weak (pe_lc hc hN (hi.pi G) ok (g := fun v σ H Q => ∃ G' : Gm, gD c G' O vs gd v σ H Q) (tt := fun σ H Q => ∃ G' : Gm, dT c G' WF O mu tt σ H Q) (te := fun σ H Q => ∃ G' : Gm, dE c G' WF O F mu me σ H Q) ?_ ?_ ?_ hs) (lc_weak hF hi.hF hO hv hm hm1 G)
  · exact fun s H C cl fp => ⟨fun pins s' σ H v u Q I r ⟨G', q⟩ => ((hg s _ C cl fp).pg G').run pins s' σ H v u Q I r q⟩
  · exact fun s H C cl fp => ⟨fun pins s' σ H Q I ⟨G', q⟩ => ((ht s _ C cl fp).pts G').run pins s' σ H Q I q⟩
  · exact fun s H C cl fp => ⟨fun pins s' σ H Q I ⟨G', q⟩ => ((he s _ C cl fp).pe G').run pins s' σ H Q I q⟩⟩
end
end VL
end

section
set_option Elab.async false
set_option linter.all false
set_option maxRecDepth 100000
namespace VL
open PySem PySem.Spec PyProof.Rows L2

/-! ### operators: what they do to trees -/
section
variable {X : Cx} {c : Cen}
theorem rep_int {H : Hp} {i : Int} {v : V} : Rep c H (.int i) v ↔ v = .int i := by unfold Rep; exact Iff.rfl
theorem rep_str {H : Hp} {i : Str} {v : V} : Rep c H (.str i) v ↔ v = .str i := by unfold Rep; exact Iff.rfl
theorem rep_non {H : Hp} {v : V} : Rep c H .non v ↔ v = .non := by unfold Rep; exact Iff.rfl
theorem rep_tup {H : Hp} {ds : List D} {v : V} : Rep c H (.tup ds) v ↔ ∃ a xs, v = .ref a ∧ SqT c.K H a xs ∧ Reps c H ds xs := by rw [Rep]
theorem rep_lst {H : Hp} {ds : List D} {v : V} : Rep c H (.lst ds) v ↔ ∃ a xs, v = .ref a ∧ H a = some (.lst xs) ∧ Reps c H ds xs := by rw [Rep]
/-- a new tuple, a new list of kept things -/
theorem new_tup {S : Addr → Prop} {H : Hp} {p : Addr} {xs : List V} {ds : List D} (hp : H p = none) (f : ∀ p, H p = none → ¬ S p) (r : Reps c (hide S H) ds xs) : Same H (upd H p (.tup xs)) ∧ Rep c (hide S (upd H p (.tup xs))) (.tup ds) (.ref p) :=
  ⟨same_new hp, rep_tup.mpr ⟨p, xs, rfl, SqT.of (hide_of upd_same (f p hp)), Reps.sub (hide_mono (fun _ z => z) fun b o e _ => same_new hp b o e) _ _ r⟩⟩
theorem new_lst {S : Addr → Prop} {H : Hp} {p : Addr} {xs : List V} {ds : List D} (hp : H p = none) (f : ∀ p, H p = none → ¬ S p) (r : Reps c (hide S H) ds xs) : Same H (upd H p (.lst xs)) ∧ Rep c (hide S (upd H p (.lst xs))) (.lst ds) (.ref p) :=
  ⟨same_new hp, rep_lst.mpr ⟨p, xs, rfl, hide_of upd_same (f p hp), Reps.sub (hide_mono (fun _ z => z) fun b o e _ => same_new hp b o e) _ _ r⟩⟩

/-- x + y -/
def addD : D → D → Option D
  | .int i, .int j => some (.int (i + j))
  | .str x, .str y => if x.length + y.length ≤ sizeLine then some (.str (x ++ y)) else none
  | .tup x, .tup y => if x.length + y.length ≤ sizeLine then some (.tup (x ++ y)) else none
  | .lst x, .lst y => if x.length + y.length ≤ sizeLine then some (.lst (x ++ y)) else none
  | _, _ => none
def rAddA (K : PySem.W.Frag) : R2 := fun x y H Q => (∃ i j, x = .int i ∧ y = .int j ∧ Q (.int (i + j)) H) ∨ (∃ i j, x = .str i ∧ y = .str j ∧ i.length + j.length ≤ sizeLine ∧ Q (.str (i ++ j)) H) ∨ rCatA K x y H Q ∨ rCat x y H Q
theorem op_addA : OpR X (binaryOp .Add) (rAddA X.K) := op_add.or (op_add_str.or (op_catA.or op_cat))
theorem od_add (hK : X.K = c.K) : OpD c (rAddA X.K) addD := by
  intro S H x y dx dy d Q f rx ry h q
  unfold addD at h
  split at h
  · cases h
    exact .inl ⟨_, _, rep_int.mp rx, rep_int.mp ry, q _ H (fun _ _ z => z) (rep_int.mpr rfl)⟩
  · split at h
    case isFalse => cases h
    rename_i hl
    cases h
    exact .inr (.inl ⟨_, _, rep_str.mp rx, rep_str.mp ry, hl, q _ H (fun _ _ z => z) (rep_str.mpr rfl)⟩)
  · split at h
    case isFalse => cases h
    rename_i ds es hl
    cases h
    obtain ⟨a, xs, rfl, h1, h2⟩ := rep_tup.mp rx
    obtain ⟨b, ys, rfl, h3, h4⟩ := rep_tup.mp ry
    refine .inr (.inr (.inl ⟨a, b, xs, ys, rfl, rfl, by rw [hK]; exact SqT.sub hide_sub h1, by rw [hK]; exact SqT.sub hide_sub h3, by rw [← h2.len, ← h4.len]; exact hl, fun e => ?_, fun e1 e2 => ?_, fun _ _ p hp => ?_⟩))
    · subst e
      have e : ds = [] := List.length_eq_zero_iff.mp h2.len
      subst e
      exact q _ H (fun _ _ z => z) ry
    · subst e2
      have e : es = [] := List.length_eq_zero_iff.mp h4.len
      subst e
      rw [List.append_nil] at q
      exact q _ H (fun _ _ z => z) rx
    · obtain ⟨s, r⟩ := new_tup hp f (h2.append h4)
      exact q _ _ s r
  · split at h
    case isFalse => cases h
    rename_i ds es hl
    cases h
    obtain ⟨a, xs, rfl, h1, h2⟩ := rep_lst.mp rx
    obtain ⟨b, ys, rfl, h3, h4⟩ := rep_lst.mp ry
    refine .inr (.inr (.inr ⟨a, b, xs, ys, rfl, rfl, (of_hide h1).1, (of_hide h3).1, by rw [← h2.len, ← h4.len]; exact hl, fun p hp => ?_⟩))
    obtain ⟨s, r⟩ := new_lst hp f (h2.append h4)
    exact q _ _ s r
  · cases h
/-- a rule on two ints -/
theorem od_int {C : Int → Int → Prop} [inst : ∀ i j, Decidable (C i j)] {g : Int → Int → V} {g' : Int → Int → D} (hg : ∀ i j H, Rep c H (g' i j) (g i j)) : OpD c (rI C g) (fun x y => match x, y with | .int i, .int j => if C i j then some (g' i j) else none | _, _ => none) := by
  intro S H x y dx dy d Q f rx ry h q
  dsimp only at h
  split at h
  · split at h
    case isFalse => cases h
    rename_i hc
    cases h
    exact ⟨_, _, rep_int.mp rx, rep_int.mp ry, hc, q _ H (fun _ _ z => z) (hg _ _ _)⟩
  · cases h
theorem od_int0 {g : Int → Int → V} {g' : Int → Int → D} (hg : ∀ i j H, Rep c H (g' i j) (g i j)) : OpD c (rI0 g) (fun x y => match x, y with | .int i, .int j => some (g' i j) | _, _ => none) := by
  intro S H x y dx dy d Q f rx ry h q
  dsimp only at h
  split at h
  · cases h
    exact ⟨_, _, rep_int.mp rx, rep_int.mp ry, q _ H (fun _ _ z => z) (hg _ _ _)⟩
  · cases h
def subD : D → D → Option D := fun x y => match x, y with | .int i, .int j => some (.int (i - j)) | _, _ => none
theorem od_sub : OpD c (rI0 fun i j => .int (i - j)) subD := od_int0 fun _ _ _ => rep_int.mpr rfl
instance (i j : Int) : Decidable (CMulW i j) := by unfold CMulW; infer_instance
instance (i j : Int) : Decidable (CDivW i j) := by unfold CDivW; infer_instance
instance (i j : Int) : Decidable (CPow i j) := by unfold CPow; infer_instance
instance (i j : Int) : Decidable ((fun _ j => 0 < j) i j) := inferInstanceAs (Decidable (0 < j))
theorem reps_rep {H : Hp} {ds : List D} {xs : List V} (r : Reps c H ds xs) : ∀ n : Nat, Reps c H (List.replicate n ds).flatten (List.replicate n xs).flatten
  | 0 => Reps.nil
  | n + 1 => by
    rw [List.replicate_succ, List.replicate_succ, List.flatten_cons, List.flatten_cons]
    exact r.append (reps_rep r n)
def fdivD : D → D → Option D := fun x y => match x, y with | .int i, .int j => if CDivW i j then some (.int (i / j)) else none | _, _ => none
theorem od_fdiv : OpD c (rI CDivW fun i j => .int (i / j)) fdivD := od_int fun _ _ _ => rep_int.mpr rfl
def modD : D → D → Option D := fun x y => match x, y with | .int i, .int j => if 0 < j then some (.int (i % j)) else none | _, _ => none
theorem od_mod : OpD c (rI (fun _ j => 0 < j) fun i j => .int (i % j)) modD := od_int (C := fun _ j => 0 < j) fun _ _ _ => rep_int.mpr rfl
def powD : D → D → Option D := fun x y => match x, y with | .int i, .int j => if CPow i j then some (.int (i ^ j.toNat)) else none | _, _ => none
theorem od_pow : OpD c (rI CPow fun i j => .int (i ^ j.toNat)) powD := od_int fun _ _ _ => rep_int.mpr rfl
def ltD : D → D → Option D := fun x y => match x, y with | .int i, .int j => some (.bl (decide (i < j))) | _, _ => none
def leD : D → D → Option D := fun x y => match x, y with | .int i, .int j => some (.bl (decide (i ≤ j))) | _, _ => none
def gtD : D → D → Option D := fun x y => match x, y with | .int i, .int j => some (.bl (decide (j < i))) | _, _ => none
def geD : D → D → Option D := fun x y => match x, y with | .int i, .int j => some (.bl (decide (j ≤ i))) | _, _ => none
theorem od_lt : OpD c (rI0 fun i j => .bl (decide (i < j))) ltD := od_int0 fun _ _ _ => rep_bl.mpr rfl
theorem od_le : OpD c (rI0 fun i j => .bl (decide (i ≤ j))) leD := od_int0 fun _ _ _ => rep_bl.mpr rfl
theorem od_gt : OpD c (rI0 fun i j => .bl (decide (j < i))) gtD := od_int0 fun _ _ _ => rep_bl.mpr rfl
theorem od_ge : OpD c (rI0 fun i j => .bl (decide (j ≤ i))) geD := od_int0 fun _ _ _ => rep_bl.mpr rfl
def negD : D → Option D := fun x => match x with | .int i => some (.int (-i)) | _ => none
theorem od_neg : OpD1 c (rU fun i => .int (-i)) negD := by
  intro S H x dx d Q f rx h q
  unfold negD at h
  split at h
  · cases h
    exact ⟨_, rep_int.mp rx, q _ H (fun _ _ z => z) (rep_int.mpr rfl)⟩
  · cases h

/-! ### equality of data -/
mutual
def toPD : D → Option PyData
  | .non => some .none
  | .bl b => some (.bool b)
  | .int i => some (.int i)
  | .str x => some (.str x)
  | .tup ds => (toPDs ds).map .tuple
  | .lst ds => (toPDs ds).map .list
  | .dct _ _ | .set _ | .ins _ _ | .scr _ => none
def toPDs : List D → Option (List PyData)
  | [] => some []
  | d :: ds => (toPD d).bind fun p => (toPDs ds).bind fun ps => some (p :: ps)
end
mutual
theorem dp_of {S : Addr → Prop} {H : Hp} : ∀ (d : D) (v : V) (p : PyData), toPD d = some p → Rep c (hide S H) d v → Dp c.K H v p
  | .non, v, p, h, r => by cases h; rw [rep_non.mp r]; exact .non
  | .bl b, v, p, h, r => by cases h; rw [rep_bl.mp r]; exact .bl b
  | .int i, v, p, h, r => by cases h; rw [rep_int.mp r]; exact .int i
  | .str x, v, p, h, r => by cases h; rw [rep_str.mp r]; exact .str x
  | .tup ds, v, p, h, r => by
    unfold toPD at h
    obtain ⟨ps, h1, rfl⟩ := Option.map_eq_some_iff.mp h
    obtain ⟨a, xs, rfl, h2, h3⟩ := rep_tup.mp r
    exact .tup (SqT.sub hide_sub h2) (dps_of ds xs ps h1 h3)
  | .lst ds, v, p, h, r => by
    unfold toPD at h
    obtain ⟨ps, h1, rfl⟩ := Option.map_eq_some_iff.mp h
    obtain ⟨a, xs, rfl, h2, h3⟩ := rep_lst.mp r
    exact .lst (SqL.of (of_hide h2).1) (dps_of ds xs ps h1 h3)
  | .dct _ _, v, p, h, r => by unfold toPD at h; cases h
  | .set _, v, p, h, r => by unfold toPD at h; cases h
  | .ins _ _, v, p, h, r => by unfold toPD at h; cases h
  | .scr _, v, p, h, r => by unfold toPD at h; cases h
theorem dps_of {S : Addr → Prop} {H : Hp} : ∀ (ds : List D) (vs : List V) (ps : List PyData), toPDs ds = some ps → Reps c (hide S H) ds vs → DpAll c.K H vs ps
  | [], vs, ps, h, r => by
    cases h
    unfold Reps at r
    subst r; exact .nil
  | d :: ds, vs, ps, h, r => by
    unfold toPDs at h
    obtain ⟨p, h1, h2⟩ := Option.bind_eq_some_iff.mp h
    obtain ⟨qs, h3, h4⟩ := Option.bind_eq_some_iff.mp h2
    cases h4
    unfold Reps at r
    obtain ⟨x, xs, rfl, r1, r2⟩ := r
    exact .cons (dp_of d x p h1 r1) (dps_of ds xs qs h3 r2)
end
def eqB (a b : D) : Option Bool := (toPD a).bind fun p => (toPD b).bind fun q => if SeqAt.shaped p = true ∧ SeqAt.shaped q = true then some (PyData.eqv p q) else none
def eqD (a b : D) : Option D := (eqB a b).map .bl
def neD (a b : D) : Option D := (eqB a b).map fun z => .bl (!z)
theorem eqB_some {a b : D} {z : Bool} (h : eqB a b = some z) : ∃ p q, toPD a = some p ∧ toPD b = some q ∧ SeqAt.shaped p = true ∧ SeqAt.shaped q = true ∧ z = PyData.eqv p q := by
  unfold eqB at h
  obtain ⟨p, h1, h2⟩ := Option.bind_eq_some_iff.mp h
  obtain ⟨q, h3, h4⟩ := Option.bind_eq_some_iff.mp h2
  split at h4
  · rename_i hs
    cases h4
    exact ⟨p, q, h1, h3, hs.1, hs.2, rfl⟩
  · cases h4
theorem od_eq (hK : X.K = c.K) : OpD c (rEqD X.K) eqD := by
  intro S H x y dx dy d Q f rx ry h q
  obtain ⟨z, h1, rfl⟩ := Option.map_eq_some_iff.mp h
  obtain ⟨p, p', e1, e2, e3, e4, rfl⟩ := eqB_some h1
  exact ⟨p, p', by rw [hK]; exact dp_of dx x p e1 rx, by rw [hK]; exact dp_of dy y p' e2 ry, e3, e4, q _ H (fun _ _ z => z) (rep_bl.mpr rfl)⟩
theorem od_ne (hK : X.K = c.K) : OpD c (rNeD X.K) neD := by
  intro S H x y dx dy d Q f rx ry h q
  obtain ⟨z, h1, rfl⟩ := Option.map_eq_some_iff.mp h
  obtain ⟨p, p', e1, e2, e3, e4, rfl⟩ := eqB_some h1
  exact ⟨p, p', by rw [hK]; exact dp_of dx x p e1 rx, by rw [hK]; exact dp_of dy y p' e2 ry, e3, e4, q _ H (fun _ _ z => z) (rep_bl.mpr rfl)⟩

/-! ### subscripts, slices -/
def ixD : D → D → Option D
  | .lst ds, .int i => atI ds i
  | .tup ds, .int i => atI ds i
  | .str x, .int i => if x.length ≤ sizeLine then (atI x.cps.toList i).map fun q => .str ⟨#[q]⟩ else none
  | _, _ => none
theorem atI_rep {H : Hp} {ds : List D} {xs : List V} {i : Int} {d : D} (r : Reps c H ds xs) (h : atI ds i = some d) : ∃ x, atI xs i = some x ∧ Rep c H d x := by
  unfold atI at h ⊢
  rw [r.len] at h
  cases e : ixN xs.length i with
  | none => rw [e] at h; cases h
  | some j =>
    rw [e] at h
    exact r.get h
theorem od_ix (hK : X.K = c.K) : OpD c (rIx X.K) ixD := by
  intro S H x y dx dy d Q f rx ry h q
  unfold ixD at h
  split at h
  · obtain ⟨a, xs, rfl, h1, h2⟩ := rep_lst.mp rx
    obtain ⟨v, e1, r1⟩ := atI_rep h2 h
    exact .inl ⟨a, xs, _, v, rfl, rep_int.mp ry, SqL.of (of_hide h1).1, e1, q v H (fun _ _ z => z) r1⟩
  · obtain ⟨a, xs, rfl, h1, h2⟩ := rep_tup.mp rx
    obtain ⟨v, e1, r1⟩ := atI_rep h2 h
    exact .inr (.inl ⟨a, xs, _, v, rfl, rep_int.mp ry, by rw [hK]; exact SqT.sub hide_sub h1, e1, q v H (fun _ _ z => z) r1⟩)
  · split at h
    case isFalse => cases h
    rename_i hz
    obtain ⟨k, e1, rfl⟩ := Option.map_eq_some_iff.mp h
    exact .inr (.inr ⟨_, _, k, rep_str.mp rx, rep_int.mp ry, hz, e1, q _ H (fun _ _ z => z) (rep_str.mpr rfl)⟩)
  · cases h
/-- xs[lo:hi] -/
def cutL {α : Type} (xs : List α) (lo hi : Option Int) : List α := (xs.drop (HT.sIx xs.length 0 lo)).take (HT.sIx xs.length xs.length hi - HT.sIx xs.length 0 lo)
def slD : D → Option Int → Option Int → Option D
  | .lst ds, lo, hi => some (.lst (cutL ds lo hi))
  | .tup ds, lo, hi => some (.tup (cutL ds lo hi))
  | .scr ns, lo, hi => some (.lst (cutL (ns.map D.int) lo hi))
  | .str x, lo, hi => if x.length ≤ sizeLine then some (.str (cutS x lo hi)) else none
  | _, _, _ => none
def rSlAll (K : PySem.W.Frag) : V → Option Int → Option Int → Hp → VK → Prop := fun x lo hi H Q => rSlL K x lo hi H Q ∨ rSlA K x lo hi H Q ∨ rSlS x lo hi H Q
theorem sl_all : SlR X (rSlAll X.K) := sl_list.or (sl_tupA.or sl_str)
theorem reps_cut {H : Hp} {ds : List D} {xs : List V} (r : Reps c H ds xs) (lo hi : Option Int) : Reps c H (cutL ds lo hi) (cutV xs lo hi) := by
  unfold cutL cutV
  rw [r.len]
  exact (r.drop _).take _
theorem cutL_all {α : Type} (xs : List α) (lo hi : Option Int) (h : HT.sIx xs.length 0 lo = 0 ∧ HT.sIx xs.length xs.length hi = xs.length) : cutL xs lo hi = xs := by
  unfold cutL
  rw [h.1, h.2]
  simp
theorem reps_ints {H : Hp} : ∀ ns : List Int, Reps c H (ns.map D.int) (ns.map V.int)
  | [] => Reps.nil
  | n :: ns => Reps.cons (rep_int.mpr rfl) (reps_ints ns)
theorem sd_all (hK : X.K = c.K) : SlD c (rSlAll X.K) slD := by
  intro S H x dx d lo hi Q f rx h q
  cases dx with
  | lst ds =>
    cases h
    obtain ⟨a, xs, rfl, h1, h2⟩ := rep_lst.mp rx
    refine .inl ⟨a, xs, rfl, SqL.of (of_hide h1).1, fun p hp => ?_⟩
    obtain ⟨s, r⟩ := new_lst hp f (reps_cut h2 lo hi)
    exact q _ _ s r
  | tup ds =>
    cases h
    obtain ⟨a, xs, rfl, h1, h2⟩ := rep_tup.mp rx
    refine .inr (.inl ⟨a, xs, rfl, by rw [hK]; exact SqT.sub hide_sub h1, fun e => ?_, fun _ p hp => ?_⟩)
    · rw [cutL_all ds lo hi (by rw [h2.len]; exact e)] at q
      exact q _ H (fun _ _ z => z) rx
    · obtain ⟨s, r⟩ := new_tup hp f (reps_cut h2 lo hi)
      exact q _ _ s r
  | scr ns =>
    cases h
    unfold Rep at rx
    obtain ⟨a, rfl, h1⟩ := rx
    refine .inl ⟨a, ns.map V.int, rfl, ?_, fun p hp => ?_⟩
    · rw [hK]
      rcases h1 with (h1 | ⟨o, h1⟩) | h1
      · exact .inl (.inl (of_hide h1).1)
      · exact .inl (.inr ⟨o, (of_hide h1).1⟩)
      · exact .inr h1
    · obtain ⟨s, r⟩ := new_lst hp f (reps_cut (reps_ints ns) lo hi)
      exact q _ _ s r
  | str x =>
    have h : (if x.length ≤ sizeLine then some (D.str (cutS x lo hi)) else none) = some d := h
    split at h
    case isFalse => cases h
    rename_i hz
    cases h
    exact .inr (.inr ⟨_, rep_str.mp rx, hz, q _ H (fun _ _ z => z) (rep_str.mpr rfl)⟩)
  | non => cases h
  | bl _ => cases h
  | int _ => cases h
  | dct _ _ => cases h
  | set _ => cases h
  | ins _ _ => cases h

/-! ### built-in functions -/
def intD : List D → Option D
  | [.int i] => some (.int i)
  | [.bl b] => some (.int (if b then 1 else 0))
  | _ => none
theorem cd_int : CallD c (fun xs H Q => (∃ i, xs = [.int i] ∧ Q (.int i) H) ∨ ∃ k, xs = [.bl k] ∧ Q (.int (if k then 1 else 0)) H) intD := by
  intro S H xs dxs d Q f r h q
  unfold intD at h
  split at h
  · cases h
    obtain ⟨x, rfl, r1⟩ := reps1 r
    exact .inl ⟨_, by rw [rep_int.mp r1], q _ H (fun _ _ z => z) (rep_int.mpr rfl)⟩
  · cases h
    obtain ⟨x, rfl, r1⟩ := reps1 r
    exact .inr ⟨_, by rw [rep_bl.mp r1], q _ H (fun _ _ z => z) (rep_int.mpr rfl)⟩
  · cases h
def absD : List D → Option D
  | [.int i] => some (.int (if i < 0 then -i else i))
  | _ => none
theorem cd_abs : CallD c (fun xs H Q => ∃ i, xs = [.int i] ∧ Q (.int (if i < 0 then -i else i)) H) absD := by
  intro S H xs dxs d Q f r h q
  unfold absD at h
  split at h
  · cases h
    obtain ⟨x, rfl, r1⟩ := reps1 r
    exact ⟨_, by rw [rep_int.mp r1], q _ H (fun _ _ z => z) (rep_int.mpr rfl)⟩
  · cases h
def lenD : List D → Option D
  | [.lst ds] => some (.int ds.length)
  | [.tup ds] => some (.int ds.length)
  | [.str x] => if x.length ≤ sizeLine then some (.int x.length) else none
  | _ => none
def rLenA (K : PySem.W.Frag) : List V → Hp → VK → Prop := fun xs H Q => (∃ p ys, xs = [.ref p] ∧ (SqL K H p ys ∨ SqT K H p ys) ∧ Q (.int ys.length) H) ∨ (∃ z, xs = [.str z] ∧ z.length ≤ sizeLine ∧ Q (.int z.length) H)
theorem call_lenA : CallR X (.builtin "len") (rLenA X.K) := call_len_seq.or call_len_str
theorem cd_len (hK : X.K = c.K) : CallD c (rLenA X.K) lenD := by
  intro S H xs dxs d Q f r h q
  unfold lenD at h
  split at h
  · cases h
    obtain ⟨x, rfl, r1⟩ := reps1 r
    obtain ⟨a, xs, rfl, h1, h2⟩ := rep_lst.mp r1
    exact .inl ⟨a, xs, rfl, .inl (SqL.of (of_hide h1).1), by rw [← h2.len]; exact q _ H (fun _ _ z => z) (rep_int.mpr rfl)⟩
  · cases h
    obtain ⟨x, rfl, r1⟩ := reps1 r
    obtain ⟨a, xs, rfl, h1, h2⟩ := rep_tup.mp r1
    exact .inl ⟨a, xs, rfl, .inr (by rw [hK]; exact SqT.sub hide_sub h1), by rw [← h2.len]; exact q _ H (fun _ _ z => z) (rep_int.mpr rfl)⟩
  · split at h
    case isFalse => cases h
    rename_i hz
    cases h
    obtain ⟨x, rfl, r1⟩ := reps1 r
    exact .inr ⟨_, by rw [rep_str.mp r1], hz, q _ H (fun _ _ z => z) (rep_int.mpr rfl)⟩
  · cases h
def tupleD : List D → Option D
  | [.lst ds] => some (.tup ds)
  | [.tup ds] => some (.tup ds)
  | _ => none
theorem cd_tuple (hK : X.K = c.K) : CallD c (fun xs H Q => ∃ p ys, xs = [.ref p] ∧ ((SqL X.K H p ys ∧ ∀ l, H l = none → Q (.ref l) (upd H l (.tup ys))) ∨ (SqT X.K H p ys ∧ Q (.ref p) H))) tupleD := by
  intro S H xs dxs d Q f r h q
  unfold tupleD at h
  split at h
  · cases h
    obtain ⟨x, rfl, r1⟩ := reps1 r
    obtain ⟨a, xs, rfl, h1, h2⟩ := rep_lst.mp r1
    refine ⟨a, xs, rfl, .inl ⟨SqL.of (of_hide h1).1, fun p hp => ?_⟩⟩
    obtain ⟨s, r⟩ := new_tup hp f h2
    exact q _ _ s r
  · cases h
    obtain ⟨x, rfl, r1⟩ := reps1 r
    obtain ⟨a, xs, rfl, h1, h2⟩ := rep_tup.mp r1
    exact ⟨a, xs, rfl, .inr ⟨by rw [hK]; exact SqT.sub hide_sub h1, q _ H (fun _ _ z => z) r1⟩⟩
  · cases h
def listD : List D → Option D
  | [.lst ds] => some (.lst ds)
  | [.tup ds] => some (.lst ds)
  | _ => none
theorem cd_list (hK : X.K = c.K) : CallD c (fun xs H Q => ∃ p ys, xs = [.ref p] ∧ (SqL X.K H p ys ∨ SqT X.K H p ys) ∧ ∀ l, H l = none → Q (.ref l) (upd H l (.lst ys))) listD := by
  intro S H xs dxs d Q f r h q
  unfold listD at h
  split at h
  · cases h
    obtain ⟨x, rfl, r1⟩ := reps1 r
    obtain ⟨a, xs, rfl, h1, h2⟩ := rep_lst.mp r1
    refine ⟨a, xs, rfl, .inl (SqL.of (of_hide h1).1), fun p hp => ?_⟩
    obtain ⟨s, r⟩ := new_lst hp f h2
    exact q _ _ s r
  · cases h
    obtain ⟨x, rfl, r1⟩ := reps1 r
    obtain ⟨a, xs, rfl, h1, h2⟩ := rep_tup.mp r1
    refine ⟨a, xs, rfl, .inr (by rw [hK]; exact SqT.sub hide_sub h1), fun p hp => ?_⟩
    obtain ⟨s, r⟩ := new_lst hp f h2
    exact q _ _ s r
  · cases h
def blsOf : List D → Option (List Bool)
  | [] => some []
  | .bl b :: r => (blsOf r).map (b :: ·)
  | _ :: _ => none
theorem reps_bls {H : Hp} : ∀ {ds : List D} {xs : List V} {bs : List Bool}, Reps c H ds xs → blsOf ds = some bs → xs = bs.map V.bl
  | [], xs, bs, r, h => by
    cases h
    unfold Reps at r
    subst r; rfl
  | d :: ds, xs, bs, r, h => by
    unfold Reps at r
    obtain ⟨x, s, rfl, r1, r2⟩ := r
    cases d <;> first | cases h | skip
    unfold blsOf at h
    obtain ⟨bs', h1, rfl⟩ := Option.map_eq_some_iff.mp h
    rw [reps_bls r2 h1, rep_bl.mp r1]
    rfl
def allD : List D → Option D
  | [.lst ds] => (blsOf ds).map fun bs => .bl (bs.all id)
  | _ => none
def anyD : List D → Option D
  | [.lst ds] => (blsOf ds).map fun bs => .bl (bs.any id)
  | _ => none
theorem cd_all : CallD c (rAll X.K) allD := by
  intro S H xs dxs d Q f r h q
  unfold allD at h
  split at h
  · obtain ⟨bs, h1, rfl⟩ := Option.map_eq_some_iff.mp h
    obtain ⟨x, rfl, r1⟩ := reps1 r
    obtain ⟨a, xs, rfl, h3, h2⟩ := rep_lst.mp r1
    exact ⟨a, bs, rfl, by rw [← reps_bls h2 h1]; exact SqL.of (of_hide h3).1, q _ H (fun _ _ z => z) (rep_bl.mpr rfl)⟩
  · cases h
theorem cd_any : CallD c (rAny X.K) anyD := by
  intro S H xs dxs d Q f r h q
  unfold anyD at h
  split at h
  · obtain ⟨bs, h1, rfl⟩ := Option.map_eq_some_iff.mp h
    obtain ⟨x, rfl, r1⟩ := reps1 r
    obtain ⟨a, xs, rfl, h3, h2⟩ := rep_lst.mp r1
    exact ⟨a, bs, rfl, by rw [← reps_bls h2 h1]; exact SqL.of (of_hide h3).1, q _ H (fun _ _ z => z) (rep_bl.mpr rfl)⟩
  · cases h
def reprD : List D → Option D
  | [.int i] => if i.natAbs.log2 < 1920 then some (.str (toString i)) else none
  | _ => none
theorem cd_repr : CallD c (fun xs H Q => ∃ i, xs = [.int i] ∧ i.natAbs.log2 < 1920 ∧ Q (.str (toString i)) H) reprD := by
  intro S H xs dxs d Q f r h q
  unfold reprD at h
  split at h
  · split at h
    case isFalse => cases h
    rename_i hz
    cases h
    obtain ⟨x, rfl, r1⟩ := reps1 r
    exact ⟨_, by rw [rep_int.mp r1], hz, q _ H (fun _ _ z => z) (rep_str.mpr rfl)⟩
  · cases h
end
end VL
end

section
set_option Elab.async false
set_option linter.all false
set_option maxRecDepth 100000
namespace VL
open PySem PySem.Spec PyProof.Rows L2

section
variable {X : Cx} {k : Kf} {Ob O O' O'' : List Nat} {st : Stmt} {sts : List Stmt} {m n : SD} {me : ED} {t : TD} {e : Expr} {pos : Pos}
theorem DS.drop (h : DS X k Ob O O' st m) (s : ∀ i ∈ O'', i ∈ O' := by decide) (t : ∀ i ∈ k.io, i ∈ O'' := by (try dsimp only); decide) : DS X k Ob O O'' st m := ⟨fun G g => PS.weak (h.ps G g) (by
  rintro D σ H ⟨env, vs, h⟩
  refine ⟨env, vs, RP.mono h (fun f e1 h1 => ?_) fun _ _ q => q⟩
  cases f with
  | next => exact fun σ' H' vs' => h1 σ' H' (vs'.drop s fun p hp => t _ (g.mem hp))
  | brk => exact h1
  | cont => exact h1
  | ret d => exact h1)⟩
/-- code that is never come to -/
theorem ds_never : DS X k Ob O O' st sBad := ⟨fun G g => PS.weak ps_never (by
  rintro D σ H ⟨env, vs, h⟩
  exact h)⟩
theorem set_of_dEO {i : Nat} {mu : Bool} {G : Gm} (g : G.for k) (hio : i ∉ k.io) (hxo : ∀ i ∈ k.Ox, i ∈ O) : ∀ (En : Ends) σ H, dS k.c G k.W k.io k.rm k.Ox Ob O (i :: O.filter (· != i)) (sSet i me) En σ H → dEO k.c G k.W O O mu me σ H (fun x H1 => L2.gName i x σ H1 En.nx) := by
  rintro En σ H ⟨env, vs, h⟩
  refine ⟨env, vs, (RP.bind h).mono (fun d e1 h1 a o H1 f1 f2 f3 f4 vs1 k1 r1 => ?_) fun x e1 q => exK_of g hxo q⟩
  obtain ⟨hl, h2⟩ := RP.guard h1
  exact h2 _ H1 (vs1.setO (of_decide_eq_true hl) f1 f2 f3 f4 r1 (g.ne hio))
/-- name = [..] on one line -/
theorem ds_setLc {i : Nat} {y : Str} {py spos : Pos} {F1 own vs : List Nat} {mu : Bool} {elt tg iter : Expr} {ifs : List Expr} {scope : Scope} {ownN : List (Str × Nat)} {mi : LD} {gd : GD} {tt : TD} {me : ED}
    (hc : X.calm = true) (hN : X.N.Nodup) (hy : X.N[i]? = some y) (hyl : X.env.scope.names.lookup y = some .local) (hsw : swapsWith (.ListComp elt [⟨tg, iter, ifs, 0⟩] scope pos) (some (.Name y py)) spos.line X.env = pure true)
    (hi : DI X k.c k.W O F1 mu tg iter mi) (ok : BlkOk X.N X.env.scope scope ownN)
    (hg : ∀ (s : Shared) (H : Hp) (C : Addr) (cl : List (Str × Addr)) (fp : List Addr), DG (X.blk s H scope (compEnvC scope cl C X.env) fp) k.c O vs tg gd)
    (ht : ∀ (s : Shared) (H : Hp) (C : Addr) (cl : List (Str × Addr)) (fp : List Addr), DTs (X.blk s H scope (compEnvC scope cl C X.env) fp) k.c WF O mu ifs tt)
    (he : ∀ (s : Shared) (H : Hp) (C : Addr) (cl : List (Str × Addr)) (fp : List Addr), DE (X.blk s H scope (compEnvC scope cl C X.env) fp) k.c WF O O mu elt me)
    (ho : ownN.map (·.2) = own := by rfl) (hO : ∀ i ∈ own, i ∉ O := by decide) (hv : ∀ i ∈ vs, i ∈ own := by decide) (hm1 : mu = true → ∀ i ∈ O, i ∈ F1 := by decide) (hio : i ∉ k.io := by (try dsimp only); decide) (hxo : ∀ i ∈ k.Ox, i ∈ O := by (try dsimp only); decide)
    (hs : ∀ x, foldedSetIterable iter X.env x = pure x := by intro _; rfl) : DS X k Ob O (i :: O.filter (· != i)) (.Assign [.Name y py] (.ListComp elt [⟨tg, iter, ifs, 0⟩] scope pos) spos) (sSet i (mLc mi gd tt me own)) := ⟨fun G g => by
  subst ho
  refine PS.weak (ps_setLc hc hN hy hyl hsw (hi.pi G) ok (g := fun v σ H Q => ∃ G' : Gm, gD k.c G' O vs gd v σ H Q) (tt := fun σ H Q => ∃ G' : Gm, dT k.c G' WF O mu tt σ H Q) (te := fun σ H Q => ∃ G' : Gm, dE k.c G' WF O O mu me σ H Q) ?_ ?_ ?_ hs) fun En σ H q => lc_weak (fun _ z => z) hi.hF hO hv (fun _ _ z => z) hm1 G σ H _ (set_of_dEO g hio hxo En σ H q)
  · exact fun s H C cl fp => ⟨fun pins s' σ H v u Q I r ⟨G', q⟩ => ((hg s _ C cl fp).pg G').run pins s' σ H v u Q I r q⟩
  · exact fun s H C cl fp => ⟨fun pins s' σ H Q I ⟨G', q⟩ => ((ht s _ C cl fp).pts G').run pins s' σ H Q I q⟩
  · exact fun s H C cl fp => ⟨fun pins s' σ H Q I ⟨G', q⟩ => ((he s _ C cl fp).pe G').run pins s' σ H Q I q⟩⟩
/-- a target (of kept things) = value -/
def sAsg (gd : GD) (m : ED) : SD := fun env => (m env).bind fun a => match gd a.1 a.2 with
  | some e => .ok (.next, e)
  | none => .bad
theorem ds_asg {vs : List Nat} {gd : GD} {tg : Expr} {mu : Bool} (he : DE X k.c k.W O O mu e me) (hg : DG X k.c O vs tg gd) (hs : swapsWithSole [tg] e pos.line X.env = pure false := by rfl) (hw : swappedStores [tg] e X.env = pure none := by rfl)
    (h1 : (assignEach [tg] X.env).map (·.2) = [assign tg X.env] := by rfl) (hxo : ∀ i ∈ k.Ox, i ∈ O := by (try dsimp only); decide) : DS X k Ob O O (.Assign [tg] e pos) (sAsg gd me) := ⟨fun G g => PS.weak (ps_asg (he.pe G) (hg.pg G) hs hw h1) (by
  rintro D σ H ⟨env, vs, h⟩
  refine ⟨env, vs, (RP.bind h).mono (fun d e1 h1 v H1 vs1 k1 r1 => ?_) fun x e1 q => exK_of g hxo q⟩
  cases hgd : gd d e1 with
  | none => simp only [hgd] at h1; exact h1.elim
  | some e2 =>
    simp only [hgd] at h1
    exact ⟨e1, d, vs1, r1, e2, hgd, fun σ' o' v' => h1 σ' H1 v'⟩)⟩
/-- name op= value -/
def sAug (i : Nat) (f : D → D → Option D) (m : ED) : SD := fun env => match env[i]? with
  | some (some d) => (m env).bind fun a => match f d a.1 with
    | some z => .ok (.next, a.2.set i (some z))
    | none => .bad
  | _ => .bad
theorem ds_aug {i : Nat} {x : Str} {op : Operator} {pos' : Pos} {r : R2} {f : D → D → Option D} {mu : Bool} (hN : X.N.Nodup) (hi : X.N[i]? = some x) (hx : Loc X.env.scope x) (ho : OpR X (inplaceOp op) r) (hf : OpD k.c r f) (he : DE X k.c k.W O O mu e me) (hO : i ∉ O := by decide)
    (hfn : X.fn x = true ∨ X.env.scope.names.lookup x = some .local := by first | exact .inl rfl | exact .inr rfl | assumption) (hxo : ∀ i ∈ k.Ox, i ∈ O := by (try dsimp only); decide) : DS X k Ob O O (.AugAssign (.Name x pos') op e pos) (sAug i f me) := ⟨fun G g => PS.weak (ps_aug (ti := r) hN hi hx (he.pe G) ho hfn) (by
  rintro D σ H ⟨env, vs, h⟩
  unfold sAug at h
  split at h
  · rename_i d hd
    obtain ⟨v, e1, r1⟩ := vs.imm i d hd hO
    refine ⟨v, e1, env, vs, (RP.bind h).mono (fun da e2 h2 y H1 vs1 k1 r2 => ?_) fun x e1 q => exK_of g hxo q⟩
    cases hz : f d da with
    | none => simp only [hz] at h2; exact h2.elim
    | some z =>
      simp only [hz] at h2
      refine hf (hs G O σ) H1 v y d da z _ (vs1.freshS fun _ z => z) (Rep.sub (k1.hide fun _ _ z => z) _ _ r1) r2 hz fun w H' s rw' => ?_
      have hil : i < e2.length := by rw [vs1.len]; exact (List.getElem?_eq_some_iff.mp e1).1
      exact h2 _ H' ((vs1.grow s).set' hO hil rw' fun p hp e => hO (e ▸ (vs1.ios p hp).1))
  · exact h.elim)⟩
/-- name[i] = value, the list owned -/
def sSub (i : Nat) (mv mi : ED) : SD := fun env => (mv env).bind fun a => (mi a.2).bind fun b => match b.2[i]?, b.1 with
  | some (some (.lst ds)), .int q => match ixN ds.length q with
    | some j => .ok (.next, b.2.set i (some (.lst (ds.set j a.1))))
    | none => .bad
  | _, _ => .bad
theorem ds_sub {i : Nat} {x : Str} {px ps : Pos} {ei ev : Expr} {mi mv : ED} {mu : Bool} (hx : PE X (.Name x px) (tVar i)) (hv : DE X k.c k.W O O mu ev mv) (hi : DE X k.c k.W O [] false ei mi)
    (hO : i ∈ O := by decide) (hs : swapsWithSole [.Subscript (.Name x px) ei ps] ev pos.line X.env = pure false := by rfl) (hw : swappedStores [.Subscript (.Name x px) ei ps] ev X.env = pure none := by rfl)
    (h1 : (assignEach [.Subscript (.Name x px) ei ps] X.env).map (·.2) = [assign (.Subscript (.Name x px) ei ps) X.env] := by rfl)
    (ha : ∀ v, assign (.Subscript (.Name x px) ei ps) X.env v = (do
      let ov ← holding [v] (eval (.Name x px) X.env)
      let iv ← holding [v, ov] (eval ei X.env)
      standAt ps
      holding [v, ov, iv] (setItem ov iv v)
      release [v, ov, iv] []) := by intro _; rfl) (hxo : ∀ i ∈ k.Ox, i ∈ O := by (try dsimp only); decide) : DS X k Ob O O (.Assign [.Subscript (.Name x px) ei ps] ev pos) (sSub i mv mi) := ⟨fun G g => PS.weak (ps_asg (hv.pe G) (pg_sub hx (hi.pe G) set_list ha) hs hw h1) (by
  rintro D σ H ⟨env, vs, h⟩
  refine ⟨env, vs, (RP.bind h).mono (fun da e1 h1 v H1 vs1 k1 r1 => ?_) fun x e1 q => exK_of g hxo q⟩
  obtain ⟨d0, a, _, g2, _⟩ := vs1.own i hO
  refine ⟨_, g2, e1, vs1, (RP.bind h1).mono (fun di e2 h2 w H2 vs2 k2 r2 => ?_) fun x e1 q => exK_of g hxo q⟩
  obtain ⟨d1, a', q1, q2, q3, _⟩ := vs2.own i hO
  rw [g2] at q2; cases q2
  simp only [q1] at h2
  cases d1 <;> first | exact h2.elim | skip
  rename_i ds
  cases di <;> first | exact h2.elim | skip
  rename_i q
  simp only at h2
  obtain ⟨xs, q4, q5⟩ := q3
  cases hj : ixN ds.length q with
  | none => simp only [hj] at h2; exact h2.elim
  | some j =>
    simp only [hj] at h2
    refine ⟨a, xs, q, j, rfl, rep_int.mp r2, q4, by rw [← q5.len]; exact hj, h2 σ _ (vs2.write hO g2 ⟨xs.set j v, upd_same, q5.set j (Rep.sub (k2.hide fun z => by cases z) _ _ r1)⟩)⟩)⟩
end

/-! ### methods that change what a slot owns -/
section
variable {X : Cx} {c : Cen} {W : WX} {O F : List Nat} {mu : Bool} {pos apos px : Pos} {x : Str} {i : Nat} {e : Expr} {me : ED}
/-- name.append(e) -/
def mAppend (i : Nat) (m : ED) : ED := fun env => match env[i]? with
  | some (some (.lst _)) => (m env).bind fun a => match a.2[i]? with
    | some (some (.lst ds)) => R.guard (decide (ds.length < sizeLine)) (.ok (.non, a.2.set i (some (.lst (ds ++ [a.1])))))
    | _ => .bad
  | _ => .bad
theorem de_append (hx : PE X (.Name x px) (tVar i)) (he : DE X c W O O mu e me) (hO : i ∈ O := by decide) (hF : ∀ i ∈ F, i ∈ O := by decide) (hbase : attributeBase (.Name x px) "append" X.env (eval (.Name x px) X.env) = eval (.Name x px) X.env := by rfl)
    (hfew : ((backTo pos (starEach [e] X.env)).all (fun x => !x.1) && (backToKw pos (keywordEach [] X.env)).all (fun x => x.1.isSome) && decide ([e].length + ([] : List Keyword).length + (if ([] : List Keyword).isEmpty then 0 else 1) < 30)) = true := by rfl)
    (hline : (apos.endLine == pos.line) = true := by rfl) (hs : starEach [e] X.env = (false, eval e X.env) :: starEach [] X.env := by rfl) (hplain : (backTo pos (starEach [] X.env)).any (·.1) = false := by rfl) :
    DE X c W O F true (.Call (.Attribute (.Name x px) "append" apos) [e] [] pos) (mAppend i me) := ⟨hF, fun G => PE.weak (pe_bm PySem.F.plainAttrs_list PySem.F.slot_list_append PySem.F.type_list_append mt_append hx (pa_cons (he.pe G) pa_nil hs) hbase hfew hline hs hplain) (by
  rintro σ H Q ⟨env, vs, h⟩
  obtain ⟨d0, a, g1, g2, g3, _⟩ := vs.own i hO
  refine ⟨_, g2, ?_⟩
  unfold mAppend at h
  rw [g1] at h
  cases d0 <;> first | exact h.elim | skip
  obtain ⟨xs, hxs, _⟩ := g3
  refine ⟨.inl ⟨rfl, xs, SqL.of hxs⟩, env, vs, (RP.bind h).mono (fun da e1 h1 v H1 vs1 k1 r1 => ?_) fun _ _ q => q⟩
  obtain ⟨d1, a', q1, q2, q3, _⟩ := vs1.own i hO
  rw [g2] at q2; cases q2
  simp only [q1] at h1
  cases d1 <;> first | exact h1.elim | skip
  rename_i ds
  obtain ⟨ys, q4, q5⟩ := q3
  obtain ⟨hz, h2⟩ := RP.guard h1
  have hz : ds.length < sizeLine := of_decide_eq_true hz
  refine ⟨a, ys, v, rfl, rfl, q4, by rw [← q5.len]; exact hz, h2 .non _ (vs1.write hO g2 ⟨ys ++ [v], upd_same, q5.append (Reps.cons r1 Reps.nil)⟩) (fun b o eb n => ?_) (rep_non.mpr rfl)⟩
  have hb : b ≠ a := fun z => n rfl ⟨i, hO, by rw [g2, z]⟩
  rw [upd_ne hb]
  exact k1 b o eb fun _ => n rfl)⟩
end
end VL
end

section
set_option Elab.async false
set_option linter.all false
set_option maxRecDepth 100000
namespace VL
open PySem PySem.Spec PyProof.Rows L2

/-! ### isinstance of data, by built-in classes -/
/-- a tree's built-in class -/
def tyD : D → Option String
  | .non => some "NoneType"
  | .bl _ => some "bool"
  | .int _ => some "int"
  | .str _ => some "str"
  | .tup _ => some "tuple"
  | .lst _ => some "list"
  | .dct _ _ => some "dict"
  | .set _ | .ins _ _ | .scr _ => none
def isiD (T : String) (d : D) : Option D := (tyD d).bind fun t => (kitB t T).map .bl
def isisD (Ts : List String) (d : D) : Option D := (tyD d).bind fun t => (Ts.foldr (fun T r => match kitB t T with
  | some true => some true
  | some false => r
  | none => none) (some false)).map .bl
section
variable {X : Cx} {c : Cen} {W : WX} {O F : List Nat} {mu : Bool} {pos p pT : Pos} {e : Expr} {m : ED}
theorem tyx_of {S : Addr → Prop} {H : Hp} {d : D} {v : V} {t : String} (h : tyD d = some t) (r : Rep c (hide S H) d v) : TyX c.K H v (.type t) := by
  cases d with
  | non => cases h; rw [rep_non.mp r]; exact .base .non
  | bl b => cases h; rw [rep_bl.mp r]; exact .base (.bl b)
  | int b => cases h; rw [rep_int.mp r]; exact .base (.int b)
  | str b => cases h; rw [rep_str.mp r]; exact .base (.str b)
  | tup ds =>
    cases h
    obtain ⟨a, xs, rfl, h1, _⟩ := rep_tup.mp r
    rcases h1 with (h1 | ⟨o, h1⟩) | ⟨o, its, n, h1, h2, _⟩
    · exact .base (.tup (of_hide h1).1)
    · exact .fTuple (of_hide h1).1
    · exact .kTuple h1 h2
  | lst ds =>
    cases h
    obtain ⟨a, xs, rfl, h1, _⟩ := rep_lst.mp r
    exact .base (.lst (of_hide h1).1)
  | dct ks vs =>
    cases h
    unfold Rep at r
    obtain ⟨a, xs, rfl, ⟨kvs, h1, _⟩, _⟩ := r
    exact .base (.dK (of_hide h1).1)
  | set _ => cases h
  | ins _ _ => cases h
  | scr _ => cases h
theorem de_isi {T : Str} {tn : String} (hK : X.K = c.K) (he : DE X c W O F mu e m) (hg : Gl X "isinstance") (hm : X.mg "isinstance" = none) (hgT : Gl X T) (hmT : X.mg T = none) (hbT : bootBuiltins T = some (.type tn)) (hnT : T ≠ "__name__" := by decide)
    (hdT : (T == ("__debug__" : Str)) = false := by decide)
    (hst : starEach [e, .Name T pT] X.env = (false, eval e X.env) :: starEach [.Name T pT] X.env := by rfl) (hst2 : starEach [.Name T pT] X.env = (false, eval (.Name T pT) X.env) :: starEach [] X.env := by rfl) (hpl : (backTo pos (starEach [.Name T pT] X.env)).any (·.1) = false := by rfl) :
    DE X c W O F mu (.Call (.Name "isinstance" p) [e, .Name T pT] [] pos) (mUn (isiD tn) m) := ⟨he.hF, fun G => PE.weak (pe_callB call_isi hg hm (by decide +kernel) (pa_cons (he.pe G) (pa_cons (pe_bltn hgT hmT hbT (show RelV (.ty tn) (.type tn) from rfl) hnT hdT) pa_nil hst2) hst) (by decide) (by decide) hst hpl) (by
  rintro σ H Q ⟨env, vs, h⟩
  refine ⟨env, vs, (RP.bind h).mono (fun d e1 h1 v H1 vs1 k1 r1 => ?_) fun _ _ q => q⟩
  obtain ⟨z, h2, h3⟩ := RP.ofO h1
  unfold isiD at h2
  obtain ⟨t, h4, h5⟩ := Option.bind_eq_some_iff.mp h2
  obtain ⟨b, h6, rfl⟩ := Option.map_eq_some_iff.mp h5
  exact ⟨v, .ty tn, .type t, .type tn, b, rfl, .ty tn, by rw [hK]; exact tyx_of h4 r1, kit_ty h6, h3 _ H1 vs1 k1 (rep_bl.mpr rfl)⟩)⟩
/-- a written tuple of built-in classes -/
theorem kitAny_of {K : PySem.W.Frag} {t : String} : ∀ {Ts : List String} {b : Bool}, Ts.foldr (fun T r => match kitB t T with
  | some true => some true
  | some false => r
  | none => none) (some false) = some b → PySem.W.kitAny K (.type t) (Ts.map Value.type) = some b
  | [], b, h => h
  | T :: Ts, b, h => by
    rw [List.foldr_cons] at h
    rw [List.map_cons]
    cases hk : kitB t T with
    | none => rw [hk] at h; cases h
    | some z =>
      rw [hk] at h
      cases z with
      | true =>
        cases h
        exact kitAny_cons (kit_ty hk) (fun q => by cases q) fun _ => rfl
      | false => exact kitAny_cons (kit_ty hk) (fun _ => kitAny_of h) fun q => by cases q
theorem de_isi2 {T1 T2 : Str} {t1 t2 : String} {kT : Nat} {pp p1 p2 : Pos} (hK : X.K = c.K) (he : DE X c W O F mu e m) (hg : Gl X "isinstance") (hm : X.mg "isinstance" = none) (hg1 : Gl X T1) (hm1 : X.mg T1 = none) (hb1 : bootBuiltins T1 = some (.type t1)) (hg2 : Gl X T2) (hm2 : X.mg T2 = none) (hb2 : bootBuiltins T2 = some (.type t2))
    (hn1 : T1 ≠ "__name__" := by decide) (hd1 : (T1 == ("__debug__" : Str)) = false := by decide) (hn2 : T2 ≠ "__name__" := by decide) (hd2 : (T2 == ("__debug__" : Str)) = false := by decide)
    (hst : starEach [e, .Tuple [.Name T1 p1, .Name T2 p2] kT pp] X.env = (false, eval e X.env) :: starEach [.Tuple [.Name T1 p1, .Name T2 p2] kT pp] X.env := by rfl) (hst2 : starEach [.Tuple [.Name T1 p1, .Name T2 p2] kT pp] X.env = (false, eval (.Tuple [.Name T1 p1, .Name T2 p2] kT pp) X.env) :: starEach [] X.env := by rfl)
    (hst3 : starEach [.Name T1 p1, .Name T2 p2] X.env = (false, eval (.Name T1 p1) X.env) :: starEach [.Name T2 p2] X.env := by rfl) (hst4 : starEach [.Name T2 p2] X.env = (false, eval (.Name T2 p2) X.env) :: starEach [] X.env := by rfl)
    (hpl : (backTo pos (starEach [.Tuple [.Name T1 p1, .Name T2 p2] kT pp] X.env)).any (·.1) = false := by rfl) :
    DE X c W O F mu (.Call (.Name "isinstance" p) [e, .Tuple [.Name T1 p1, .Name T2 p2] kT pp] [] pos) (mUn (isisD [t1, t2]) m) := ⟨he.hF, fun G => PE.weak (pe_callB call_isiT hg hm (by decide +kernel) (pa_cons (he.pe G) (pa_cons (pe_tup (pa_cons (pe_bltn hg1 hm1 hb1 (show RelV (.ty t1) (.type t1) from rfl) hn1 hd1) (pa_cons (pe_bltn hg2 hm2 hb2 (show RelV (.ty t2) (.type t2) from rfl) hn2 hd2) pa_nil hst4) hst3)) pa_nil hst2) hst) (by decide) (by decide) hst hpl) (by
  rintro σ H Q ⟨env, vs, h⟩
  refine ⟨env, vs, (RP.bind h).mono (fun d e1 h1 v H1 vs1 k1 r1 => ?_) fun _ _ q => q⟩
  obtain ⟨z, h2, h3⟩ := RP.ofO h1
  unfold isisD at h2
  obtain ⟨t, h4, h5⟩ := Option.bind_eq_some_iff.mp h2
  obtain ⟨b, h6, rfl⟩ := Option.map_eq_some_iff.mp h5
  refine ⟨by show 2 ≤ sizeLine; decide, fun tp htp => ?_⟩
  have s : Same H1 (upd H1 tp (.tup [V.ty t1, V.ty t2])) := same_new htp
  have r2 : Rep c (hide (VL.hs G F σ) (upd H1 tp (.tup [V.ty t1, V.ty t2]))) d v := Rep.sub (hide_mono (fun _ z => z) fun b o e _ => s b o e) _ _ r1
  exact ⟨v, tp, [.ty t1, .ty t2], .type t, [.type t1, .type t2], b, rfl, upd_same, .cons (.ty t1) (.cons (.ty t2) .nil), by rw [hK]; exact tyx_of h4 r2, kitAny_of (Ts := [t1, t2]) h6, h3 _ _ (vs1.grow s) (k1.trans (Keep.of s)) (rep_bl.mpr rfl)⟩)⟩

/-! ### is None; two comparisons in a row -/
def isNoneD : D → Bool
  | .non => true
  | _ => false
theorem rep_isN {H : Hp} {d : D} {v : V} (r : Rep c H d v) : decide (v = .non) = isNoneD d := by
  cases d with
  | non => rw [rep_non.mp r]; rfl
  | bl b => rw [rep_bl.mp r]; rfl
  | int b => rw [rep_int.mp r]; rfl
  | str b => rw [rep_str.mp r]; rfl
  | tup ds => obtain ⟨a, xs, rfl, _⟩ := rep_tup.mp r; rfl
  | lst ds => obtain ⟨a, xs, rfl, _⟩ := rep_lst.mp r; rfl
  | dct ks vs => unfold Rep at r; obtain ⟨a, xs, rfl, _⟩ := r; rfl
  | set ds => unfold Rep at r; exact r.elim
  | ins _ _ => unfold Rep at r; obtain ⟨a, dx, xs, rfl, _⟩ := r; rfl
  | scr _ => unfold Rep at r; obtain ⟨a, rfl, _⟩ := r; rfl
def mIsN (m : ED) : ED := fun env => (m env).bind fun a => .ok (.bl (isNoneD a.1), a.2)
def mNotN (m : ED) : ED := fun env => (m env).bind fun a => .ok (.bl (!isNoneD a.1), a.2)
theorem de_isN {j : Nat} {pn : Pos} (he : DE X c W O F mu e m) : DE X c W O F mu (.Compare e [.Is] [.Constant .none j pn] pos) (mIsN m) := ⟨he.hF, fun G => PE.weak (pe_cmp (pc_isN (he.pe G))) (by
  rintro σ H Q ⟨env, vs, h⟩
  refine ⟨env, vs, (RP.bind h).mono (fun d e1 h1 v H1 vs1 k1 r1 => ?_) fun _ _ q => q⟩
  exact h1 _ H1 vs1 k1 (rep_bl.mpr (by rw [rep_isN r1])))⟩
theorem de_notN {j : Nat} {pn : Pos} (he : DE X c W O F mu e m) : DE X c W O F mu (.Compare e [.IsNot] [.Constant .none j pn] pos) (mNotN m) := ⟨he.hF, fun G => PE.weak (pe_cmp (pc_notN (he.pe G))) (by
  rintro σ H Q ⟨env, vs, h⟩
  refine ⟨env, vs, (RP.bind h).mono (fun d e1 h1 v H1 vs1 k1 r1 => ?_) fun _ _ q => q⟩
  exact h1 _ H1 vs1 k1 (rep_bl.mpr (by rw [rep_isN r1])))⟩
theorem dt_isN {j : Nat} {pn : Pos} (he : DE X c W O F mu e m) : DT X c W O mu (.Compare e [.Is] [.Constant .none j pn] pos) (mTest (mIsN m)) := ⟨fun G => PT.weak (pt_cmp (pc_isN (he.pe G))) (by
  rintro σ H Q ⟨env, vs, h⟩
  have h' := RP.bind (RP.bind h)
  refine ⟨env, vs, h'.mono (fun d e1 h1 v H1 vs1 k1 r1 => ?_) fun _ _ q => q⟩
  exact ⟨_, rfl, by rw [rep_isN r1]; exact h1 H1 vs1 k1⟩)⟩
theorem dt_notN {j : Nat} {pn : Pos} (he : DE X c W O F mu e m) : DT X c W O mu (.Compare e [.IsNot] [.Constant .none j pn] pos) (mTest (mNotN m)) := ⟨fun G => PT.weak (pt_cmp (pc_notN (he.pe G))) (by
  rintro σ H Q ⟨env, vs, h⟩
  have h' := RP.bind (RP.bind h)
  refine ⟨env, vs, h'.mono (fun d e1 h1 v H1 vs1 k1 r1 => ?_) fun _ _ q => q⟩
  exact ⟨_, rfl, by rw [rep_isN r1]; exact h1 H1 vs1 k1⟩)⟩
theorem chain_weak {a b d : Expr} {ma mb mc : ED} {r r' : R2} {f f' : D → D → Option D} {W : WX} (hF : ∀ i ∈ F, i ∈ O) (hf : OpD c r f) (hf' : OpD c r' f') (hm : mu = true → ∀ i ∈ O, i ∈ F) (G : Gm) : ∀ σ H Q, dE c G W O F mu (mChain f f' ma mb mc) σ H Q → tChain r r' (dE c G W O F mu ma) (dE c G W O F mu mb) (dE c G W O F mu mc) σ H Q := by
  rintro σ H Q ⟨env, vs, h⟩
  refine ⟨env, vs, (RP.bind h).mono (fun da e1 h1 x H1 vs1 k1 r1 => ?_) (fun _ _ q => q)⟩
  refine ⟨e1, vs1, (RP.bind h1).mono (fun db e2 h2 y H2 vs2 k2 r2 => ?_) (fun _ _ q => q)⟩
  have h3 := RP.bind h2
  obtain ⟨z, hz, h4⟩ := RP.ofO h3
  refine hf _ H2 x y da db z _ (vs2.freshS hF) (Rep.sub (k2.hide hm) _ _ r1) r2 hz fun v H' s rv => ?_
  cases z <;> first | exact h4.elim | skip
  rename_i b
  have e := rep_bl.mp rv
  subst e
  refine ⟨b, rfl, ?_⟩
  have k3 := (k1.trans k2).trans (Keep.of s)
  cases b with
  | false =>
    rw [if_neg Bool.false_ne_true]
    exact h4 _ H' (vs2.grow s) k3 (rep_bl.mpr rfl)
  | true =>
    rw [if_pos rfl]
    refine ⟨e2, vs2.grow s, (RP.bind h4).mono (fun dc e3 h5 w H3 vs3 k4 r3 => ?_) (fun _ _ q => q)⟩
    obtain ⟨z', hz', h6⟩ := RP.ofO h5
    exact hf' _ H3 y w db dc z' Q (vs3.freshS hF) (Rep.sub (k4.hide hm) _ _ (Rep.sub (hide_mono (fun _ z => z) fun b o e _ => s b o e) _ _ r2)) r3 hz' fun v H4 s4 r4 => h6 v H4 (vs3.grow s4) ((k3.trans k4).trans (Keep.of s4)) r4
theorem de_chain {a b d : Expr} {ma mb mc : ED} {r r' : R2} {f f' : D → D → Option D} {op op' : CmpOp} (ho : OpR X (compareOp op) r) (ho' : OpR X (compareOp op') r') (hf : OpD c r f) (hf' : OpD c r' f') (ha : DE X c W O F mu a ma) (hb : DE X c W O F mu b mb) (hc : DE X c W O F mu d mc) (hm : mu = true → ∀ i ∈ O, i ∈ F := by decide) (hl : lastMarks [op, op'] [b, d] = false := by rfl) :
    DE X c W O F mu (.Compare a [op, op'] [b, d] pos) (mChain f f' ma mb mc) := ⟨ha.hF, fun G => PE.weak (pe_chain (hm := hl) ho ho' (ha.pe G) (hb.pe G) (hc.pe G)) (chain_weak (a := a) (b := b) (d := d) ha.hF hf hf' hm G)⟩
theorem dt_chain {a b d : Expr} {ma mb mc : ED} {r r' : R2} {f f' : D → D → Option D} {op op' : CmpOp} (ho : OpR X (compareOp op) r) (ho' : OpR X (compareOp op') r') (hf : OpD c r f) (hf' : OpD c r' f') (ha : DE X c W O F mu a ma) (hb : DE X c W O F mu b mb) (hc : DE X c W O F mu d mc) (hm : mu = true → ∀ i ∈ O, i ∈ F := by decide) (hl : lastMarks [op, op'] [b, d] = false := by rfl) :
    DT X c W O mu (.Compare a [op, op'] [b, d] pos) (mTest (mChain f f' ma mb mc)) := ⟨fun G => PT.weak (pt_chain (hm := hl) ho ho' (ha.pe G) (hb.pe G) (hc.pe G)) (by
  rintro σ H Q ⟨env, vs, h⟩
  refine chain_weak (a := a) (b := b) (d := d) ha.hF hf hf' hm G σ H _ ⟨env, vs, (RP.bind h).mono (fun z e1 h1 x H1 vs1 k1 r1 => ?_) (fun _ _ q => q)⟩
  cases z <;> first | exact h1.elim | skip
  exact ⟨_, rep_bl.mp r1, h1 H1 vs1 k1⟩)⟩

end
end VL
end

section
set_option Elab.async false
set_option linter.all false
set_option maxRecDepth 100000
set_option maxHeartbeats 4000000
namespace VL
open PySem PySem.Spec PyProof.Rows L2
/-! ### a tuple so many times: any count -/
theorem tuple_mulS (l : Addr) (parts : Array Value) (n : Nat) (dic : Option Addr) (slo : Array (Option Value)) (x : Int) (u : Tok) (kFits : (decide (x < -(2 ^ 63)) || decide (x ≥ 2 ^ 63)) = false) (kSame : (parts.isEmpty || x == 1) = true) :
    Meets (Builtin.«tuple.__mul__» ⟨[.ref l, .int x u], []⟩) (fun _ R s => s.heap.get? l = some { cls := .type "tuple", dict := dic, data := .seq parts n, slots := slo } ∧
      R (.ok (.ret (Value.ref l))) s) :=
  .of_wp fun prog w A R s h => by
    obtain ⟨heap0, g, d, toks0, outs0⟩ := s
    obtain ⟨atL, h⟩ := h
    have f1 := AutoSeq1.idx_int
    wp_walk using wpAny_loadPart' atL
    repeat (first
      | (refine wpAny_ite_false (decide_eq_false (by rw [kFits]; exact Bool.false_ne_true)) ?_; wp_walk using wpAny_loadPart' atL)
      | (refine wpAny_ite_true (decide_eq_true (by rw [kSame])) ?_; wp_walk using wpAny_loadPart' atL))
    exact ⟨_, rfl, h⟩
theorem tuple_mulZ (l : Addr) (parts : Array Value) (n : Nat) (dic : Option Addr) (slo : Array (Option Value)) (x : Int) (u : Tok) (kFits : (decide (x < -(2 ^ 63)) || decide (x ≥ 2 ^ 63)) = false) (kSame : (parts.isEmpty || x == 1) = false) (kNone : (decide (x ≤ 0) || parts.isEmpty) = true) :
    Meets (Builtin.«tuple.__mul__» ⟨[.ref l, .int x u], []⟩) (fun _ R s => s.heap.get? l = some { cls := .type "tuple", dict := dic, data := .seq parts n, slots := slo } ∧
      R (.ok (.ret (Value.ref s.heap.objs.size))) { s with heap := s.heap.push { cls := Value.type "tuple", data := Data.seq #[] }, toks := s.toks }) :=
  .of_wp fun prog w A R s h => by
    obtain ⟨heap0, g, d, toks0, outs0⟩ := s
    obtain ⟨atL, h⟩ := h
    have f1 := AutoSeq1.idx_int
    wp_walk using wpAny_loadPart' atL
    repeat (first
      | (refine wpAny_ite_false (decide_eq_false (by rw [kFits]; exact Bool.false_ne_true)) ?_; wp_walk using wpAny_loadPart' atL)
      | (refine wpAny_ite_false (decide_eq_false (by rw [kSame]; exact Bool.false_ne_true)) ?_; wp_walk using wpAny_loadPart' atL)
      | (refine wpAny_ite_true (decide_eq_true (by rw [kNone])) ?_; wp_walk using wpAny_loadPart' atL))
    exact ⟨_, rfl, h⟩
def rRepA (K : PySem.W.Frag) : R2 := fun x y H Q => ∃ l k ys, x = .ref l ∧ y = .int k ∧ SqT K H l ys ∧ -(2 ^ 63) ≤ k ∧ k < 2 ^ 63 ∧ k.toNat * ys.length ≤ sizeLine ∧
  ((ys = [] ∨ k = 1) → Q (.ref l) H) ∧ (ys ≠ [] → k ≠ 1 → ∀ p, H p = none → Q (.ref p) (upd H p (.tup (List.replicate k.toNat ys).flatten)))
section
variable {X : Cx}
theorem op_repA : OpR X (binaryOp .Mult) (rRepA X.K) := by
  intro pins s σ H x y v u Q I rx ry h
  obtain ⟨l, k, ys, rfl, rfl, tupT, lo63, hi63, zLine, q0, q⟩ := h
  cases rx
  obtain ⟨t, rfl⟩ := ry
  obtain ⟨us, r, ⟨⟨cls, dic, data, slo⟩, objT, hc, n, hd⟩, hs⟩ := I.tuple tupT
  simp only at hc hd
  subst hc hd
  have lenE : us.length = ys.length := r.length.symm
  have kFits : (decide (k < -(2 ^ 63)) || decide (k ≥ 2 ^ 63)) = false := by
    rw [decide_eq_false (by omega), decide_eq_false (by omega)] <;> rfl
  have flatU : (List.replicate k.toNat us).flatten.length ≤ sizeLine := by
    rw [PyProof.Rows.lm_len_rep_flat, lenE]
    exact zLine
  have flen' : (List.replicate k.toNat ys).flatten.length ≤ sizeLine := by
    rw [PyProof.Rows.lm_len_rep_flat]
    exact zLine
  have szU : us.toArray.size = ys.length := by rw [List.size_toArray, lenE]
  by_cases e1 : ys = [] ∨ k = 1
  · have kSame : (us.toArray.isEmpty || k == 1) = true := by
      rcases e1 with e1 | e1
      · rw [e1] at lenE
        rw [List.eq_nil_of_length_eq_zero lenE]
        rfl
      · rw [e1]
        simp
    exact wpAny_binaryOp_repeat_ref (T := "tuple") (U := "int") (by decide) ⟨_, objT, rfl⟩ (fun s' => typeIs_int s' k t) noFill_tuple_mul F.fills_int_mul F.slot_int_rmul repeat_tuple F.slot_int_index.lookup
      (call_meets F.slot_int_rmul (typeIs_int s k t) F.entry_int_rmul (F.args_int_rmul_2 _ _) (int_rmul_tuple k t l us.toArray n dic slo)
        ⟨objT, rfl, ⟨_, objT, rfl⟩, call_meets F.slot_tuple_mul ⟨_, objT, rfl⟩ F.entry_tuple_mul (F.args_tuple_mul_2 _ _) (tuple_mulS l us.toArray n dic slo k t kFits kSame) ⟨objT, ⟨.ref l, H, I, rfl, q0 e1⟩⟩⟩)
  · have hne : ys ≠ [] := fun e => e1 (.inl e)
    have hk1 : k ≠ 1 := fun e => e1 (.inr e)
    have uNil : us ≠ [] := fun e => hne (by
      rw [e] at lenE
      exact List.eq_nil_of_length_eq_zero lenE.symm)
    have uEmp : us.toArray.isEmpty = false := by
      cases us with
      | nil => exact absurd rfl uNil
      | cons a b => rfl
    have kSame : (us.toArray.isEmpty || k == 1) = false := by
      rw [uEmp, Bool.false_or]
      exact beq_eq_false_iff_ne.mpr hk1
    by_cases hk0 : k ≤ 0
    · have kNone : (decide (k ≤ 0) || us.toArray.isEmpty) = true := by rw [decide_eq_true hk0]; rfl
      refine wpAny_binaryOp_repeat_ref (T := "tuple") (U := "int") (by decide) ⟨_, objT, rfl⟩ (fun s' => typeIs_int s' k t) noFill_tuple_mul F.fills_int_mul F.slot_int_rmul repeat_tuple F.slot_int_index.lookup
        (call_meets F.slot_int_rmul (typeIs_int s k t) F.entry_int_rmul (F.args_int_rmul_2 _ _) (int_rmul_tuple k t l us.toArray n dic slo)
          ⟨objT, rfl, ⟨_, objT, rfl⟩, call_meets F.slot_tuple_mul ⟨_, objT, rfl⟩ F.entry_tuple_mul (F.args_tuple_mul_2 _ _) (tuple_mulZ l us.toArray n dic slo k t kFits kSame kNone) ⟨objT, ?_⟩⟩)
      have e0 : k.toNat = 0 := by omega
      rw [e0] at q flen'
      refine ⟨.ref s.heap.objs.size, _, I.laid (t' := s.toks) (o := .tup []) (fun b ob q => Heap.get?_push_of_some _ q) (Nat.le_refl _) ?_, rfl, q hne hk1 _ (I.hok.fresh (Nat.le_refl _))⟩
      exact ⟨by rw [sizeLine_eq]; exact Nat.zero_le _, [], .nil, IsTup.new _ _⟩
    · have kNone : (decide (k ≤ 0) || us.toArray.isEmpty) = false := by
        rw [uEmp, Bool.or_false]
        exact decide_eq_false hk0
      have kLine : ((us.toArray.size : Nat) : Int) * k ≤ sizeLine := by
        rw [szU]
        obtain ⟨m, rfl⟩ : ∃ m : Nat, k = m := ⟨k.toNat, by omega⟩
        rw [Int.toNat_natCast] at zLine
        rw [Int.mul_comm, ← Int.natCast_mul]
        exact Int.ofNat_le.mpr zLine
      have hm' := kLine
      rw [sizeLine_eq] at hm'
      have kMany : Builtin.Tuple.tupleTooMany (((us.toArray.size : Nat) : Int) * k) = false := by
        unfold Builtin.Tuple.tupleTooMany
        exact decide_eq_false (by omega)
      refine wpAny_binaryOp_repeat_ref (T := "tuple") (U := "int") (by decide) ⟨_, objT, rfl⟩ (fun s' => typeIs_int s' k t) noFill_tuple_mul F.fills_int_mul F.slot_int_rmul repeat_tuple F.slot_int_index.lookup
        (call_meets F.slot_int_rmul (typeIs_int s k t) F.entry_int_rmul (F.args_int_rmul_2 _ _) (int_rmul_tuple k t l us.toArray n dic slo)
          ⟨objT, rfl, ⟨_, objT, rfl⟩, call_meets F.slot_tuple_mul ⟨_, objT, rfl⟩ F.entry_tuple_mul (F.args_tuple_mul_2 _ _) (tuple_mulW l us.toArray n dic slo k t kFits kSame kNone (by omega) kMany (by rw [size_rep, List.size_toArray]; exact flatU)) ⟨objT, ?_⟩⟩)
      rw [size_rep]
      refine ⟨.ref s.heap.objs.size, _, I.laid (t' := s.toks) (o := .tup (List.replicate k.toNat ys).flatten) (fun b ob q => Heap.get?_push_of_some _ q) (Nat.le_refl _) ?_, rfl, q hne hk1 _ (I.hok.fresh (Nat.le_refl _))⟩
      exact ⟨flen', _, r.rep k.toNat, IsTup.new _ _⟩
variable {c : Cen}
instance (i j : Int) : Decidable (CMul i j) := by unfold CMul; infer_instance
def mulD : D → D → Option D
  | .int i, .int j => if CMulW i j ∨ CMul i j then some (.int (i * j)) else none
  | .tup ds, .int k => if -(2 ^ 63) ≤ k ∧ k < 2 ^ 63 ∧ k.toNat * ds.length ≤ sizeLine then some (.tup (List.replicate k.toNat ds).flatten) else none
  | .lst ds, .int k => if -(2 ^ 63) ≤ k ∧ k < 2 ^ 63 ∧ ds.length * k.toNat ≤ sizeLine then some (.lst (List.replicate k.toNat ds).flatten) else none
  | _, _ => none
def rMulA (K : PySem.W.Frag) : R2 := fun x y H Q => rI (fun i j => CMulW i j ∨ CMul i j) (fun i j => .int (i * j)) x y H Q ∨ rRepA K x y H Q ∨ rRep x y H Q
theorem op_mulWM : OpR X (binaryOp .Mult) (rI (fun i j => CMulW i j ∨ CMul i j) fun i j => .int (i * j)) := fun pins s σ H x y v u Q I rx ry ⟨i, j, e1, e2, h, q⟩ => h.elim (fun h => op_mulW pins s σ H x y v u Q I rx ry ⟨i, j, e1, e2, h, q⟩) fun h => op_mul pins s σ H x y v u Q I rx ry ⟨i, j, e1, e2, h, q⟩
theorem op_mulA : OpR X (binaryOp .Mult) (rMulA X.K) := op_mulWM.or (op_repA.or op_rep)
theorem rep_one_flat {α : Type} (ds : List α) : (List.replicate 1 ds).flatten = ds := by simp
theorem od_mul (hK : X.K = c.K) : OpD c (rMulA X.K) mulD := by
  intro S H x y dx dy d Q f rx ry h q
  unfold mulD at h
  split at h
  · split at h
    case isFalse => cases h
    rename_i hc
    cases h
    exact .inl ⟨_, _, rep_int.mp rx, rep_int.mp ry, hc, q _ H (fun _ _ z => z) (rep_int.mpr rfl)⟩
  · split at h
    case isFalse => cases h
    rename_i ds k hl
    cases h
    obtain ⟨a, xs, rfl, h1, h2⟩ := rep_tup.mp rx
    obtain ⟨g1, g2, g3⟩ := hl
    refine .inr (.inl ⟨a, k, xs, rfl, rep_int.mp ry, by rw [hK]; exact SqT.sub hide_sub h1, g1, g2, by rw [← h2.len]; exact g3, fun e => ?_, fun _ _ p hp => ?_⟩)
    · have e2 : (List.replicate k.toNat ds).flatten = ds := by
        rcases e with e | e
        · rw [e] at h2
          rw [List.length_eq_zero_iff.mp h2.len]
          simp
        · rw [e]
          exact rep_one_flat ds
      rw [e2] at q
      exact q _ H (fun _ _ z => z) rx
    · obtain ⟨s, r⟩ := new_tup hp f (reps_rep h2 k.toNat)
      exact q _ _ s r
  · split at h
    case isFalse => cases h
    rename_i ds k hl
    cases h
    obtain ⟨a, xs, rfl, h1, h2⟩ := rep_lst.mp rx
    obtain ⟨g1, g2, g3⟩ := hl
    refine .inr (.inr ⟨a, k, xs, rfl, rep_int.mp ry, (of_hide h1).1, g1, g2, by rw [← h2.len]; exact g3, fun p hp => ?_⟩)
    obtain ⟨s, r⟩ := new_lst hp f (reps_rep h2 k.toNat)
    exact q _ _ s r
  · cases h
end
end VL
end

section
set_option Elab.async false
set_option linter.all false
set_option maxRecDepth 100000
namespace VL
open PySem PySem.Spec PyProof.Rows L2
/-! ### zip of two lists or of two tuples -/
def mZip (ma mb : ED) : LD := fun env => (ma env).bind fun a => (mb a.2).bind fun b => match a.1, b.1 with
  | .lst xs, .lst ys => .ok ((xs.zip ys).map fun z => .tup [z.1, z.2], b.2)
  | .tup xs, .tup ys => .ok ((xs.zip ys).map fun z => .tup [z.1, z.2], b.2)
  | _, _ => .bad
section
variable {X : Cx} {c : Cen} {W : WX} {O F : List Nat} {mu : Bool} {pos p : Pos} {a b e tg : Expr} {ma mb : ED}
theorem reps_at {H : Hp} {ds : List D} {xs : List V} (r : Reps c H ds xs) {i : Nat} {d : D} (e : ds[i]? = some d) : ∃ x, xs[i]? = some x ∧ Rep c H d x := r.get e
theorem zip_at {α β : Type} : ∀ {xs : List α} {ys : List β} {i : Nat} {d : α × β}, (xs.zip ys)[i]? = some d → xs[i]? = some d.1 ∧ ys[i]? = some d.2
  | [], _, i, d, h => by cases h
  | x :: xs, [], i, d, h => by cases h
  | x :: xs, y :: ys, 0, d, h => by cases h; exact ⟨rfl, rfl⟩
  | x :: xs, y :: ys, i + 1, d, h => zip_at (xs := xs) (ys := ys) (i := i) h
theorem rep_pair {S' : Addr → Prop} {H' : Hp} {T : Addr} {x y : V} {d1 d2 : D} (hn : H' T = none) (f : ∀ p, H' p = none → ¬ S' p) (r1 : Rep c (hide S' H') d1 x) (r2 : Rep c (hide S' H') d2 y) : Rep c (hide S' (upd H' T (.tup [x, y]))) (.tup [d1, d2]) (.ref T) := (new_tup hn f (Reps.cons r1 (Reps.cons r2 Reps.nil))).2
theorem wk_zipL {S Si : Addr → Prop} {H : Hp} {a b : Addr} {xs ys : List V} {ds es : List D} (h : hide S H a = some (.lst xs)) (h' : hide S H b = some (.lst ys)) (r : Reps c (hide Si H) ds xs) (r' : Reps c (hide Si H) es ys) :
    Wk c S Si H (Itz c.K a b) ((ds.zip es).map fun z => .tup [z.1, z.2]) := fun S' H' s0 s f => by
  have hq : SqL c.K H' a xs := SqL.of (s0 _ _ h)
  have hq' : SqL c.K H' b ys := SqL.of (s0 _ _ h')
  refine ⟨fun i d e => ?_, fun i hi => ⟨xs, ys, hq, hq', ?_⟩⟩
  · rw [List.getElem?_map, Option.map_eq_some_iff] at e
    obtain ⟨⟨d1, d2⟩, e, rfl⟩ := e
    obtain ⟨z1, z2⟩ := zip_at e
    obtain ⟨x, e1, r1⟩ := r.get z1
    obtain ⟨y, e2, r2⟩ := r'.get z2
    refine ⟨⟨xs, ys, x, y, hq, hq', e1, e2⟩, fun w H'' ⟨T, x', y', g1, g2, g3, g4, g5⟩ => ?_⟩
    have e4 := g4 xs hq
    rw [e1] at e4; cases e4
    have e5 := g5 ys hq'
    rw [e2] at e5; cases e5
    subst g1 g3
    exact ⟨same_new g2, rep_pair g2 f (Rep.sub s _ _ r1) (Rep.sub s _ _ r2)⟩
  · rw [List.length_map, List.length_zip, r.len, r'.len] at hi
    omega
theorem wk_zipT {S Si : Addr → Prop} {H : Hp} {a b : Addr} {xs ys : List V} {ds es : List D} (h : SqT c.K (hide S H) a xs) (h' : SqT c.K (hide S H) b ys) (r : Reps c (hide Si H) ds xs) (r' : Reps c (hide Si H) es ys) :
    Wk c S Si H (RZ.ItzT c.K a b) ((ds.zip es).map fun z => .tup [z.1, z.2]) := fun S' H' s0 s f => by
  have hq : SqT c.K H' a xs := SqT.sub s0 h
  have hq' : SqT c.K H' b ys := SqT.sub s0 h'
  refine ⟨fun i d e => ?_, fun i hi => ⟨xs, ys, hq, hq', ?_⟩⟩
  · rw [List.getElem?_map, Option.map_eq_some_iff] at e
    obtain ⟨⟨d1, d2⟩, e, rfl⟩ := e
    obtain ⟨z1, z2⟩ := zip_at e
    obtain ⟨x, e1, r1⟩ := r.get z1
    obtain ⟨y, e2, r2⟩ := r'.get z2
    refine ⟨⟨xs, ys, x, y, hq, hq', e1, e2⟩, fun w H'' ⟨T, x', y', g1, g2, g3, g4, g5⟩ => ?_⟩
    have e4 := g4 xs hq
    rw [e1] at e4; cases e4
    have e5 := g5 ys hq'
    rw [e2] at e5; cases e5
    subst g1 g3
    exact ⟨same_new g2, rep_pair g2 f (Rep.sub s _ _ r1) (Rep.sub s _ _ r2)⟩
  · rw [List.length_map, List.length_zip, r.len, r'.len] at hi
    omega
theorem DQ.to {F' : List Nat} {mu' : Bool} {m : ED} (h : DQ X c W O F' mu' e m) (hF : ∀ i ∈ F, i ∈ F' := by decide) (hm : mu' = true → mu = true := by decide) : DQ X c W O F mu e m := ⟨fun i hi => h.hF i (hF i hi), fun G => PE.weak (h.pe G) (by
  rintro σ H Q ⟨env, vs, h⟩
  refine ⟨env, vs, h.mono (fun d e q v H' vs' k r => q v H' vs' (fun x o e n => k x o e fun z => n (hm z)) ?_) fun _ _ q => q⟩
  cases d <;> first | exact r | skip
  case lst ds =>
    obtain ⟨a, xs, e1, e2, e3⟩ := r
    exact ⟨a, xs, e1, hs_le hF _ _ e2, e3⟩
  case tup ds =>
    obtain ⟨a, xs, e1, e2, e3⟩ := r
    exact ⟨a, xs, e1, SqT.sub (hs_le hF) e2, e3⟩)⟩
theorem di_zip {elts : List Expr} {kk : Nat} {tpos : Pos} (hK : X.K = c.K) (hg : Gl X "zip") (hm : X.mg "zip" = none) (ha : DQ X c W O F mu a ma) (hb : DQ X c W O F mu b mb) (hmu : mu = true → ∀ i ∈ O, i ∈ F := by decide)
    (hs : starEach [a, b] X.env = (false, eval a X.env) :: starEach [b] X.env := by rfl) (hs2 : starEach [b] X.env = (false, eval b X.env) :: starEach [] X.env := by rfl) (hpl : (backTo pos (starEach [b] X.env)).any (·.1) = false := by rfl) :
    DI X c W O F mu (.Tuple elts kk tpos) (.Call (.Name "zip" p) [a, b] [] pos) (mZip ma mb) := ⟨ha.hF, fun G => PI.weak (RZ.pi_zipA hg hm (pa_cons (ha.pe G) (pa_cons (hb.pe G) pa_nil hs2) hs) hs hpl) (by
  rintro σ H Rk ⟨env, vs, h⟩
  refine ⟨env, vs, (RP.bind h).mono (fun da e1 h1 x H1 vs1 k1 r1 => ?_) (fun _ _ q => q)⟩
  refine ⟨e1, vs1, (RP.bind h1).mono (fun db e2 h2 y H2 vs2 k2 r2 => ?_) (fun _ _ q => q)⟩
  have k : Same (hide (VL.hs G F σ) H1) (hide (VL.hs G F σ) H2) := k2.hide hmu
  have ko : Same (hide (VL.hs G O σ) H1) (hide (VL.hs G O σ) H2) := k2.hide fun _ _ z => z
  cases da <;> cases db <;> first | exact h2.elim | skip
  case tup.tup ds es =>
    obtain ⟨a1, xs, rfl, g1, g2⟩ := r1
    obtain ⟨a2, ys, rfl, g3, g4⟩ := r2
    exact ⟨a1, a2, xs, ys, rfl, .inr ⟨by rw [hK]; exact SqT.sub hide_sub (SqT.sub k g1), by rw [hK]; exact SqT.sub hide_sub g3, by rw [hK]; exact h2 _ H2 vs2 (k1.trans k2) (wk_zipT (SqT.sub k g1) g3 (Reps.sub ko _ _ g2) g4)⟩⟩
  case lst.lst ds es =>
    obtain ⟨a1, xs, rfl, g1, g2⟩ := r1
    obtain ⟨a2, ys, rfl, g3, g4⟩ := r2
    exact ⟨a1, a2, xs, ys, rfl, .inl ⟨SqL.of (of_hide (k _ _ g1)).1, SqL.of (of_hide g3).1, by rw [hK]; exact h2 _ H2 vs2 (k1.trans k2) (wk_zipL (k _ _ g1) g3 (Reps.sub ko _ _ g2) g4)⟩⟩)⟩

/-! ### names = values, two or three plain names -/
end
def sPar (is : List Nat) (m : AD) : SD := fun env => (m env).bind fun a => R.guard (decide (is.length = a.1.length ∧ ∀ i ∈ is, i < a.2.length)) (.ok (.next, (is.zip a.1).foldl (fun e z => e.set z.1 (some z.2)) a.2))
section
variable {X : Cx} {k : Kf} {Ob O : List Nat} {mu : Bool} {pos : Pos} {m : AD}
theorem ds_par {i j : Nat} {x y : Str} {a b : Expr} {px py pt : Pos} {kt k2 pt2} (hc : X.calm = true) (hN : X.N.Nodup) (hi : X.N[i]? = some x) (hj : X.N[j]? = some y)
    (hx : X.env.scope.names.lookup x = some .local) (hy : X.env.scope.names.lookup y = some .local) (ha : DA X k.c k.W O O mu [a, b] m)
    (hw : swappedStores [.Tuple [.Name x px, .Name y py] kt pt] (.Tuple [a, b] k2 pt2) X.env = pure (some [x, y]) := by rfl)
    (hs : swapsWithSole [.Tuple [.Name x px, .Name y py] kt pt] (.Tuple [a, b] k2 pt2) pos.line X.env = pure false := by rfl)
    (hij : i ≠ j := by decide) (hio : i ∉ k.io := by (try dsimp only); decide) (hjo : j ∉ k.io := by (try dsimp only); decide) (hO : i ∉ O := by decide) (hO' : j ∉ O := by decide) (hxo : ∀ i ∈ k.Ox, i ∈ O := by (try dsimp only); decide) :
    DS X k Ob O O (.Assign [.Tuple [.Name x px, .Name y py] kt pt] (.Tuple [a, b] k2 pt2) pos) (sPar [i, j] m) := ⟨fun G g => PS.weak (ps_par hc hN hi hj hij hx hy (ha.pa G) hw hs) (by
  rintro D σ H ⟨env, vs, h⟩
  unfold sPar at h
  refine ⟨env, vs, (RP.bind h).mono (fun ds e1 q xs H1 vs1 k1 r1 => ?_) fun x e q => exK_of g hxo q⟩
  obtain ⟨hl, q⟩ := RP.guard q
  have hl := of_decide_eq_true hl
  obtain ⟨d1, d2, rfl⟩ : ∃ d1 d2, ds = [d1, d2] := by
    match ds, hl.1 with
    | [d1, d2], _ => exact ⟨d1, d2, rfl⟩
  obtain ⟨v, w, rfl, r2, r3⟩ := reps2 r1
  refine ⟨v, w, rfl, ?_⟩
  have b1 := hl.2 i (by simp)
  have b2 := hl.2 j (by simp)
  have v1 := vs1.set' hO b1 r2 (g.ne hio)
  have r3' : Rep k.c (hide (VL.hs G O (σ.set i (some v))) H1) d2 w := Rep.sub (hide_mono (fun a z => by
    rcases z with z | z
    · exact .inl z
    · refine .inr ((Wn.only (vs := [i]) ⟨by simp, fun q hq => ?_⟩ ?_).mp z)
      · rw [List.getElem?_set_ne]; intro e; exact hq (by simp [e])
      · intro q hq; rw [List.mem_singleton.mp hq]; exact hO) fun _ _ e _ => e) _ _ r3
  have v2 := v1.set' hO' (by simpa using b2) r3' (g.ne hjo)
  exact q _ H1 v2)⟩
end
end VL
end

section
set_option Elab.async false
set_option linter.all false
set_option maxRecDepth 100000
namespace VL
open PySem PySem.Spec PyProof.Rows L2
/-! ### for the printed texts -/
abbrev cen (K : PySem.W.Frag) : Cen := ⟨K, fun _ => 0, fun _ => []⟩
theorem rel_int (i : Int) (t : Tok) : RelV (.int i) (.int i t) := ⟨t, rfl⟩
section
variable {P : Program} {w : World} {K : PySem.W.Frag} {mg : Str → Option Value} {base : Heap}
theorem fnok_bad {c : Cen} {CX : CXT} {k : Nat} {f : Addr} {fd : FuncData} {ps : List Str} {io : List Nat} {rm : Bool} :
    FnOk P w K mg base CX k f fd ps (spD c io rm ps.length fun _ => .bad) := ⟨fun vs H Q E h => h.1, fun A outer s H args us vs Q E hr he hb hv hs => by
  obtain ⟨_, _, _, _, _, _, h⟩ := hs
  exact h.elim⟩
/-- the law's own promise from what its body computes -/
theorem law_sp {c : Cen} {sem : FD} {ns : List Int} {o : Env} (h : sem [.scr ns] = .ok (.bl true, o)) {H : Hp} {a : Addr} (hS : SqL c.K H a (ns.map V.int)) :
    spD c [] false 1 sem [.ref a] H (fun v _ => v = .bl true) fun _ _ _ => False := by
  refine ⟨rfl, ⟨H, [], fun _ => False⟩, [.scr ns], rfl, rfl, ⟨rfl, fun i d e _ => ?_, fun i hi => (by cases hi), fun i hi => (by cases hi), fun _ _ e _ => e, fun _ z => z.elim, fun p hp => (by cases hp)⟩, ?_⟩
  · match i, e with
    | 0, e =>
      cases e
      refine ⟨.ref a, rfl, ?_⟩
      unfold Rep
      refine ⟨a, rfl, ?_⟩
      have e1 : hide (hs ⟨H, [], fun _ => False⟩ [] ([V.ref a].map some)) H = H := funext fun b => by
        unfold hide
        rw [if_neg]
        rintro (z | ⟨i, hi, _⟩)
        · exact z
        · cases hi
      rw [e1]
      exact hS
  · rw [h]
    intro v H' _ r _
    exact rep_bl.mp (r rfl)
end
def iaddD : D → D → Option D
  | .int i, .int j => some (.int (i + j))
  | _, _ => none
theorem od_iadd {c : Cen} : OpD c (rI0 fun i j => .int (i + j)) iaddD := od_int0 fun _ _ _ => rep_int.mpr rfl
end VL
end

section
set_option Elab.async false
set_option linter.all false
set_option maxRecDepth 100000
namespace VL
open PySem PySem.Spec PyProof.Rows L2
/-! ### how the readings compute -/
section
variable {env e e1 : Env} {a b d : D} {ma mb : ED} {f g : D → D → Option D}
@[simp] theorem ev_var (i : Nat) (env : Env) : mVar i env = match env[i]? with | some (some d) => .ok (d, env) | _ => .bad := (rfl)
@[simp] theorem ev_C (d : D) (env : Env) : mC d env = .ok (d, env) := (rfl)
@[simp] theorem ev_pure (m : ED) (env : Env) : mPure m env = (m env).bind fun r => R.guard (isPure r.1) (.ok r) := (rfl)
@[simp] theorem ev_bin (f : D → D → Option D) (ma mb : ED) (env : Env) : mBin f ma mb env = (ma env).bind fun a => (mb a.2).bind fun b => R.ofO (f a.1 b.1) b.2 := (rfl)
@[simp] theorem ev_un (f : D → Option D) (ma : ED) (env : Env) : mUn f ma env = (ma env).bind fun a => R.ofO (f a.1) a.2 := (rfl)
@[simp] theorem ev_cons (m : ED) (ms : AD) (env : Env) : mCons m ms env = (m env).bind fun a => (ms a.2).bind fun r => .ok (a.1 :: r.1, r.2) := (rfl)
@[simp] theorem ev_nil (env : Env) : mNil env = .ok ([], env) := (rfl)
@[simp] theorem ev_fn (f : List D → Option D) (ms : AD) (env : Env) : mFn f ms env = (ms env).bind fun a => R.ofO (f a.1) a.2 := (rfl)
@[simp] theorem ev_tup (ms : AD) (env : Env) : mTup ms env = (ms env).bind fun a => R.guard (decide (a.1.length ≤ sizeLine)) (.ok (.tup a.1, a.2)) := (rfl)
@[simp] theorem ev_lst (ms : AD) (env : Env) : mLst ms env = (ms env).bind fun a => R.guard (decide (a.1.length ≤ sizeLine)) (.ok (.lst a.1, a.2)) := (rfl)
@[simp] theorem ev_sl (f : D → Option Int → Option Int → Option D) (ma : ED) (ml mh : Env → R (Option Int × Env)) (env : Env) : mSl f ma ml mh env = (ma env).bind fun a => (ml a.2).bind fun l => (mh l.2).bind fun h => R.ofO (f a.1 l.1 h.1) h.2 := (rfl)
@[simp] theorem ev_nopart (env : Env) : mNoPart env = .ok (none, env) := (rfl)
@[simp] theorem ev_part (m : ED) (env : Env) : mPart m env = (m env).bind fun a => match a.1 with | .int i => .ok (some i, a.2) | _ => .bad := (rfl)
@[simp] theorem ev_test (m : ED) (env : Env) : mTest m env = (m env).bind fun a => match a.1 with | .bl b => .ok (b, a.2) | _ => .bad := (rfl)
@[simp] theorem ev_and (m n : TD) (env : Env) : mAnd m n env = (m env).bind fun a => if a.1 = true then n a.2 else .ok (false, a.2) := (rfl)
@[simp] theorem ev_or (m n : TD) (env : Env) : mOr m n env = (m env).bind fun a => if a.1 = true then .ok (true, a.2) else n a.2 := (rfl)
@[simp] theorem ev_not (m : TD) (env : Env) : mNot m env = (m env).bind fun a => .ok (!a.1, a.2) := (rfl)
@[simp] theorem ev_if (t : TD) (m n : ED) (env : Env) : mIf t m n env = (t env).bind fun a => if a.1 = true then m a.2 else n a.2 := (rfl)
@[simp] theorem ev_bl (m : TD) (env : Env) : mBl m env = (m env).bind fun a => .ok (.bl a.1, a.2) := (rfl)
@[simp] theorem ev_chain (f g : D → D → Option D) (ma mb mc : ED) (env : Env) : mChain f g ma mb mc env = (ma env).bind fun a => (mb a.2).bind fun b => (R.ofO (f a.1 b.1) b.2).bind fun r => match r.1 with
  | .bl true => (mc r.2).bind fun z => R.ofO (g b.1 z.1) z.2
  | .bl false => .ok (.bl false, r.2)
  | _ => .bad := (rfl)
@[simp] theorem ev_andV (ma mb : ED) (env : Env) : mAndV ma mb env = (ma env).bind fun a => match a.1 with
  | .bl true => mb a.2
  | .bl false => .ok (.bl false, a.2)
  | _ => .bad := (rfl)
@[simp] theorem ev_orV (ma mb : ED) (env : Env) : mOrV ma mb env = (ma env).bind fun a => match a.1 with
  | .bl false => mb a.2
  | .bl true => .ok (.bl true, a.2)
  | _ => .bad := (rfl)
@[simp] theorem ev_notV (ma : ED) (env : Env) : mNotV ma env = (ma env).bind fun a => match a.1 with
  | .bl b => .ok (.bl (!b), a.2)
  | _ => .bad := (rfl)
@[simp] theorem ev_isN (m : ED) (env : Env) : mIsN m env = (m env).bind fun a => .ok (.bl (isNoneD a.1), a.2) := (rfl)
@[simp] theorem ev_notN (m : ED) (env : Env) : mNotN m env = (m env).bind fun a => .ok (.bl (!isNoneD a.1), a.2) := (rfl)
@[simp] theorem ev_next (env : Env) : sNext env = .ok (.next, env) := (rfl)
@[simp] theorem ev_seq (m n : SD) (env : Env) : sSeq m n env = (m env).bind fun r => match r.1 with
  | .next => n r.2
  | f => .ok (f, r.2) := (rfl)
@[simp] theorem ev_set (i : Nat) (m : ED) (env : Env) : sSet i m env = (m env).bind fun a => R.guard (decide (i < a.2.length)) (.ok (.next, a.2.set i (some a.1))) := (rfl)
@[simp] theorem ev_expr (m : ED) (env : Env) : sExpr m env = (m env).bind fun a => .ok (.next, a.2) := (rfl)
@[simp] theorem ev_ret (m : ED) (env : Env) : sRet m env = (m env).bind fun a => .ok (.ret a.1, a.2) := (rfl)
@[simp] theorem ev_retN (env : Env) : sRetN env = .ok (.ret .non, env) := (rfl)
@[simp] theorem ev_sIf (t : TD) (m n : SD) (env : Env) : sIf t m n env = (t env).bind fun a => if a.1 = true then m a.2 else n a.2 := (rfl)
@[simp] theorem ev_brk (env : Env) : sBrk env = .ok (.brk, env) := (rfl)
@[simp] theorem ev_cont (env : Env) : sCont env = .ok (.cont, env) := (rfl)
@[simp] theorem ev_asg (gd : GD) (m : ED) (env : Env) : sAsg gd m env = (m env).bind fun a => match gd a.1 a.2 with
  | some e => .ok (.next, e)
  | none => .bad := (rfl)
@[simp] theorem ev_aug (i : Nat) (f : D → D → Option D) (m : ED) (env : Env) : sAug i f m env = match env[i]? with
  | some (some d) => (m env).bind fun a => match f d a.1 with
    | some z => .ok (.next, a.2.set i (some z))
    | none => .bad
  | _ => .bad := (rfl)
@[simp] theorem ev_sub (i : Nat) (mv mi : ED) (env : Env) : sSub i mv mi env = (mv env).bind fun a => (mi a.2).bind fun b => match b.2[i]?, b.1 with
  | some (some (.lst ds)), .int q => match ixN ds.length q with
    | some j => .ok (.next, b.2.set i (some (.lst (ds.set j a.1))))
    | none => .bad
  | _, _ => .bad := (rfl)
@[simp] theorem ev_app (i : Nat) (m : ED) (env : Env) : mAppend i m env = match env[i]? with
  | some (some (.lst _)) => (m env).bind fun a => match a.2[i]? with
    | some (some (.lst ds)) => R.guard (decide (ds.length < sizeLine)) (.ok (.non, a.2.set i (some (.lst (ds ++ [a.1])))))
    | _ => .bad
  | _ => .bad := (rfl)
@[simp] theorem ev_par (is : List Nat) (m : AD) (env : Env) : sPar is m env = (m env).bind fun a => R.guard (decide (is.length = a.1.length ∧ ∀ i ∈ is, i < a.2.length)) (.ok (.next, (is.zip a.1).foldl (fun e z => e.set z.1 (some z.2)) a.2)) := (rfl)
@[simp] theorem ev_for (mi : LD) (gd : GD) (b : SD) (env : Env) : sFor mi gd b env = (mi env).bind fun a => forIter gd b a.1 a.2 := (rfl)
@[simp] theorem ev_mseq (m : ED) (env : Env) : mSeq m env = (m env).bind fun a => match seqOf a.1 with
  | some ds => .ok (ds, a.2)
  | none => .bad := (rfl)
@[simp] theorem ev_msrc (m : ED) (env : Env) : mSrc m env = (m env).bind fun a => R.guard (seqOf a.1).isSome (.ok a) := (rfl)
@[simp] theorem ev_range1 (m : AD) (env : Env) : mRange1 m env = (m env).bind fun a => match a.1 with
  | [.int j] => R.guard (decide (-(2 ^ 62) ≤ j ∧ j < 2 ^ 62)) (.ok ((List.range j.toNat).map (fun (i : Nat) => D.int (i : Int)), a.2))
  | _ => .bad := (rfl)
@[simp] theorem ev_range2 (m : AD) (env : Env) : mRange2 m env = (m env).bind fun a => match a.1 with
  | [.int i, .int j] => R.guard (decide (-(2 ^ 62) ≤ i ∧ i < 2 ^ 62 ∧ -(2 ^ 62) ≤ j ∧ j < 2 ^ 62)) (.ok ((List.range (j - i).toNat).map (fun (q : Nat) => D.int (i + (q : Int))), a.2))
  | _ => .bad := (rfl)
@[simp] theorem ev_zip (ma mb : ED) (env : Env) : mZip ma mb env = (ma env).bind fun a => (mb a.2).bind fun b => match a.1, b.1 with
  | .lst xs, .lst ys => .ok ((xs.zip ys).map fun z => .tup [z.1, z.2], b.2)
  | .tup xs, .tup ys => .ok ((xs.zip ys).map fun z => .tup [z.1, z.2], b.2)
  | _, _ => .bad := (rfl)
@[simp] theorem ev_lc (mi : LD) (gd : GD) (tt : TD) (me : ED) (own : List Nat) (env : Env) : mLc mi gd tt me own env = (mi env).bind fun a => R.guard (decide (a.1.length ≤ sizeLine)) (match lcIter gd tt me own a.1 (wipeE own a.2) with
  | .ok (ys, e) => .ok (.lst ys, putBack own a.2 e)
  | _ => .bad) := (rfl)
@[simp] theorem ev_yes (env : Env) : tYesD env = .ok (true, env) := (rfl)
@[simp] theorem ev_call (sem : FD) (ms : AD) (env : Env) : mCall sem ms env = (ms env).bind fun a => match sem a.1 with
  | .ok (d, _) => .ok (d, a.2)
  | .exc x _ => .exc x a.2
  | .bad => .bad := (rfl)
@[simp] theorem ev_callK (sem : FD) (ss : List Nat) (ms : KD) (env : Env) : mCallK sem ss ms env = (ms env).bind fun a => match akAll a.2 a.1 with
  | none => .bad
  | some ds => match sem ds with
    | .ok (d, outs) => .ok (d, setAll ss outs a.2)
    | .exc x outs => .exc x (setAll ss outs a.2)
    | .bad => .bad := (rfl)
@[simp] theorem ev_kNil (env : Env) : kNil env = .ok ([], env) := (rfl)
@[simp] theorem ev_kVal (m : ED) (ms : KD) (env : Env) : kVal m ms env = (m env).bind fun a => (ms a.2).bind fun r => .ok (.val a.1 :: r.1, r.2) := (rfl)
@[simp] theorem ev_kSlot (i : Nat) (ms : KD) (env : Env) : kSlot i ms env = (ms env).bind fun r => .ok (.slot i :: r.1, r.2) := (rfl)
@[simp] theorem ev_akNil (env : Env) : akAll env [] = some [] := (rfl)
@[simp] theorem ev_akCons (env : Env) (a : AK) (r : List AK) : akAll env (a :: r) = (akD env a).bind fun d => (akAll env r).bind fun ds => some (d :: ds) := (rfl)
@[simp] theorem ev_akVal (env : Env) (d : D) : akD env (.val d) = some d := (rfl)
@[simp] theorem ev_akSlot (env : Env) (i : Nat) : akD env (.slot i) = (env[i]?).getD none := (rfl)
@[simp] theorem ev_setNil (outs env : Env) : setAll [] outs env = env := by cases outs <;> rfl
@[simp] theorem ev_setCons (i : Nat) (r : List Nat) (o : Option D) (outs env : Env) : setAll (i :: r) (o :: outs) env = setAll r outs (env.set i o) := (rfl)
@[simp] theorem ev_gName (i : Nat) (d : D) (env : Env) : VL.gName i d env = if i < env.length then some (env.set i (some d)) else none := (rfl)
@[simp] theorem ev_gNil (env : Env) : VL.gNil [] env = some env := (rfl)
@[simp] theorem ev_wipeN (e : Env) : wipeE [] e = e := (rfl)
@[simp] theorem ev_wipeC (v : Nat) (vs : List Nat) (e : Env) : wipeE (v :: vs) e = (wipeE vs e).set v none := (rfl)
@[simp] theorem ev_putN (e1 e2 : Env) : putBack [] e1 e2 = e2 := (rfl)
@[simp] theorem ev_putC (v : Nat) (vs : List Nat) (e1 e2 : Env) : putBack (v :: vs) e1 e2 = (putBack vs e1 e2).set v ((e1[v]?).getD none) := (rfl)
@[simp] theorem ev_projN (e : Env) : proj [] e = [] := (rfl)
@[simp] theorem ev_projC (i : Nat) (is : List Nat) (e : Env) : proj (i :: is) e = (e[i]?).getD none :: proj is e := (rfl)
theorem ev_run (io : List Nat) (rm : Bool) (n : Nat) (body : SD) (args : List D) : runFn io rm n body args = match body (args.map some ++ List.replicate (n - args.length) none) with
  | .ok (.ret d, e) => .ok (d, proj io e)
  | .ok (.next, e) => if rm then .bad else .ok (.non, proj io e)
  | .ok _ => .bad
  | .exc x e => .exc x (proj io e)
  | .bad => .bad := (rfl)
theorem run_ret {io : List Nat} {rm : Bool} {n : Nat} {body : SD} {args : List D} {d : D} {e : Env} (h : body (args.map some ++ List.replicate (n - args.length) none) = .ok (.ret d, e)) : runFn io rm n body args = .ok (d, proj io e) := by
  rw [ev_run, h]
theorem run_next {io : List Nat} {n : Nat} {body : SD} {args : List D} {e : Env} (h : body (args.map some ++ List.replicate (n - args.length) none) = .ok (.next, e)) : runFn io false n body args = .ok (.non, proj io e) := by
  rw [ev_run, h]; rfl
theorem seq_next {m n : SD} {env e : Env} (h : m env = .ok (.next, e)) : sSeq m n env = n e := by rw [ev_seq, h]; rfl
theorem seq_ret {m n : SD} {env e : Env} {d : D} (h : m env = .ok (.ret d, e)) : sSeq m n env = .ok (.ret d, e) := by rw [ev_seq, h]; rfl
@[simp] theorem ev_add (i j : Int) : addD (.int i) (.int j) = some (.int (i + j)) := (rfl)
@[simp] theorem ev_addT (x y : List D) : addD (.tup x) (.tup y) = if x.length + y.length ≤ sizeLine then some (.tup (x ++ y)) else none := (rfl)
@[simp] theorem ev_addL (x y : List D) : addD (.lst x) (.lst y) = if x.length + y.length ≤ sizeLine then some (.lst (x ++ y)) else none := (rfl)
@[simp] theorem ev_iadd (i j : Int) : iaddD (.int i) (.int j) = some (.int (i + j)) := (rfl)
@[simp] theorem ev_subD (i j : Int) : subD (.int i) (.int j) = some (.int (i - j)) := (rfl)
theorem cmul_r {i j : Int} (h : -(2 ^ 64) < j ∧ j < 2 ^ 64) : CMulW i j ∨ CMul i j := .inr (.inr h)
theorem cmul_l {i j : Int} (h : -(2 ^ 64) < i ∧ i < 2 ^ 64) : CMulW i j ∨ CMul i j := .inr (.inl h)
theorem ev_mul (i j : Int) (h : (-(2 ^ 64) < i ∧ i < 2 ^ 64) ∨ (-(2 ^ 64) < j ∧ j < 2 ^ 64)) : mulD (.int i) (.int j) = some (.int (i * j)) := by
  unfold mulD
  exact if_pos (.inr h)
theorem ev_fdiv (i j : Int) (h : 0 < j) (h2 : j < 2 ^ 64) : fdivD (.int i) (.int j) = some (.int (i / j)) := by
  unfold fdivD
  refine if_pos ⟨h, ?_⟩
  have : j.natAbs < 2 ^ 64 := by omega
  rcases Nat.eq_zero_or_pos j.natAbs with e | e
  · rw [e]; decide
  · have := (Nat.log2_lt (by omega)).mpr this
    omega
theorem ev_mod (i j : Int) (h : 0 < j) : modD (.int i) (.int j) = some (.int (i % j)) := by
  unfold modD
  exact if_pos h
@[simp] theorem ev_neg (i : Int) : negD (.int i) = some (.int (-i)) := (rfl)
@[simp] theorem ev_lt (i j : Int) : ltD (.int i) (.int j) = some (.bl (decide (i < j))) := (rfl)
@[simp] theorem ev_le (i j : Int) : leD (.int i) (.int j) = some (.bl (decide (i ≤ j))) := (rfl)
@[simp] theorem ev_gt (i j : Int) : gtD (.int i) (.int j) = some (.bl (decide (j < i))) := (rfl)
@[simp] theorem ev_ge (i j : Int) : geD (.int i) (.int j) = some (.bl (decide (j ≤ i))) := (rfl)
@[simp] theorem ev_int (i : Int) : intD [.int i] = some (.int i) := (rfl)
@[simp] theorem ev_abs (i : Int) : absD [.int i] = some (.int (if i < 0 then -i else i)) := (rfl)
@[simp] theorem ev_lenL (ds : List D) : lenD [.lst ds] = some (.int ds.length) := (rfl)
@[simp] theorem ev_lenT (ds : List D) : lenD [.tup ds] = some (.int ds.length) := (rfl)
@[simp] theorem ev_ixL (ds : List D) (i : Int) : ixD (.lst ds) (.int i) = atI ds i := (rfl)
@[simp] theorem ev_ixT (ds : List D) (i : Int) : ixD (.tup ds) (.int i) = atI ds i := (rfl)
@[simp] theorem ev_slL (ds : List D) (lo hi : Option Int) : slD (.lst ds) lo hi = some (.lst (cutL ds lo hi)) := (rfl)
@[simp] theorem ev_slT (ds : List D) (lo hi : Option Int) : slD (.tup ds) lo hi = some (.tup (cutL ds lo hi)) := (rfl)
@[simp] theorem ev_slC (ns : List Int) (lo hi : Option Int) : slD (.scr ns) lo hi = some (.lst (cutL (ns.map D.int) lo hi)) := (rfl)
@[simp] theorem ev_tupleL (ds : List D) : tupleD [.lst ds] = some (.tup ds) := (rfl)
@[simp] theorem ev_tupleT (ds : List D) : tupleD [.tup ds] = some (.tup ds) := (rfl)
@[simp] theorem ev_listL (ds : List D) : listD [.lst ds] = some (.lst ds) := (rfl)
@[simp] theorem ev_listT (ds : List D) : listD [.tup ds] = some (.lst ds) := (rfl)
@[simp] theorem ev_isN0 : isNoneD .non = true := (rfl)
@[simp] theorem ev_isN1 (b : Bool) : isNoneD (.bl b) = false := (rfl)
@[simp] theorem ev_isN2 (b : Int) : isNoneD (.int b) = false := (rfl)
@[simp] theorem ev_isN3 (b : Str) : isNoneD (.str b) = false := (rfl)
@[simp] theorem ev_isN4 (b : List D) : isNoneD (.tup b) = false := (rfl)
@[simp] theorem ev_isN5 (b : List D) : isNoneD (.lst b) = false := (rfl)
@[simp] theorem pure_int (i : Int) : isPure (.int i) = true := by unfold isPure; rfl
@[simp] theorem pure_bl (i : Bool) : isPure (.bl i) = true := by unfold isPure; rfl
@[simp] theorem pure_non : isPure .non = true := by unfold isPure; rfl
@[simp] theorem pure_str (i : Str) : isPure (.str i) = true := by unfold isPure; rfl
@[simp] theorem pure_tup (ds : List D) : isPure (.tup ds) = arePure ds := by rw [isPure]
@[simp] theorem pures_nil : arePure [] = true := by unfold arePure; rfl
@[simp] theorem pures_cons (d : D) (ds : List D) : arePure (d :: ds) = (isPure d && arePure ds) := by rw [arePure]
theorem pures_all {ds : List D} (h : ∀ d ∈ ds, isPure d = true) : arePure ds = true := by
  induction ds with
  | nil => simp
  | cons d ds ih => rw [pures_cons, h d (by simp), ih fun d hd => h d (by simp [hd])]; rfl
/-- reading at a place -/
theorem atI_nat {α : Type} (xs : List α) (i : Nat) : atI xs (i : Int) = xs[i]? := by
  unfold atI ixN
  rw [if_pos (by omega)]
  by_cases h : i < xs.length
  · rw [if_pos (by omega)]
    show xs[(i : Int).toNat]? = _
    rw [Int.toNat_natCast]
  · rw [if_neg (by omega), List.getElem?_eq_none (by omega)]
    rfl
theorem atI_0 {α : Type} (x : α) (xs : List α) : atI (x :: xs) 0 = some x := atI_nat (x :: xs) 0
theorem atI_1 {α : Type} (x y : α) (xs : List α) : atI (x :: y :: xs) 1 = some y := atI_nat (x :: y :: xs) 1
theorem atI_2 {α : Type} (x y z : α) (xs : List α) : atI (x :: y :: z :: xs) 2 = some z := atI_nat (x :: y :: z :: xs) 2
theorem atI_3 {α : Type} (x y z u : α) (xs : List α) : atI (x :: y :: z :: u :: xs) 3 = some u := atI_nat (x :: y :: z :: u :: xs) 3
theorem atI_4 {α : Type} (x y z u v : α) (xs : List α) : atI (x :: y :: z :: u :: v :: xs) 4 = some v := atI_nat (x :: y :: z :: u :: v :: xs) 4
theorem atI_last {α : Type} (xs : List α) : atI xs (-1) = xs.getLast? := by
  unfold atI ixN
  rw [if_neg (by decide), List.getLast?_eq_getElem?]
  cases xs with
  | nil => rfl
  | cons x xs =>
    rw [if_pos (by simp [List.length_cons]; omega)]
    show (x :: xs)[((-1 : Int) + ((x :: xs).length : Nat)).toNat]? = _
    congr 1
    simp only [List.length_cons]
    omega
theorem cut_to {α : Type} (xs : List α) (n : Nat) : cutL xs none (some (n : Int)) = xs.take n := by
  unfold cutL
  rw [HT.sIx_none, HT.sIx_nat]
  simp [List.take_eq_take_iff]
theorem cut_from {α : Type} (xs : List α) (n : Nat) : cutL xs (some (n : Int)) none = xs.drop n := by
  unfold cutL
  rw [HT.sIx_none, HT.sIx_nat]
  rw [List.take_of_length_le (by rw [List.length_drop]; exact Nat.le_refl _)]
  by_cases h : n ≤ xs.length
  · rw [Nat.min_eq_left h]
  · rw [Nat.min_eq_right (by omega), List.drop_eq_nil_of_le (by omega), List.drop_eq_nil_of_le (by omega)]
theorem cut_fromto {α : Type} (xs : List α) (n m : Nat) : cutL xs (some (n : Int)) (some (m : Int)) = (xs.drop n).take (m - n) := by
  unfold cutL
  rw [HT.sIx_nat, HT.sIx_nat]
  by_cases h : n ≤ xs.length
  · rw [Nat.min_eq_left h, List.take_eq_take_iff, List.length_drop]
    by_cases h2 : m ≤ xs.length
    · rw [Nat.min_eq_left h2]
    · have e : min m xs.length = xs.length := Nat.min_eq_right (by omega)
      rw [e, Nat.min_self, Nat.min_eq_right (by omega)]
  · have e : min n xs.length = xs.length := Nat.min_eq_right (by omega)
    rw [e, List.drop_eq_nil_of_le (Nat.le_refl _), List.drop_eq_nil_of_le (by omega)]
    simp
theorem sIx_m1 (n d : Nat) : HT.sIx n d (some (-1)) = n - 1 := by
  show (if (-1 : Int) < 0 then ((-1 : Int) + (n : Int)).toNat else min (-1 : Int).toNat n) = n - 1
  rw [if_pos (by decide)]
  omega
theorem cut_init {α : Type} (xs : List α) : cutL xs none (some (-1)) = xs.dropLast := by
  unfold cutL
  rw [HT.sIx_none, sIx_m1, List.dropLast_eq_take, List.drop_zero, Nat.sub_zero]
theorem cut_lastone {α : Type} (xs : List α) (h : xs ≠ []) : cutL xs (some (-1)) none = [xs.getLast h] := by
  have hl := List.length_pos_iff.mpr h
  unfold cutL
  rw [HT.sIx_none, sIx_m1, List.take_of_length_le (by rw [List.length_drop]; exact Nat.le_refl _)]
  have e : xs = xs.dropLast ++ [xs.getLast h] := (List.dropLast_concat_getLast h).symm
  have e2 : xs.length - 1 = xs.dropLast.length := by simp
  rw [e2]
  conv => lhs; rw [e]
  simp
end
/-! ### comprehensions -/
theorem lcIter_all {gd : GD} {tt : TD} {me : ED} {own : List Nat} {P : Env → Prop} {Q : D → Prop} : ∀ {ds : List D} {env : Env}, P env →
    (∀ d ∈ ds, ∀ env, P env → ∃ e e1 y e2, gd d env = some e ∧ tt e = .ok (true, e1) ∧ me e1 = .ok (y, e2) ∧ Q y ∧ P (wipeE own e2)) →
    ∃ ys e, lcIter gd tt me own ds env = .ok (ys, e) ∧ ys.length = ds.length ∧ (∀ y ∈ ys, Q y) ∧ P e
  | [], env, h0, _ => ⟨[], env, rfl, rfl, by simp, h0⟩
  | d :: ds, env, h0, h => by
    obtain ⟨e, e1, y, e2, h1, h2, h3, h4, h5⟩ := h d (by simp) env h0
    obtain ⟨ys, e3, g1, g2, g3, g4⟩ := lcIter_all (ds := ds) h5 fun d hd => h d (by simp [hd])
    refine ⟨y :: ys, e3, ?_, by simp [g2], ?_, g4⟩
    · unfold lcIter
      simp only [h1, h2, h3, g1]
    · intro z hz
      rcases List.mem_cons.mp hz with rfl | hz
      · exact h4
      · exact g3 z hz
/-- a comprehension that leaves the frame alone -/
theorem lcIter_map {gd : GD} {tt : TD} {me : ED} {own : List Nat} {env : Env} {α : Type} {enc : α → D} {g : α → D} : ∀ {xs : List α},
    (∀ x ∈ xs, ∃ e e1 e2, gd (enc x) env = some e ∧ tt e = .ok (true, e1) ∧ me e1 = .ok (g x, e2) ∧ wipeE own e2 = env) →
    lcIter gd tt me own (xs.map enc) env = .ok (xs.map g, env)
  | [], _ => rfl
  | x :: xs, h => by
    obtain ⟨e, e1, e2, h1, h2, h3, h4⟩ := h x (by simp)
    rw [List.map_cons, List.map_cons]
    unfold lcIter
    simp only [h1, h2, h3, h4, lcIter_map (xs := xs) fun x hx => h x (by simp [hx])]
theorem forIter_nil {gd : GD} {b : SD} {env : Env} : forIter gd b [] env = .ok (.next, env) := (rfl)
theorem forIter_cons {gd : GD} {b : SD} {d : D} {ds : List D} {env e : Env} {f : Fl} {e' : Env} (h : gd d env = some e) (hb : b e = .ok (f, e')) :
    forIter gd b (d :: ds) env = match f with | .next => forIter gd b ds e' | .cont => forIter gd b ds e' | .brk => .ok (.next, e') | .ret x => .ok (.ret x, e') := by
  rw [forIter]
  simp only [h, hb, R.bind_ok]
  cases f <;> rfl
@[simp] theorem blsOf_map {α : Type} (f : α → Bool) : ∀ xs : List α, blsOf (xs.map fun x => D.bl (f x)) = some (xs.map f)
  | [] => rfl
  | x :: xs => by rw [List.map_cons, blsOf, blsOf_map f xs]; rfl
theorem blsOf_all : ∀ {ds : List D}, (∀ d ∈ ds, d = .bl true) → ∃ bs, blsOf ds = some bs ∧ bs.all id = true
  | [], _ => ⟨[], rfl, rfl⟩
  | d :: ds, h => by
    obtain ⟨bs, h1, h2⟩ := blsOf_all fun d hd => h d (List.mem_cons_of_mem _ hd)
    rw [h d (by simp)]
    exact ⟨true :: bs, by rw [blsOf, h1]; rfl, by simpa using h2⟩
theorem allD_true {ds : List D} (h : ∀ d ∈ ds, d = .bl true) : allD [.lst ds] = some (.bl true) := by
  obtain ⟨bs, h1, h2⟩ := blsOf_all h
  unfold allD
  simp only [h1, Option.map_some, h2]
/-! ### equality of plain data -/
mutual
def NB : D → Bool
  | .non | .int _ => true
  | .str x => PyData.strOk x
  | .tup ds | .lst ds => NBs ds
  | _ => false
def NBs : List D → Bool
  | [] => true
  | d :: ds => NB d && NBs ds
end
mutual
def dpD : D → Nat
  | .tup ds | .lst ds => dpDs ds + 1
  | _ => 0
def dpDs : List D → Nat
  | [] => 0
  | d :: ds => max (dpD d) (dpDs ds)
end
mutual
theorem nb_pd : ∀ d : D, NB d = true → ∃ p, toPD d = some p ∧ p.canLay0 = true ∧ p.depth = dpD d
  | .non, _ => ⟨.none, rfl, rfl, rfl⟩
  | .int i, _ => ⟨.int i, rfl, rfl, rfl⟩
  | .str x, h => ⟨.str x, rfl, by rw [PyData.canLay0]; simpa [NB] using h, by simp [PyData.depth, dpD]⟩
  | .tup ds, h => by
    obtain ⟨ps, h1, h2, h3⟩ := nb_pds ds (by simpa [NB] using h)
    exact ⟨.tuple ps, by rw [toPD, h1]; rfl, by simpa [PyData.canLay0] using h2, by simp [PyData.depth, dpD, h3]⟩
  | .lst ds, h => by
    obtain ⟨ps, h1, h2, h3⟩ := nb_pds ds (by simpa [NB] using h)
    exact ⟨.list ps, by rw [toPD, h1]; rfl, by simpa [PyData.canLay0] using h2, by simp [PyData.depth, dpD, h3]⟩
  | .bl _, h => by simp [NB] at h
  | .dct _ _, h => by simp [NB] at h
  | .set _, h => by simp [NB] at h
  | .ins _ _, h => by simp [NB] at h
  | .scr _, h => by simp [NB] at h
theorem nb_pds : ∀ ds : List D, NBs ds = true → ∃ ps, toPDs ds = some ps ∧ PyData.canLayAll0 ps = true ∧ PyData.depthAll ps = dpDs ds
  | [], _ => ⟨[], rfl, rfl, rfl⟩
  | d :: ds, h => by
    rw [NBs, Bool.and_eq_true] at h
    obtain ⟨p, h1, h2, h3⟩ := nb_pd d h.1
    obtain ⟨ps, h4, h5, h6⟩ := nb_pds ds h.2
    exact ⟨p :: ps, by rw [toPDs, h1, h4]; rfl, by simp [PyData.canLayAll0, h2, h5], by simp [PyData.depthAll, dpDs, h3, h6]⟩
end
mutual
theorem eqv_iff : ∀ (a b : D) (p q : PyData), NB a = true → NB b = true → toPD a = some p → toPD b = some q → (PyData.eqv p q = true ↔ a = b) := fun a b p q ha hb h1 h2 => by
  cases a <;> first | (simp [NB] at ha; done) | skip
  case tup xs =>
    rw [toPD] at h1
    obtain ⟨ps, h3, rfl⟩ := Option.map_eq_some_iff.mp h1
    cases b <;> first | (simp [NB] at hb; done) | (simp [toPD] at h2; subst h2; simp [PyData.eqv]; done) | skip
    · rename_i ys
      rw [toPD] at h2
      obtain ⟨qs, h4, rfl⟩ := Option.map_eq_some_iff.mp h2
      simpa [PyData.eqv] using eqvs_iff xs ys ps qs (by simpa [NB] using ha) (by simpa [NB] using hb) h3 h4
    · rw [toPD] at h2
      obtain ⟨qs, h4, rfl⟩ := Option.map_eq_some_iff.mp h2
      simp [PyData.eqv]
  case lst xs =>
    rw [toPD] at h1
    obtain ⟨ps, h3, rfl⟩ := Option.map_eq_some_iff.mp h1
    cases b <;> first | (simp [NB] at hb; done) | (simp [toPD] at h2; subst h2; simp [PyData.eqv]; done) | skip
    · rw [toPD] at h2
      obtain ⟨qs, h4, rfl⟩ := Option.map_eq_some_iff.mp h2
      simp [PyData.eqv]
    · rename_i ys
      rw [toPD] at h2
      obtain ⟨qs, h4, rfl⟩ := Option.map_eq_some_iff.mp h2
      simpa [PyData.eqv] using eqvs_iff xs ys ps qs (by simpa [NB] using ha) (by simpa [NB] using hb) h3 h4
  all_goals
    cases b <;> first
      | (simp [NB] at hb; done)
      | (simp [toPD] at h1 h2; subst h1 h2; simp [PyData.eqv]; done)
      | (rw [toPD] at h2; obtain ⟨qs, h4, rfl⟩ := Option.map_eq_some_iff.mp h2; simp [toPD] at h1; subst h1; simp [PyData.eqv]; done)
theorem eqvs_iff : ∀ (as bs : List D) (ps qs : List PyData), NBs as = true → NBs bs = true → toPDs as = some ps → toPDs bs = some qs → (PyData.eqvAll ps qs = true ↔ as = bs)
  | [], [], ps, qs, _, _, h1, h2 => by
    simp [toPDs] at h1 h2; subst h1 h2; simp [PyData.eqvAll]
  | [], b :: bs, ps, qs, _, hb, h1, h2 => by
    simp [toPDs] at h1; subst h1
    rw [toPDs] at h2
    obtain ⟨q, h3, h4⟩ := Option.bind_eq_some_iff.mp h2
    obtain ⟨r, h5, h6⟩ := Option.bind_eq_some_iff.mp h4
    cases h6
    simp [PyData.eqvAll]
  | a :: as, [], ps, qs, ha, _, h1, h2 => by
    simp [toPDs] at h2; subst h2
    rw [toPDs] at h1
    obtain ⟨q, h3, h4⟩ := Option.bind_eq_some_iff.mp h1
    obtain ⟨r, h5, h6⟩ := Option.bind_eq_some_iff.mp h4
    cases h6
    simp [PyData.eqvAll]
  | a :: as, b :: bs, ps, qs, ha, hb, h1, h2 => by
    rw [NBs, Bool.and_eq_true] at ha hb
    rw [toPDs] at h1 h2
    obtain ⟨p, h3, h4⟩ := Option.bind_eq_some_iff.mp h1
    obtain ⟨pr, h5, h6⟩ := Option.bind_eq_some_iff.mp h4
    cases h6
    obtain ⟨q, h7, h8⟩ := Option.bind_eq_some_iff.mp h2
    obtain ⟨qr, h9, h10⟩ := Option.bind_eq_some_iff.mp h8
    cases h10
    rw [PyData.eqvAll, Bool.and_eq_true, eqv_iff a b p q ha.1 hb.1 h3 h7, eqvs_iff as bs pr qr ha.2 hb.2 h5 h9]
    simp
end
theorem eqB_data {a b : D} (ha : NB a = true) (hb : NB b = true) (da : dpD a ≤ 64) (db : dpD b ≤ 64) : ∃ z, eqB a b = some z ∧ (z = true ↔ a = b) := by
  obtain ⟨p, h1, h2, h3⟩ := nb_pd a ha
  obtain ⟨q, h4, h5, h6⟩ := nb_pd b hb
  refine ⟨PyData.eqv p q, ?_, eqv_iff a b p q ha hb h1 h4⟩
  unfold eqB
  rw [h1, h4]
  simp [SeqAt.shaped, h2, h5, h3, h6, da, db]
theorem eqD_data {a b : D} (ha : NB a = true) (hb : NB b = true) (da : dpD a ≤ 64) (db : dpD b ≤ 64) : ∃ z, eqD a b = some (.bl z) ∧ (z = true ↔ a = b) := by
  obtain ⟨z, h1, h2⟩ := eqB_data ha hb da db
  exact ⟨z, by unfold eqD; rw [h1]; rfl, h2⟩
theorem neD_data {a b : D} (ha : NB a = true) (hb : NB b = true) (da : dpD a ≤ 64) (db : dpD b ≤ 64) : ∃ z, neD a b = some (.bl z) ∧ (z = true ↔ a ≠ b) := by
  obtain ⟨z, h1, h2⟩ := eqB_data ha hb da db
  refine ⟨!z, by unfold neD; rw [h1]; rfl, ?_⟩
  rw [ne_eq, ← h2]
  cases z <;> simp
@[simp] theorem eqD_int (i j : Int) : eqD (.int i) (.int j) = some (.bl (decide (i = j))) := by
  obtain ⟨z, h1, h2⟩ := eqD_data (a := .int i) (b := .int j) rfl rfl (Nat.zero_le _) (Nat.zero_le _)
  rw [h1]
  congr 2
  rw [Bool.eq_iff_iff, h2]
  simp
@[simp] theorem neD_int (i j : Int) : neD (.int i) (.int j) = some (.bl (decide (i ≠ j))) := by
  obtain ⟨z, h1, h2⟩ := neD_data (a := .int i) (b := .int j) rfl rfl (Nat.zero_le _) (Nat.zero_le _)
  rw [h1]
  congr 2
  rw [Bool.eq_iff_iff, h2]
  simp
theorem eqB_bl (i j : Bool) : eqB (.bl i) (.bl j) = some (i == j) := by cases i <;> cases j <;> rfl
@[simp] theorem eqD_bl (i j : Bool) : eqD (.bl i) (.bl j) = some (.bl (i == j)) := by unfold eqD; rw [eqB_bl]; rfl
@[simp] theorem neD_bl (i j : Bool) : neD (.bl i) (.bl j) = some (.bl (i != j)) := by unfold neD; rw [eqB_bl]; rfl
theorem nbs_ints : ∀ xs : List Int, NBs (xs.map D.int) = true ∧ dpDs (xs.map D.int) = 0
  | [] => ⟨rfl, rfl⟩
  | x :: xs => by
    obtain ⟨h1, h2⟩ := nbs_ints xs
    rw [List.map_cons, NBs, dpDs, h1, h2]
    exact ⟨rfl, rfl⟩
theorem ints_inj : ∀ {xs ys : List Int}, xs.map D.int = ys.map D.int → xs = ys
  | [], [], _ => rfl
  | [], _ :: _, h => by simp at h
  | _ :: _, [], h => by simp at h
  | x :: xs, y :: ys, h => by
    rw [List.map_cons, List.map_cons] at h
    injection h with h1 h2
    injection h1 with h1
    rw [h1, ints_inj h2]
theorem nb_row (xs : List Int) : NB (.tup (xs.map D.int)) = true ∧ dpD (.tup (xs.map D.int)) = 1 := by
  obtain ⟨h1, h2⟩ := nbs_ints xs
  rw [NB, dpD, h1, h2]
  exact ⟨rfl, rfl⟩
@[simp] theorem eqD_row (xs ys : List Int) : eqD (.tup (xs.map D.int)) (.tup (ys.map D.int)) = some (.bl (decide (xs = ys))) := by
  obtain ⟨z, h1, h2⟩ := eqD_data (nb_row xs).1 (nb_row ys).1 (by rw [(nb_row xs).2]; decide) (by rw [(nb_row ys).2]; decide)
  rw [h1]
  congr 2
  rw [Bool.eq_iff_iff, h2, decide_eq_true_iff]
  exact ⟨fun e => ints_inj (by injection e), fun e => by rw [e]⟩
@[simp] theorem neD_row (xs ys : List Int) : neD (.tup (xs.map D.int)) (.tup (ys.map D.int)) = some (.bl (decide (xs ≠ ys))) := by
  obtain ⟨z, h1, h2⟩ := neD_data (nb_row xs).1 (nb_row ys).1 (by rw [(nb_row xs).2]; decide) (by rw [(nb_row ys).2]; decide)
  rw [h1]
  congr 2
  rw [Bool.eq_iff_iff, h2, decide_eq_true_iff]
  exact not_congr ⟨fun e => ints_inj (by injection e), fun e => by rw [e]⟩
theorem sl_len {n : Nat} (h : n ≤ 16777216) : n ≤ sizeLine := by rw [sizeLine_eq]; exact h
end VL
end

section
set_option Elab.async false
set_option linter.all false
namespace VL
open PySem PySem.Spec PyProof.Rows L2
/-! ### the hand that draws -/
def HandD (h : D) : Prop := ∃ (cells : List Int) (a r s c : Int), 0 ≤ a ∧ h = .lst [.lst (cells.map .int), .int a, .int r, .int s, .int c]
theorem sz {n : Nat} (h : n ≤ 16777216 := by simp) : decide (n ≤ sizeLine) = true := decide_eq_true (sl_len h)
theorem pow18 : powD (.int 10) (.int 18) = some (.int 1000000000000000000) := by rfl
theorem ix5 (i : Nat) (h : i < 5) : ixN 5 i = some i := by unfold ixN; rw [if_pos (by omega), if_pos (by omega), Int.toNat_natCast]
theorem ix5_1 : ixN 5 1 = some 1 := ix5 1 (by decide)
theorem ix5_2 : ixN 5 2 = some 2 := ix5 2 (by decide)
theorem ix5_3 : ixN 5 3 = some 3 := ix5 3 (by decide)
theorem ix5_4 : ixN 5 4 = some 4 := ix5 4 (by decide)
theorem ev_mulM (x m y : Int) (h : 0 < m) (h2 : m < 2 ^ 64) : mulD (.int (x % m)) (.int y) = some (.int (x % m * y)) := ev_mul _ _ (.inl ⟨by have := Int.emod_nonneg x (b := m) (by omega); omega, by have := Int.emod_lt_of_pos x h; omega⟩)
theorem atI_ge {α : Type} {xs : List α} {i : Int} (h : 0 ≤ i) (h2 : i < xs.length) : ∃ x, atI xs i = some x ∧ x ∈ xs := by
  obtain ⟨n, rfl⟩ : ∃ n : Nat, i = n := ⟨i.toNat, by omega⟩
  have h3 : n < xs.length := by omega
  exact ⟨xs[n], by rw [atI_nat]; simp [h3], List.getElem_mem _⟩
theorem strOk_of (s : String) : PyData.strOk (PySem.Str.ofString s) = true := by
  unfold PyData.strOk
  rw [PySem.Str.ofString_eq_toList, Array.all_eq_true]
  intro i hi
  simp only [List.getElem_toArray, List.getElem_map, decide_eq_true_eq]
  generalize s.toList[i]'(by simpa using hi) = c
  have := c.valid
  unfold UInt32.isValidChar Nat.isValidChar at this
  show c.val.toNat < _
  omega
/-- repr of a number that is not too long -/
theorem repr_int (i : Int) (h : i.natAbs < 2 ^ 1900) : ∃ st, reprD [.int i] = some (.str st) ∧ eqD (.str st) (.str st) = some (.bl true) := by
  refine ⟨toString i, ?_, ?_⟩
  · unfold reprD
    refine if_pos ?_
    rcases Nat.eq_zero_or_pos i.natAbs with e | e
    · rw [e]; decide
    · have := (Nat.log2_lt (by omega)).mpr h
      omega
  · obtain ⟨z, a6, a7⟩ := eqD_data (a := .str (toString i)) (b := .str (toString i)) (by simpa [NB] using strOk_of _) (by simpa [NB] using strOk_of _) (Nat.zero_le _) (Nat.zero_le _)
    rw [a6, a7.mpr rfl]
/-- a draw's promise -/
def DrawOk (f : FD) : Prop := ∀ {h : D}, HandD h → ∀ {many : Int}, 0 < many → many < 2 ^ 64 → ∃ (k : Int) (h' : D), f [h, .int many] = .ok (.int k, [some h']) ∧ 0 ≤ k ∧ k < many ∧ HandD h'
theorem ints_of {p : Int → Prop} : ∀ {ys : List D}, (∀ y ∈ ys, ∃ x : Int, y = .int x ∧ p x) → ∃ xs : List Int, ys = xs.map .int ∧ ∀ x ∈ xs, p x
  | [], _ => ⟨[], rfl, by simp⟩
  | y :: ys, h => by
    obtain ⟨x, rfl, hx⟩ := h y (by simp)
    obtain ⟨xs, rfl, hxs⟩ := ints_of (ys := ys) fun y hy => h y (by simp [hy])
    exact ⟨x :: xs, rfl, by simpa using ⟨hx, hxs⟩⟩
abbrev rowD (xs : List Int) : D := .tup (xs.map .int)
theorem cut63 (ns : List Int) : ∃ ks : List Int, cutL (ns.map D.int) none (some 63) = ks.map D.int ∧ ks.length ≤ 63 :=
  ⟨ns.take 63, by rw [show (63 : Int) = ((63 : Nat) : Int) from rfl, cut_to, List.map_take], by simp; omega⟩
/-- the signs of a row -/
def Sg (s : Int) (xs : List Int) : Prop := ∀ x ∈ xs, 0 ≤ x ∧ x < s
end VL
end

section
set_option Elab.async false
namespace Wd
/-- the word of a line -/
def W (h r : List Int) (i : Nat) : Int := if i < h.length then h.getD i 0 else r.getD ((i - h.length) % r.length) 0
def isPer (r : List Int) (k : Nat) : Prop := r.length % k = 0 ∧ (List.replicate (r.length / k) (r.take k)).flatten = r
structure Canon (h r : List Int) : Prop where
  ne : r ≠ []
  prim : ∀ k, 1 ≤ k → k < r.length → ¬ isPer r k
  last : h = [] ∨ h.getLast? ≠ r.getLast?
/-- a period from n on -/
def Per (w : Nat → Int) (n k : Nat) : Prop := ∀ i, n ≤ i → w (i + k) = w i
theorem Per.mul {w : Nat → Int} {n k : Nat} (h : Per w n k) : ∀ m, Per w n (k * m)
  | 0 => fun i _ => by simp
  | m + 1 => fun i hi => by
    have e : i + k * (m + 1) = (i + k * m) + k := by rw [Nat.mul_succ]; omega
    rw [e, h _ (by omega), h.mul m i hi]
theorem Per.up {w : Nat → Int} {n m k : Nat} (h : Per w n k) (hm : n ≤ m) : Per w m k := fun i hi => h i (by omega)
theorem Per.mod {w : Nat → Int} {n a b : Nat} (ha : Per w n a) (hb : Per w n b) : Per w n (b % a) := fun i hi => by
  have e := Nat.div_add_mod b a
  have h1 := ha.mul (b / a) (i + b % a) (by omega)
  have e2 : i + b % a + a * (b / a) = i + b := by omega
  rw [e2, hb i hi] at h1
  exact h1.symm
theorem Per.gcd {w : Nat → Int} {n : Nat} : ∀ (a b : Nat), Per w n a → Per w n b → Per w n (Nat.gcd a b) := fun a b => by
  induction a, b using Nat.gcd.induction with
  | H0 b => intro _ hb; rwa [Nat.gcd_zero_left]
  | H1 a b hpos ih => intro ha hb; rw [Nat.gcd_rec]; exact ih (ha.mod hb) ha
/-- below a period the word is told by its beginning -/
theorem Per.at {w : Nat → Int} {n k : Nat} (h : Per w n k) {i : Nat} (hi : n ≤ i) : w i = w (n + (i - n) % k) := by
  have e := Nat.mod_add_div (i - n) k
  have h1 := h.mul ((i - n) / k) (n + (i - n) % k) (by omega)
  have e2 : n + (i - n) % k + k * ((i - n) / k) = i := by omega
  rw [e2] at h1
  exact h1
theorem getD_at {xs : List Int} {i : Nat} (h : i < xs.length) : xs.getD i 0 = xs[i] := by simp [h]
theorem W_head {h r : List Int} {i : Nat} (hi : i < h.length) : W h r i = h[i] := by unfold W; rw [if_pos hi, getD_at hi]
theorem W_ring {h r : List Int} {i : Nat} (hi : i < r.length) : W h r (h.length + i) = r[i] := by
  unfold W
  rw [if_neg (by omega)]
  have e : h.length + i - h.length = i := by omega
  rw [e, Nat.mod_eq_of_lt hi, getD_at hi]
theorem W_per (h r : List Int) : Per (W h r) h.length r.length := fun i hi => by
  unfold W
  rw [if_neg (by omega), if_neg (by omega)]
  have e : i + r.length - h.length = (i - h.length) + r.length := by omega
  rw [e, Nat.add_mod_right]
theorem flat_getD (xs : List Int) (m : Nat) : ∀ j, j < m * xs.length → ((List.replicate m xs).flatten).getD j 0 = xs.getD (j % xs.length) 0 := by
  induction m with
  | zero => intro j hj; simp at hj
  | succ m ih =>
    intro j hj
    rw [List.replicate_succ, List.flatten_cons]
    by_cases h : j < xs.length
    · rw [Nat.mod_eq_of_lt h, List.getD_eq_getElem?_getD, List.getElem?_append_left h, ← List.getD_eq_getElem?_getD]
    · have h2 : xs.length ≤ j := by omega
      rw [List.getD_eq_getElem?_getD, List.getElem?_append_right h2, ← List.getD_eq_getElem?_getD, ih _ (by rw [Nat.succ_mul] at hj; omega), Nat.mod_eq_sub_mod h2]
theorem flat_len (xs : List Int) (m : Nat) : ((List.replicate m xs).flatten).length = m * xs.length := by
  induction m with
  | zero => simp
  | succ m ih => rw [List.replicate_succ, List.flatten_cons, List.length_append, ih, Nat.succ_mul]; omega
theorem ext_getD {xs ys : List Int} (hl : xs.length = ys.length) (h : ∀ i, i < xs.length → xs.getD i 0 = ys.getD i 0) : xs = ys := by
  apply List.ext_getElem hl
  intro i h1 h2
  have := h i h1
  rwa [getD_at h1, getD_at h2] at this
/-- a period of the word that divides the ring makes the ring a repetition -/
theorem isPer_of {h r : List Int} {g : Nat} (hg : 1 ≤ g) (hd : g ∣ r.length) (hp : Per (W h r) h.length g) (hr : r ≠ []) : isPer r g := by
  have hpos : 0 < r.length := List.length_pos_iff.mpr hr
  have hle : g ≤ r.length := Nat.le_of_dvd hpos hd
  refine ⟨Nat.mod_eq_zero_of_dvd hd, ?_⟩
  have hlen : (r.take g).length = g := by rw [List.length_take]; omega
  have hl : ((List.replicate (r.length / g) (r.take g)).flatten).length = r.length := by
    rw [flat_len, hlen]
    exact Nat.div_mul_cancel hd
  refine ext_getD hl fun i hi => ?_
  rw [hl] at hi
  rw [flat_getD _ _ _ (by rw [hlen, Nat.div_mul_cancel hd]; exact hi), hlen]
  have hm : i % g < g := Nat.mod_lt _ (by omega)
  have e1 : (r.take g).getD (i % g) 0 = r.getD (i % g) 0 := by
    rw [List.getD_eq_getElem?_getD, List.getElem?_take_of_lt hm, ← List.getD_eq_getElem?_getD]
  rw [e1]
  have h1 := hp.at (i := h.length + i) (by omega)
  have e2 : h.length + i - h.length = i := by omega
  rw [e2, W_ring hi, W_ring (by omega)] at h1
  rw [getD_at hi, getD_at (by omega : i % g < r.length)]
  exact h1.symm
/-- THE LEAST: every way to tell a canonical line's word is as long -/
theorem least {h r : List Int} (C : Canon h r) {n k : Nat} (hk : 1 ≤ k) (hp : Per (W h r) n k) : r.length ∣ k ∧ h.length ≤ n := by
  have hpos : 0 < r.length := List.length_pos_iff.mpr C.ne
  have P := W_per h r
  have hg0 : 0 < Nat.gcd r.length k := Nat.gcd_pos_of_pos_left _ hpos
  have G : Per (W h r) (max n h.length) (Nat.gcd r.length k) := Per.gcd _ _ (P.up (by omega)) (hp.up (by omega))
  have G2 : Per (W h r) h.length (Nat.gcd r.length k) := fun i hi => by
    have hb : max n h.length ≤ r.length * max n h.length := Nat.le_mul_of_pos_left _ hpos
    have h1 := P.mul (max n h.length) (i + Nat.gcd r.length k) (by omega)
    have h2 := P.mul (max n h.length) i hi
    have h3 := G (i + r.length * max n h.length) (by omega)
    have e : i + r.length * max n h.length + Nat.gcd r.length k = i + Nat.gcd r.length k + r.length * max n h.length := by omega
    rw [← h1, ← h2, ← h3, e]
  have hd : Nat.gcd r.length k ∣ r.length := Nat.gcd_dvd_left _ _
  have hdk : r.length ∣ k := by
    have hle := Nat.le_of_dvd hpos hd
    rcases Nat.lt_or_ge (Nat.gcd r.length k) r.length with h1 | h1
    · exact absurd (isPer_of hg0 hd G2 C.ne) (C.prim _ hg0 h1)
    · have e : Nat.gcd r.length k = r.length := by omega
      rw [← e]
      exact Nat.gcd_dvd_right _ _
  refine ⟨hdk, ?_⟩
  rcases Nat.lt_or_ge n h.length with hn | hn
  · exfalso
    obtain ⟨m, hm⟩ := hdk
    have hm0 : 1 ≤ m := by
      rcases Nat.eq_zero_or_pos m with z | z
      · rw [z] at hm; omega
      · exact z
    rcases C.last with e | e
    · rw [e] at hn; simp at hn
    · apply e
      have h1 := hp (h.length - 1) (by omega)
      have h2 : W h r (h.length - 1) = h[h.length - 1] := W_head (by omega)
      have e3 : h.length - 1 + k = h.length + (r.length - 1) + r.length * (m - 1) := by
        rw [hm]
        obtain ⟨m', rfl⟩ : ∃ m', m = m' + 1 := ⟨m - 1, by omega⟩
        rw [Nat.mul_succ, Nat.add_sub_cancel]
        omega
      have h4 := P.mul (m - 1) (h.length + (r.length - 1)) (by omega)
      rw [← e3, h1, h2, W_ring (by omega)] at h4
      rw [List.getLast?_eq_getElem?, List.getLast?_eq_getElem?, List.getElem?_eq_getElem (by omega), List.getElem?_eq_getElem (by omega), h4]
  · exact hn
/-- one word, one canonical line -/
theorem uniq {h r h' r' : List Int} (C : Canon h r) (C' : Canon h' r') (e : W h r = W h' r') : h = h' ∧ r = r' := by
  have hpos : 0 < r.length := List.length_pos_iff.mpr C.ne
  have hpos' : 0 < r'.length := List.length_pos_iff.mpr C'.ne
  obtain ⟨d1, l1⟩ := least C hpos' (n := h'.length) (by rw [e]; exact W_per h' r')
  obtain ⟨d2, l2⟩ := least C' hpos (n := h.length) (by rw [← e]; exact W_per h r)
  have el : h.length = h'.length := by omega
  have er : r.length = r'.length := Nat.dvd_antisymm d1 d2
  refine ⟨List.ext_getElem el fun i h1 h2 => ?_, List.ext_getElem er fun i h1 h2 => ?_⟩
  · rw [← W_head (r := r) h1, ← W_head (r := r') h2, e]
  · rw [← W_ring (h := h) h1, ← W_ring (h := h') h2, e, el]
theorem ext_per {w w' : Nat → Int} {n k : Nat} (h : Per w n k) (h' : Per w' n k) (hk : 1 ≤ k) (e : ∀ i, i < n + k → w i = w' i) : w = w' := funext fun i => by
  rcases Nat.lt_or_ge i (n + k) with hi | hi
  · exact e i hi
  · rw [h.at (i := i) (by omega), h'.at (i := i) (by omega)]
    exact e _ (by have := Nat.mod_lt (i - n) (by omega : k > 0); omega)
theorem getD_app_l {xs ys : List Int} {i : Nat} (h : i < xs.length) : (xs ++ ys).getD i 0 = xs.getD i 0 := by
  rw [List.getD_eq_getElem?_getD, List.getElem?_append_left h, ← List.getD_eq_getElem?_getD]
theorem getD_app_r {xs ys : List Int} {i : Nat} (h : xs.length ≤ i) : (xs ++ ys).getD i 0 = ys.getD (i - xs.length) 0 := by
  rw [List.getD_eq_getElem?_getD, List.getElem?_append_right h, ← List.getD_eq_getElem?_getD]
theorem getD_take {xs : List Int} {a i : Nat} (h : i < a) : (xs.take a).getD i 0 = xs.getD i 0 := by
  rw [List.getD_eq_getElem?_getD, List.getElem?_take_of_lt h, ← List.getD_eq_getElem?_getD]
theorem getD_drop {xs : List Int} {a i : Nat} : (xs.drop a).getD i 0 = xs.getD (a + i) 0 := by
  rw [List.getD_eq_getElem?_getD, List.getElem?_drop, ← List.getD_eq_getElem?_getD]
theorem W_h {h r : List Int} {i : Nat} (hi : i < h.length) : W h r i = h.getD i 0 := by unfold W; rw [if_pos hi]
theorem W_r {h r : List Int} {i : Nat} (hi : h.length ≤ i) : W h r i = r.getD ((i - h.length) % r.length) 0 := by unfold W; rw [if_neg (by omega)]
/-- the ring turned -/
theorem W_turn {h r : List Int} {a : Nat} (ha : a ≤ r.length) (hr : r ≠ []) : W (h ++ r.take a) (r.drop a ++ r.take a) = W h r := by
  have hpos : 0 < r.length := List.length_pos_iff.mpr hr
  have l1 : (r.take a).length = a := by rw [List.length_take]; omega
  have l2 : (r.drop a).length = r.length - a := List.length_drop
  have l3 : (h ++ r.take a).length = h.length + a := by rw [List.length_append, l1]
  have l4 : (r.drop a ++ r.take a).length = r.length := by rw [List.length_append, l1, l2]; omega
  have P1 := W_per (h ++ r.take a) (r.drop a ++ r.take a)
  rw [l3, l4] at P1
  refine ext_per P1 ((W_per h r).up (by omega)) hpos fun i hi => ?_
  rcases Nat.lt_or_ge i (h.length + a) with h1 | h1
  · rw [W_h (by rw [l3]; exact h1)]
    rcases Nat.lt_or_ge i h.length with h2 | h2
    · rw [getD_app_l h2, W_h h2]
    · rw [getD_app_r h2, getD_take (by omega), W_r h2, Nat.mod_eq_of_lt (by omega)]
  · rw [W_r (by rw [l3]; exact h1), W_r (by omega), l3, l4]
    have e1 : (i - (h.length + a)) % r.length = i - (h.length + a) := Nat.mod_eq_of_lt (by omega)
    rw [e1]
    rcases Nat.lt_or_ge (i - (h.length + a)) (r.length - a) with h2 | h2
    · rw [getD_app_l (by rw [l2]; exact h2), getD_drop, Nat.mod_eq_of_lt (by omega)]
      congr 1
      omega
    · rw [getD_app_r (by rw [l2]; exact h2), getD_take (by rw [l2]; omega), l2]
      have e2 : (i - h.length) % r.length = i - h.length - r.length := by rw [Nat.mod_eq_sub_mod (by omega), Nat.mod_eq_of_lt (by omega)]
      rw [e2]
      congr 1
      omega
theorem W_on {h r : List Int} (hr : r ≠ []) : W (h ++ r) r = W h r := by
  have := W_turn (h := h) (a := r.length) (Nat.le_refl _) hr
  rw [List.take_length, List.drop_length, List.nil_append] at this
  exact this
theorem W_rep {h r : List Int} {m : Nat} (hm : 1 ≤ m) (hr : r ≠ []) : W h ((List.replicate m r).flatten) = W h r := by
  have hpos : 0 < r.length := List.length_pos_iff.mpr hr
  have hl := flat_len r m
  have P1 := W_per h ((List.replicate m r).flatten)
  rw [hl] at P1
  have P2 := (W_per h r).mul m
  rw [Nat.mul_comm] at P2
  refine ext_per P1 P2 (Nat.mul_pos hm hpos) fun i hi => ?_
  rcases Nat.lt_or_ge i h.length with h2 | h2
  · rw [W_h h2, W_h h2]
  · rw [W_r h2, W_r h2, hl, Nat.mod_eq_of_lt (by omega), flat_getD _ _ _ (by omega)]
theorem W_onrep {h r : List Int} (m : Nat) (hr : r ≠ []) : W (h ++ (List.replicate m r).flatten) r = W h r := by
  induction m generalizing h with
  | zero => simp
  | succ m ih => rw [List.replicate_succ, List.flatten_cons, ← List.append_assoc, ih, W_on hr]
theorem W_take {h r : List Int} {k : Nat} (hk : 1 ≤ k) (hl : k ≤ r.length) (p : isPer r k) : W h (r.take k) = W h r := by
  have hne : r.take k ≠ [] := by
    intro z
    have l : (r.take k).length = k := by rw [List.length_take]; omega
    rw [z] at l
    simp at l
    omega
  have := W_rep (h := h) (r := r.take k) (m := r.length / k) (Nat.div_pos hl hk) hne
  rw [p.2] at this
  exact this.symm
/-- the beginning of the word -/
theorem begun {h r : List Int} {m n : Nat} (hn : n ≤ h.length + m * r.length) : (h ++ (List.replicate m r).flatten).take n = (List.range n).map (W h r) := by
  have hl := flat_len r m
  have l1 : ((h ++ (List.replicate m r).flatten).take n).length = n := by rw [List.length_take, List.length_append, hl]; omega
  refine ext_getD (by rw [l1]; simp) fun i hi => ?_
  rw [l1] at hi
  rw [getD_take hi, getD_at (xs := (List.range n).map (W h r)) (by simpa using hi)]
  simp only [List.getElem_map, List.getElem_range]
  rcases Nat.lt_or_ge i h.length with h2 | h2
  · rw [getD_app_l h2, W_h h2]
  · rw [getD_app_r h2, W_r h2, flat_getD _ _ _ (by omega)]
theorem pre_eq {w w' : Nat → Int} {n : Nat} : (List.range n).map w = (List.range n).map w' ↔ ∀ i, i < n → w i = w' i := by
  constructor
  · intro e i hi
    have := congrArg (fun l => l.getD i 0) e
    simpa [hi] using this
  · intro e
    refine List.map_congr_left fun i hi => e i (by simpa using hi)
theorem pre_take {w : Nat → Int} {n a : Nat} (h : a ≤ n) : ((List.range n).map w).take a = (List.range a).map w := by
  rw [← List.map_take, List.take_range, Nat.min_eq_left h]
/-- words with long beginnings in common are one -/
theorem same_of_pre {h r h' r' : List Int} {n : Nat} (hr : r ≠ []) (hr' : r' ≠ []) (hn : h.length + h'.length + r.length * r'.length ≤ n) (e : ∀ i, i < n → W h r i = W h' r' i) : W h r = W h' r' := by
  have p1 := List.length_pos_iff.mpr hr
  have p2 := List.length_pos_iff.mpr hr'
  have P1 := ((W_per h r).mul r'.length).up (m := h.length + h'.length) (by omega)
  have P2 := ((W_per h' r').mul r.length).up (m := h.length + h'.length) (by omega)
  rw [Nat.mul_comm] at P2
  exact ext_per P1 P2 (Nat.mul_pos p1 p2) fun i hi => e i (by omega)
/-- no shorter way: what a canonical line's beginning says of another way -/
theorem no_shorter {h r h' r' : List Int} (C : Canon h r) {n : Nat} (hn : 2 * (h.length + r.length) ≤ n) (l1 : h'.length ≤ h.length) (l2 : r'.length ≤ r.length) (hr' : r' ≠ []) (e : ∀ i, i < n → W h' r' i = W h r i) :
    h'.length = h.length ∧ r'.length = r.length := by
  have p2 := List.length_pos_iff.mpr hr'
  have p1 := List.length_pos_iff.mpr C.ne
  have P : Per (W h r) h'.length r'.length := fun i hi => by
    rcases Nat.lt_or_ge i h.length with h1 | h1
    · rw [← e i (by omega), ← e (i + r'.length) (by omega)]
      exact W_per h' r' i hi
    · have hm := Nat.mod_lt (i - h.length) p1
      have a1 := (W_per h r).at (i := i) h1
      have a2 := (W_per h r).mul ((i - h.length) / r.length) (h.length + (i - h.length) % r.length + r'.length) (by omega)
      have e3 := Nat.mod_add_div (i - h.length) r.length
      have e4 : h.length + (i - h.length) % r.length + r'.length + r.length * ((i - h.length) / r.length) = i + r'.length := by omega
      rw [e4] at a2
      rw [a1, a2, ← e _ (by omega), ← e _ (by omega)]
      exact W_per h' r' _ (by omega)
  obtain ⟨d, hl⟩ := least C p2 P
  exact ⟨by omega, by have := Nat.le_of_dvd p2 d; omega⟩
theorem least_per (r : List Int) (hr : r ≠ []) : ∃ p, 1 ≤ p ∧ p ≤ r.length ∧ isPer r p ∧ ∀ k, 1 ≤ k → k < p → ¬ isPer r k := by
  have hpos := List.length_pos_iff.mpr hr
  have h0 : isPer r r.length := ⟨Nat.mod_self _, by rw [Nat.div_self hpos, List.take_length]; simp⟩
  have : ∀ n, n ≤ r.length → (∃ p, 1 ≤ p ∧ p ≤ n ∧ isPer r p ∧ ∀ k, 1 ≤ k → k < p → ¬ isPer r k) ∨ ∀ k, 1 ≤ k → k ≤ n → ¬ isPer r k := by
    intro n
    induction n with
    | zero => intro _; right; intro k h1 h2; omega
    | succ n ih =>
      intro hn
      rcases ih (by omega) with ⟨p, a, b, c, d⟩ | h
      · exact .inl ⟨p, a, by omega, c, d⟩
      · by_cases hp : isPer r (n + 1)
        · exact .inl ⟨n + 1, by omega, Nat.le_refl _, hp, fun k h1 h2 => h k h1 (by omega)⟩
        · right
          intro k h1 h2
          rcases Nat.lt_or_ge k (n + 1) with h3 | h3
          · exact h k h1 (by omega)
          · have : k = n + 1 := by omega
            rw [this]; exact hp
  rcases this r.length (Nat.le_refl _) with h | h
  · exact h
  · exact absurd h0 (h _ hpos (Nat.le_refl _))
/-- primitive: no shorter ring -/
def Prim (r : List Int) : Prop := ∀ k, 1 ≤ k → k < r.length → ¬ isPer r k
/-- a period of a ring's endless word from anywhere is one from everywhere -/
theorem prim_iff {r : List Int} (hr : r ≠ []) : Prim r ↔ ∀ g n, 1 ≤ g → g < r.length → g ∣ r.length → ¬ Per (W [] r) n g := by
  have hpos := List.length_pos_iff.mpr hr
  constructor
  · intro h g n h1 h2 h3 P
    refine h g h1 h2 (isPer_of (h := []) h1 h3 (fun i hi => ?_) hr)
    have Q := W_per [] r
    have hb : n ≤ r.length * n := Nat.le_mul_of_pos_left _ hpos
    have a1 := Q.mul n (i + g) (by simp)
    have a2 := Q.mul n i (by simp)
    have a3 := P (i + r.length * n) (by omega)
    have e : i + r.length * n + g = i + g + r.length * n := by omega
    rw [← a1, ← a2, ← a3, e]
  · intro h k h1 h2 p
    have hd : k ∣ r.length := Nat.dvd_of_mod_eq_zero p.1
    refine h k 0 h1 h2 hd fun i _ => ?_
    have e := W_take (h := []) h1 (by omega) p
    rw [← e]
    have l : (r.take k).length = k := by rw [List.length_take]; omega
    have := W_per [] (r.take k) i (by simp)
    rw [l] at this
    exact this
theorem prim_turn {r : List Int} {a : Nat} (ha : a ≤ r.length) (hr : r ≠ []) (h : Prim (r.drop a ++ r.take a)) : Prim r := by
  have l : (r.drop a ++ r.take a).length = r.length := by rw [List.length_append, List.length_take, List.length_drop]; omega
  have hpos := List.length_pos_iff.mpr hr
  have hne : r.drop a ++ r.take a ≠ [] := fun z => by rw [z] at l; simp at l; omega
  rw [prim_iff hne] at h
  rw [prim_iff hr]
  intro g n h1 h2 h3 P
  refine h g n h1 (by omega) (by rw [l]; exact h3) fun i hi => ?_
  have e := W_turn (h := []) (r := r) ha hr
  rw [List.nil_append] at e
  have sh : ∀ j, W (r.take a) (r.drop a ++ r.take a) (a + j) = W [] (r.drop a ++ r.take a) j := fun j => by
    have lt : (r.take a).length = a := by rw [List.length_take]; omega
    rw [W_r (by rw [lt]; omega), W_r (by simp), lt]
    simp
  rw [← sh i, ← sh (i + g), e, ← Nat.add_assoc]
  exact P (a + i) (by omega)
end Wd
end

section
set_option Elab.async false
set_option linter.all false
set_option maxRecDepth 100000
namespace VL
open PySem PySem.Spec PyProof.Rows L2
def top (i : Nat) : Stmt := PySem.Challenge.pw_rowturners_k26_lines_told_the_shortest_w.main.body.getD i (.Pass ⟨0, 0, 0, 0⟩)
noncomputable def m__law_draw : SD := (sSeq (sIf (mAnd (mTest (mBin eqD (mPure (mBin ixD (mVar 0) (mC (.int 2)))) (mC (.int 0)))) (mTest (mBin ltD (mPure (mBin ixD (mVar 0) (mC (.int 1)))) (mPure (mFn lenD (mCons (mBin ixD (mVar 0) (mC (.int 0))) mNil)))))) (sSeq (sSet 2 (mPure (mBin ixD (mBin ixD (mVar 0) (mC (.int 0))) (mBin ixD (mVar 0) (mC (.int 1)))))) (sSeq (sSub 0 (mBin addD (mPure (mBin ixD (mVar 0) (mC (.int 1)))) (mC (.int 1))) (mC (.int 1))) (sSeq (sSub 0 (mBin modD (mFn intD (mCons (mBin addD (mBin addD (mBin mulD (mPure (mBin ixD (mVar 0) (mC (.int 3)))) (mC (.int 69621))) (mVar 2)) (mC (.int 107))) mNil)) (mC (.int 2147483629))) (mC (.int 3))) (sIf (mTest (mBin geD (mVar 2) (mBin powD (mC (.int 10)) (mC (.int 18))))) (sSub 0 (mVar 2) (mC (.int 2))) sNext)))) sNext) (sSeq (sIf (mTest (mBin gtD (mPure (mBin ixD (mVar 0) (mC (.int 2)))) (mC (.int 0)))) (sSeq (sSet 3 (mBin modD (mPure (mFn intD (mCons (mBin ixD (mVar 0) (mC (.int 2))) mNil))) (mVar 1))) (sSeq (sSub 0 (mBin fdivD (mPure (mBin ixD (mVar 0) (mC (.int 2)))) (mVar 1)) (mC (.int 2))) (sRet (mVar 3)))) sNext) (sSeq (sSub 0 (mBin addD (mPure (mBin ixD (mVar 0) (mC (.int 4)))) (mC (.int 1))) (mC (.int 4))) (sSeq (sSet 4 (mBin modD (mFn intD (mCons (mBin mulD (mFn intD (mCons (mBin addD (mPure (mBin ixD (mVar 0) (mC (.int 3)))) (mBin mulD (mC (.int 7919)) (mPure (mBin ixD (mVar 0) (mC (.int 4)))))) mNil)) (mC (.int 48271))) mNil)) (mC (.int 2147483647)))) (sSeq (sSet 4 (mBin modD (mFn intD (mCons (mBin mulD (mVar 4) (mBin addD (mBin fdivD (mVar 4) (mC (.int 1009))) (mC (.int 69621)))) mNil)) (mC (.int 2147483647)))) (sSeq (sSet 4 (mBin modD (mFn intD (mCons (mBin mulD (mVar 4) (mBin addD (mBin fdivD (mVar 4) (mC (.int 2003))) (mC (.int 40692)))) mNil)) (mC (.int 2147483399)))) (sRet (mBin modD (mFn intD (mCons (mBin fdivD (mVar 4) (mC (.int 16))) mNil)) (mVar 1)))))))))
noncomputable def f__law_draw : FD := runFn [0] false 5 m__law_draw
abbrev s__law_draw : Stmt := top 18
noncomputable def m__law_hand : SD := (sSeq (sSet 1 (mLc (mSeq (mSrc (mSl slD (mVar 0) mNoPart (mPart (mC (.int 63)))))) (VL.gName 2) tYesD (mFn absD (mCons (mFn intD (mCons (mVar 2) mNil)) mNil)) [2])) (sRet (mLst (mCons (mVar 1) (mCons (mC (.int 0)) (mCons (mC (.int 0)) (mCons (mBin addD (mC (.int 131)) (mBin mulD (mC (.int 83)) (mFn lenD (mCons (mVar 1) mNil)))) (mCons (mC (.int 0)) mNil))))))))
noncomputable def f__law_hand : FD := runFn [] true 3 m__law_hand
abbrev s__law_hand : Stmt := top 17
noncomputable def f__law_is : Nat → FD
  | 0 => fun _ => .bad
  | n + 1 => runFn [] false 4 (sSeq (sIf (mTest (mUn (isisD ["tuple", "list"]) (mVar 1))) (sSeq (sIf (mOr (mTest (mBin neD (mUn (isiD "tuple") (mVar 0)) (mUn (isiD "tuple") (mVar 1)))) (mNot (mTest (mUn (isisD ["tuple", "list"]) (mVar 0))))) (sRet (mC (.bl false))) sNext) (sRet (mAndV (mBin eqD (mFn lenD (mCons (mVar 0) mNil)) (mFn lenD (mCons (mVar 1) mNil))) (mFn allD (mCons (mLc (mZip (mSrc (mVar 0)) (mSrc (mVar 1))) (VL.gTup 2 (VL.gCons (VL.gName 2) (VL.gCons (VL.gName 3) VL.gNil))) tYesD (mCall (f__law_is n) (mCons (mVar 2) (mCons (mVar 3) mNil))) [2, 3]) mNil))))) sNext) (sSeq (sIf (mOr (mTest (mIsN (mVar 1))) (mTest (mUn (isiD "bool") (mVar 1)))) (sRet (mIf (mTest (mIsN (mVar 1))) (mIsN (mVar 0)) (mAndV (mUn (isiD "bool") (mVar 0)) (mBin eqD (mFn reprD (mCons (mVar 0) mNil)) (mFn reprD (mCons (mVar 1) mNil)))))) sNext) (sSeq (sIf (mTest (mUn (isiD "str") (mVar 1))) (sRet (mAndV (mUn (isiD "str") (mVar 0)) (mBin eqD (mFn reprD (mCons (mVar 0) mNil)) (mFn reprD (mCons (mVar 1) mNil))))) sNext) (sRet (mAndV (mUn (isiD "int") (mVar 0)) (mAndV (mNotV (mUn (isiD "bool") (mVar 0))) (mBin eqD (mFn reprD (mCons (mVar 0) mNil)) (mFn reprD (mCons (mVar 1) mNil)))))))))
abbrev s__law_is : Stmt := top 19
noncomputable def m__law_begun : SD := (sSeq (sAsg (VL.gTup 2 (VL.gCons (VL.gName 2) (VL.gCons (VL.gName 3) VL.gNil))) (mVar 0)) (sRet (mSl slD (mBin addD (mVar 2) (mBin mulD (mVar 3) (mBin addD (mC (.int 1)) (mBin fdivD (mVar 1) (mFn lenD (mCons (mVar 3) mNil)))))) mNoPart (mPart (mVar 1)))))
noncomputable def f__law_begun : FD := runFn [] false 4 m__law_begun
abbrev s__law_begun : Stmt := top 22
noncomputable def m__law_drawn_row : SD := (sRet (mFn tupleD (mCons (mLc (mRange1 (mCons (mCallK f__law_draw [0] (kSlot 0 (kVal (mBin addD (mVar 2) (mC (.int 1))) kNil))) mNil)) (VL.gName 3) tYesD (mCallK f__law_draw [0] (kSlot 0 (kVal (mVar 1) kNil))) [3]) mNil)))
noncomputable def f__law_drawn_row : FD := runFn [0] false 4 m__law_drawn_row
abbrev s__law_drawn_row : Stmt := top 20
noncomputable def m__law_drawn_line : SD := (sSeq (sSet 3 (mCallK f__law_drawn_row [0] (kSlot 0 (kVal (mVar 1) (kVal (mVar 2) kNil))))) (sSeq (sSet 4 (mBin addD (mTup (mCons (mCallK f__law_draw [0] (kSlot 0 (kVal (mVar 1) kNil))) mNil)) (mCallK f__law_drawn_row [0] (kSlot 0 (kVal (mVar 1) (kVal (mVar 2) kNil)))))) (sSeq (sSet 5 (mCallK f__law_draw [0] (kSlot 0 (kVal (mC (.int 5)) kNil)))) (sSeq (sIf (mTest (mBin eqD (mVar 5) (mC (.int 0)))) (sSet 4 (mBin mulD (mVar 4) (mBin addD (mC (.int 2)) (mCallK f__law_draw [0] (kSlot 0 (kVal (mC (.int 2)) kNil)))))) (sIf (mTest (mBin eqD (mVar 5) (mC (.int 1)))) (sSeq (sSet 3 (mBin addD (mVar 3) (mSl slD (mVar 4) mNoPart (mPart (mBin addD (mC (.int 1)) (mCallK f__law_draw [0] (kSlot 0 (kVal (mFn lenD (mCons (mVar 4) mNil)) kNil)))))))) (sSet 4 (mBin addD (mSl slD (mVar 4) (mPart (mBin fdivD (mFn lenD (mCons (mVar 4) mNil)) (mC (.int 2)))) mNoPart) (mSl slD (mVar 4) mNoPart (mPart (mBin fdivD (mFn lenD (mCons (mVar 4) mNil)) (mC (.int 2)))))))) (sIf (mTest (mBin eqD (mVar 5) (mC (.int 2)))) (sSet 3 (mBin addD (mVar 3) (mBin mulD (mVar 4) (mBin addD (mC (.int 1)) (mCallK f__law_draw [0] (kSlot 0 (kVal (mC (.int 2)) kNil))))))) (sIf (mTest (mBin eqD (mVar 5) (mC (.int 3)))) (sSeq (sSet 6 (mCallK f__law_draw [0] (kSlot 0 (kVal (mFn lenD (mCons (mVar 4) mNil)) kNil)))) (sPar [3, 4] (mCons (mBin addD (mVar 3) (mSl slD (mVar 4) mNoPart (mPart (mVar 6)))) (mCons (mBin addD (mSl slD (mVar 4) (mPart (mVar 6)) mNoPart) (mSl slD (mVar 4) mNoPart (mPart (mVar 6)))) mNil)))) sNext)))) (sRet (mTup (mCons (mVar 3) (mCons (mVar 4) mNil))))))))
noncomputable def f__law_drawn_line : FD := runFn [0] false 7 m__law_drawn_line
abbrev s__law_drawn_line : Stmt := top 21
noncomputable def m__law_is_least_way : SD := (sSeq (sSet 1 (mBin addD (mBin mulD (mC (.int 2)) (mBin addD (mFn lenD (mCons (mBin ixD (mVar 0) (mC (.int 0))) mNil)) (mFn lenD (mCons (mBin ixD (mVar 0) (mC (.int 1))) mNil)))) (mC (.int 20)))) (sSeq (sSet 2 (mCall f__law_begun (mCons (mVar 0) (mCons (mVar 1) mNil)))) (sSeq (sFor (mRange1 (mCons (mBin addD (mFn lenD (mCons (mBin ixD (mVar 0) (mC (.int 0))) mNil)) (mC (.int 1))) mNil)) (VL.gName 3) (sSeq (sSet 4 (mIf (mTest (mBin eqD (mVar 3) (mFn lenD (mCons (mBin ixD (mVar 0) (mC (.int 0))) mNil)))) (mFn lenD (mCons (mBin ixD (mVar 0) (mC (.int 1))) mNil)) (mBin addD (mFn lenD (mCons (mBin ixD (mVar 0) (mC (.int 1))) mNil)) (mC (.int 1))))) (sFor (mRange2 (mCons (mC (.int 1)) (mCons (mVar 4) mNil))) (VL.gName 5) (sIf (mTest (mBin eqD (mCall f__law_begun (mCons (mTup (mCons (mSl slD (mVar 2) mNoPart (mPart (mVar 3))) (mCons (mSl slD (mVar 2) (mPart (mVar 3)) (mPart (mBin addD (mVar 3) (mVar 5)))) mNil))) (mCons (mVar 1) mNil))) (mVar 2))) (sRet (mC (.bl false))) sNext)))) (sRet (mC (.bl true))))))
noncomputable def f__law_is_least_way : FD := runFn [] false 6 m__law_is_least_way
abbrev s__law_is_least_way : Stmt := top 24
noncomputable def m__law_shortest : SD := (sSeq (sAsg (VL.gTup 2 (VL.gCons (VL.gName 1) (VL.gCons (VL.gName 2) VL.gNil))) (mVar 0)) (sSeq (sFor (mRange2 (mCons (mC (.int 1)) (mCons (mBin addD (mFn lenD (mCons (mVar 2) mNil)) (mC (.int 1))) mNil))) (VL.gName 3) (sIf (mTest (mBin eqD (mBin mulD (mSl slD (mVar 2) mNoPart (mPart (mVar 3))) (mBin fdivD (mFn lenD (mCons (mVar 2) mNil)) (mVar 3))) (mVar 2))) (sSeq (sSet 2 (mSl slD (mVar 2) mNoPart (mPart (mVar 3)))) sBrk) sNext)) (sSeq (sWhile (mAnd (mTest (mBin gtD (mFn lenD (mCons (mVar 1) mNil)) (mC (.int 0)))) (mTest (mBin eqD (mBin ixD (mVar 1) (mUn negD (mC (.int 1)))) (mBin ixD (mVar 2) (mUn negD (mC (.int 1))))))) (sPar [1, 2] (mCons (mSl slD (mVar 1) mNoPart (mPart (mUn negD (mC (.int 1))))) (mCons (mBin addD (mSl slD (mVar 2) (mPart (mUn negD (mC (.int 1)))) mNoPart) (mSl slD (mVar 2) mNoPart (mPart (mUn negD (mC (.int 1)))))) mNil)))) (sRet (mTup (mCons (mVar 1) (mCons (mVar 2) mNil)))))))
noncomputable def f__law_shortest : FD := runFn [] false 4 m__law_shortest
abbrev s__law_shortest : Stmt := top 23
noncomputable def m_is_whole : SD := (sRet (mAndV (mUn (isiD "int") (mVar 0)) (mNotV (mUn (isiD "bool") (mVar 0)))))
noncomputable def f_is_whole : FD := runFn [] false 1 m_is_whole
abbrev s_is_whole : Stmt := top 7
noncomputable def m_is_within : SD := (sRet (mAndV (mCall f_is_whole (mCons (mVar 0) mNil)) (mChain leD leD (mVar 1) (mVar 0) (mVar 2))))
noncomputable def f_is_within : FD := runFn [] false 3 m_is_within
abbrev s_is_within : Stmt := top 8
noncomputable def m_is_row : SD := (sRet (mAndV (mUn (isiD "tuple") (mVar 1)) (mFn allD (mCons (mLc (mSeq (mSrc (mVar 1))) (VL.gName 2) tYesD (mCall f_is_within (mCons (mVar 2) (mCons (mC (.int 0)) (mCons (mBin subD (mVar 0) (mC (.int 1))) mNil)))) [2]) mNil))))
noncomputable def f_is_row : FD := runFn [] false 3 m_is_row
abbrev s_is_row : Stmt := top 9
noncomputable def m_is_line : SD := (sSeq (sIf (mOr (mNot (mTest (mUn (isiD "tuple") (mVar 1)))) (mOr (mTest (mBin neD (mFn lenD (mCons (mVar 1) mNil)) (mC (.int 2)))) (mNot (mTest (mFn allD (mCons (mLc (mSeq (mSrc (mVar 1))) (VL.gName 2) tYesD (mCall f_is_row (mCons (mVar 0) (mCons (mVar 2) mNil))) [2]) mNil)))))) (sRet (mC (.bl false))) sNext) (sRet (mBin gtD (mFn lenD (mCons (mBin ixD (mVar 1) (mC (.int 1))) mNil)) (mC (.int 0)))))
noncomputable def f_is_line : FD := runFn [] false 3 m_is_line
abbrev s_is_line : Stmt := top 11
noncomputable def m_check_line : SD := (sIf (mNot (mTest (mCall f_is_line (mCons (mVar 0) (mCons (mVar 1) mNil))))) sBad sNext)
noncomputable def f_check_line : FD := runFn [] false 2 m_check_line
abbrev s_check_line : Stmt := top 12
noncomputable def m_check_signs : SD := (sIf (mNot (mTest (mCall f_is_within (mCons (mVar 0) (mCons (mC (.int 2)) (mCons (mC (.int 4)) mNil)))))) sBad sNext)
noncomputable def f_check_signs : FD := runFn [] false 1 m_check_signs
abbrev s_check_signs : Stmt := top 13
noncomputable def m_plain_pair : SD := (sSeq (sSet 2 (mC (.int 1))) (sSeq (sWhile (mOr (mTest (mBin gtD (mBin modD (mFn lenD (mCons (mVar 1) mNil)) (mVar 2)) (mC (.int 0)))) (mTest (mBin neD (mBin mulD (mSl slD (mVar 1) mNoPart (mPart (mVar 2))) (mBin fdivD (mFn lenD (mCons (mVar 1) mNil)) (mVar 2))) (mVar 1)))) (sAug 2 iaddD (mC (.int 1)))) (sSeq (sSet 1 (mSl slD (mVar 1) mNoPart (mPart (mVar 2)))) (sSeq (sWhile (mAnd (mTest (mBin gtD (mFn lenD (mCons (mVar 0) mNil)) (mC (.int 0)))) (mTest (mBin eqD (mBin ixD (mVar 0) (mUn negD (mC (.int 1)))) (mBin ixD (mVar 1) (mUn negD (mC (.int 1))))))) (sSeq (sSet 1 (mBin addD (mSl slD (mVar 1) (mPart (mUn negD (mC (.int 1)))) mNoPart) (mSl slD (mVar 1) mNoPart (mPart (mUn negD (mC (.int 1))))))) (sSet 0 (mSl slD (mVar 0) mNoPart (mPart (mUn negD (mC (.int 1)))))))) (sRet (mTup (mCons (mVar 0) (mCons (mVar 1) mNil))))))))
noncomputable def f_plain_pair : FD := runFn [] false 3 m_plain_pair
abbrev s_plain_pair : Stmt := top 14
noncomputable def m_plain : SD := (sSeq (sExpr (mCall f_check_signs (mCons (mVar 0) mNil))) (sSeq (sExpr (mCall f_check_line (mCons (mVar 0) (mCons (mVar 1) mNil)))) (sRet (mCall f_plain_pair (mCons (mBin ixD (mVar 1) (mC (.int 0))) (mCons (mBin ixD (mVar 1) (mC (.int 1))) mNil))))))
noncomputable def f_plain : FD := runFn [] false 2 m_plain
abbrev s_plain : Stmt := top 15
noncomputable def m__law_is_right : SD := (sSeq (sPar [2, 3] (mCons (mCallK f__law_drawn_line [0] (kSlot 0 (kVal (mVar 1) (kVal (mC (.int 8)) kNil)))) (mCons (mCallK f__law_drawn_line [0] (kSlot 0 (kVal (mVar 1) (kVal (mC (.int 3)) kNil)))) mNil))) (sSeq (sAsg (VL.gTup 2 (VL.gCons (VL.gName 4) (VL.gCons (VL.gName 5) VL.gNil))) (mTup (mCons (mCall f_plain (mCons (mVar 1) (mCons (mVar 2) mNil))) (mCons (mCall f_plain (mCons (mVar 1) (mCons (mVar 3) mNil))) mNil)))) (sSeq (sIf (mNot (mTest (mCall (f__law_is 8) (mCons (mLst (mCons (mVar 4) (mCons (mVar 5) mNil))) (mCons (mLst (mCons (mCall f__law_shortest (mCons (mVar 2) mNil)) (mCons (mCall f__law_shortest (mCons (mVar 3) mNil)) mNil))) mNil))))) (sRet (mC (.bl false))) sNext) (sSeq (sSet 6 (mBin addD (mBin mulD (mC (.int 2)) (mBin addD (mBin addD (mBin addD (mFn lenD (mCons (mBin ixD (mVar 2) (mC (.int 0))) mNil)) (mFn lenD (mCons (mBin ixD (mVar 2) (mC (.int 1))) mNil))) (mFn lenD (mCons (mBin ixD (mVar 3) (mC (.int 0))) mNil))) (mFn lenD (mCons (mBin ixD (mVar 3) (mC (.int 1))) mNil)))) (mC (.int 20)))) (sSeq (sIf (mOr (mTest (mBin neD (mCall f__law_begun (mCons (mVar 2) (mCons (mVar 6) mNil))) (mCall f__law_begun (mCons (mVar 4) (mCons (mVar 6) mNil))))) (mNot (mTest (mCall f__law_is_least_way (mCons (mVar 4) mNil))))) (sRet (mC (.bl false))) sNext) (sSeq (sSet 7 (mBin addD (mBin addD (mBin addD (mFn lenD (mCons (mBin ixD (mVar 2) (mC (.int 0))) mNil)) (mFn lenD (mCons (mBin ixD (mVar 3) (mC (.int 0))) mNil))) (mBin mulD (mFn lenD (mCons (mBin ixD (mVar 2) (mC (.int 1))) mNil)) (mFn lenD (mCons (mBin ixD (mVar 3) (mC (.int 1))) mNil)))) (mC (.int 2)))) (sSeq (sIf (mTest (mBin neD (mBin eqD (mVar 4) (mVar 5)) (mBin eqD (mCall f__law_begun (mCons (mVar 2) (mCons (mVar 7) mNil))) (mCall f__law_begun (mCons (mVar 3) (mCons (mVar 7) mNil)))))) (sRet (mC (.bl false))) sNext) (sSeq (sAsg (VL.gTup 2 (VL.gCons (VL.gName 8) (VL.gCons (VL.gName 9) VL.gNil))) (mVar 2)) (sSeq (sSet 10 (mLst (mCons (mTup (mCons (mBin addD (mVar 8) (mVar 9)) (mCons (mVar 9) mNil))) (mCons (mTup (mCons (mVar 8) (mCons (mBin addD (mVar 9) (mVar 9)) mNil))) (mCons (mTup (mCons (mBin addD (mVar 8) (mSl slD (mVar 9) mNoPart (mPart (mC (.int 1))))) (mCons (mBin addD (mSl slD (mVar 9) (mPart (mC (.int 1))) mNoPart) (mSl slD (mVar 9) mNoPart (mPart (mC (.int 1))))) mNil))) (mCons (mVar 4) mNil)))))) (sRet (mFn allD (mCons (mLc (mSeq (mSrc (mVar 10))) (VL.gName 11) tYesD (mCall (f__law_is 8) (mCons (mCall f_plain (mCons (mVar 1) (mCons (mVar 11) mNil))) (mCons (mVar 4) mNil))) [11]) mNil))))))))))))
noncomputable def f__law_is_right : FD := runFn [0] false 12 m__law_is_right
abbrev s__law_is_right : Stmt := top 25
noncomputable def m_law : SD := (sSeq (sSet 1 (mCall f__law_hand (mCons (mVar 0) mNil))) (sSeq (sSet 2 (mLst (mCons (mCall f_plain (mCons (mC (.int 2)) (mCons (mTup (mCons (mTup (mCons (mC (.int 0)) (mCons (mC (.int 1)) mNil))) (mCons (mTup (mCons (mC (.int 0)) (mCons (mC (.int 1)) mNil))) mNil))) mNil))) (mCons (mCall f_plain (mCons (mC (.int 2)) (mCons (mTup (mCons (mTup (mCons (mC (.int 1)) mNil)) (mCons (mTup (mCons (mC (.int 1)) (mCons (mC (.int 1)) mNil))) mNil))) mNil))) mNil)))) (sSeq (sSet 2 (mBin addD (mVar 2) (mLst (mCons (mCall f_plain (mCons (mC (.int 3)) (mCons (mTup (mCons (mTup (mCons (mC (.int 2)) (mCons (mC (.int 0)) mNil))) (mCons (mTup (mCons (mC (.int 1)) (mCons (mC (.int 0)) mNil))) mNil))) mNil))) (mCons (mCall f_plain (mCons (mC (.int 4)) (mCons (mTup (mCons (mTup mNil) (mCons (mTup (mCons (mC (.int 3)) mNil)) mNil))) mNil))) mNil))))) (sSeq (sIf (mNot (mTest (mCall (f__law_is 8) (mCons (mVar 2) (mCons (mLst (mCons (mTup (mCons (mTup mNil) (mCons (mTup (mCons (mC (.int 0)) (mCons (mC (.int 1)) mNil))) mNil))) (mCons (mTup (mCons (mTup mNil) (mCons (mTup (mCons (mC (.int 1)) mNil)) mNil))) (mCons (mTup (mCons (mTup (mCons (mC (.int 2)) mNil)) (mCons (mTup (mCons (mC (.int 0)) (mCons (mC (.int 1)) mNil))) mNil))) (mCons (mTup (mCons (mTup mNil) (mCons (mTup (mCons (mC (.int 3)) mNil)) mNil))) mNil))))) mNil))))) (sRet (mC (.bl false))) sNext) (sRet (mFn allD (mCons (mLc (mRange1 (mCons (mC (.int 8)) mNil)) (VL.gName 3) tYesD (mCallK f__law_is_right [1] (kSlot 1 (kVal (mBin addD (mC (.int 2)) (mCallK f__law_draw [1] (kSlot 1 (kVal (mC (.int 3)) kNil)))) kNil))) [3]) mNil)))))))
noncomputable def f_law : FD := runFn [] false 4 m_law
abbrev s_law : Stmt := top 26
structure Tx (K : PySem.W.Frag) (mg : Str → Option Value) where
  a__law_draw : Addr
  d__law_draw : FuncData
  F__law_draw : Fun K "_law_draw" "_law_draw" s__law_draw a__law_draw d__law_draw
  b__law_draw : Binds K d__law_draw ["hand", "many"] []
  g__law_draw : mg "_law_draw" = some (.ref a__law_draw)
  k__law_draw : PySem.W.keepIn K (.ref a__law_draw) = true
  a__law_hand : Addr
  d__law_hand : FuncData
  F__law_hand : Fun K "_law_hand" "_law_hand" s__law_hand a__law_hand d__law_hand
  b__law_hand : Binds K d__law_hand ["script"] []
  g__law_hand : mg "_law_hand" = some (.ref a__law_hand)
  k__law_hand : PySem.W.keepIn K (.ref a__law_hand) = true
  a__law_is : Addr
  d__law_is : FuncData
  F__law_is : Fun K "_law_is" "_law_is" s__law_is a__law_is d__law_is
  b__law_is : Binds K d__law_is ["got", "due"] []
  g__law_is : mg "_law_is" = some (.ref a__law_is)
  k__law_is : PySem.W.keepIn K (.ref a__law_is) = true
  a__law_begun : Addr
  d__law_begun : FuncData
  F__law_begun : Fun K "_law_begun" "_law_begun" s__law_begun a__law_begun d__law_begun
  b__law_begun : Binds K d__law_begun ["line", "many"] []
  g__law_begun : mg "_law_begun" = some (.ref a__law_begun)
  k__law_begun : PySem.W.keepIn K (.ref a__law_begun) = true
  a__law_drawn_row : Addr
  d__law_drawn_row : FuncData
  F__law_drawn_row : Fun K "_law_drawn_row" "_law_drawn_row" s__law_drawn_row a__law_drawn_row d__law_drawn_row
  b__law_drawn_row : Binds K d__law_drawn_row ["hand", "signs", "most"] []
  g__law_drawn_row : mg "_law_drawn_row" = some (.ref a__law_drawn_row)
  k__law_drawn_row : PySem.W.keepIn K (.ref a__law_drawn_row) = true
  a__law_drawn_line : Addr
  d__law_drawn_line : FuncData
  F__law_drawn_line : Fun K "_law_drawn_line" "_law_drawn_line" s__law_drawn_line a__law_drawn_line d__law_drawn_line
  b__law_drawn_line : Binds K d__law_drawn_line ["hand", "signs", "most"] []
  g__law_drawn_line : mg "_law_drawn_line" = some (.ref a__law_drawn_line)
  k__law_drawn_line : PySem.W.keepIn K (.ref a__law_drawn_line) = true
  a__law_is_least_way : Addr
  d__law_is_least_way : FuncData
  F__law_is_least_way : Fun K "_law_is_least_way" "_law_is_least_way" s__law_is_least_way a__law_is_least_way d__law_is_least_way
  b__law_is_least_way : Binds K d__law_is_least_way ["line"] []
  g__law_is_least_way : mg "_law_is_least_way" = some (.ref a__law_is_least_way)
  k__law_is_least_way : PySem.W.keepIn K (.ref a__law_is_least_way) = true
  a__law_shortest : Addr
  d__law_shortest : FuncData
  F__law_shortest : Fun K "_law_shortest" "_law_shortest" s__law_shortest a__law_shortest d__law_shortest
  b__law_shortest : Binds K d__law_shortest ["line"] []
  g__law_shortest : mg "_law_shortest" = some (.ref a__law_shortest)
  k__law_shortest : PySem.W.keepIn K (.ref a__law_shortest) = true
  a_is_whole : Addr
  d_is_whole : FuncData
  F_is_whole : Fun K "is_whole" "is_whole" s_is_whole a_is_whole d_is_whole
  b_is_whole : Binds K d_is_whole ["thing"] []
  g_is_whole : mg "is_whole" = some (.ref a_is_whole)
  k_is_whole : PySem.W.keepIn K (.ref a_is_whole) = true
  a_is_within : Addr
  d_is_within : FuncData
  F_is_within : Fun K "is_within" "is_within" s_is_within a_is_within d_is_within
  b_is_within : Binds K d_is_within ["thing", "low", "high"] []
  g_is_within : mg "is_within" = some (.ref a_is_within)
  k_is_within : PySem.W.keepIn K (.ref a_is_within) = true
  a_is_row : Addr
  d_is_row : FuncData
  F_is_row : Fun K "is_row" "is_row" s_is_row a_is_row d_is_row
  b_is_row : Binds K d_is_row ["signs", "thing"] []
  g_is_row : mg "is_row" = some (.ref a_is_row)
  k_is_row : PySem.W.keepIn K (.ref a_is_row) = true
  a_is_line : Addr
  d_is_line : FuncData
  F_is_line : Fun K "is_line" "is_line" s_is_line a_is_line d_is_line
  b_is_line : Binds K d_is_line ["signs", "thing"] []
  g_is_line : mg "is_line" = some (.ref a_is_line)
  k_is_line : PySem.W.keepIn K (.ref a_is_line) = true
  a_check_line : Addr
  d_check_line : FuncData
  F_check_line : Fun K "check_line" "check_line" s_check_line a_check_line d_check_line
  b_check_line : Binds K d_check_line ["signs", "line"] []
  g_check_line : mg "check_line" = some (.ref a_check_line)
  k_check_line : PySem.W.keepIn K (.ref a_check_line) = true
  a_check_signs : Addr
  d_check_signs : FuncData
  F_check_signs : Fun K "check_signs" "check_signs" s_check_signs a_check_signs d_check_signs
  b_check_signs : Binds K d_check_signs ["signs"] []
  g_check_signs : mg "check_signs" = some (.ref a_check_signs)
  k_check_signs : PySem.W.keepIn K (.ref a_check_signs) = true
  a_plain_pair : Addr
  d_plain_pair : FuncData
  F_plain_pair : Fun K "plain_pair" "plain_pair" s_plain_pair a_plain_pair d_plain_pair
  b_plain_pair : Binds K d_plain_pair ["head", "ring"] []
  g_plain_pair : mg "plain_pair" = some (.ref a_plain_pair)
  k_plain_pair : PySem.W.keepIn K (.ref a_plain_pair) = true
  a_plain : Addr
  d_plain : FuncData
  F_plain : Fun K "plain" "plain" s_plain a_plain d_plain
  b_plain : Binds K d_plain ["signs", "line"] []
  g_plain : mg "plain" = some (.ref a_plain)
  k_plain : PySem.W.keepIn K (.ref a_plain) = true
  a__law_is_right : Addr
  d__law_is_right : FuncData
  F__law_is_right : Fun K "_law_is_right" "_law_is_right" s__law_is_right a__law_is_right d__law_is_right
  b__law_is_right : Binds K d__law_is_right ["hand", "signs"] []
  g__law_is_right : mg "_law_is_right" = some (.ref a__law_is_right)
  k__law_is_right : PySem.W.keepIn K (.ref a__law_is_right) = true
  a_law : Addr
  d_law : FuncData
  F_law : Fun K "law" "law" s_law a_law d_law
  b_law : Binds K d_law ["script"] []
  g_law : mg "law" = some (.ref a_law)
  k_law : PySem.W.keepIn K (.ref a_law) = true
  t_LEAST_SIGNS : Tok
  v_LEAST_SIGNS : mg "LEAST_SIGNS" = some (.int 2 t_LEAST_SIGNS)
  t_MOST_SIGNS : Tok
  v_MOST_SIGNS : mg "MOST_SIGNS" = some (.int 4 t_MOST_SIGNS)
  n_abs : mg "abs" = none
  n_all : mg "all" = none
  n_bool : mg "bool" = none
  n_int : mg "int" = none
  n_isinstance : mg "isinstance" = none
  n_len : mg "len" = none
  n_list : mg "list" = none
  n_range : mg "range" = none
  n_repr : mg "repr" = none
  n_str : mg "str" = none
  n_tuple : mg "tuple" = none
  n_zip : mg "zip" = none
section
variable {P : Program} {w : World} {K : PySem.W.Frag} {mg : Str → Option Value} {base : Heap}
theorem sc__law_draw : FnScope ["hand", "many", "cell", "digit", "number"] ["hand", "many"] (defScope s__law_draw) := ⟨rfl, rfl, rfl, by decide +kernel, rfl, by decide +kernel, by decide +kernel⟩
theorem ok__law_draw (T : Tx K mg) : FnOk P w K mg base (L2.CX P w) 1 T.a__law_draw T.d__law_draw ["hand", "many"] (spD (cen K) [0] false 2 f__law_draw) :=
  fn_ok T.F__law_draw sc__law_draw (fun z => by cases z) (by decide) (O' := [0]) (fun cdv A outer s H E hr =>
    
    (dss_cons (ds_if (mu := false) (DWt.dt (dw_and (dt_cmp (F := [0]) (op_eqD hr.units) (od_eq rfl) (de_pure (de_ix ix_seq (od_ix rfl) (de_var 0) de_int (fun _ _ => rfl))) de_int (nobehind _ (by decide) (by decide))) (dw_and1 (dt_cmp (F := [0]) op_lt (od_lt) (de_pure (de_ix ix_seq (od_ix rfl) (de_var 0) de_int (fun _ _ => rfl))) (de_pure (de_fnB call_lenA (cd_len rfl) rfl T.n_len rfl (da_cons (de_ix ix_seq (od_ix rfl) (de_var 0) de_int (fun _ _ => rfl)) da_nil))) (nobehind _ (by decide) (by decide)))))) 
    (dss_cons (ds_set (i := 2) (mu := false) sc__law_draw.nd rfl (Or.inl rfl) (de_pure (de_ix ix_seq (od_ix rfl) (de_ix ix_seq (od_ix rfl) (de_var 0) de_int (fun _ _ => rfl)) (de_ix ix_seq (od_ix rfl) (de_var 0) de_int (fun _ _ => rfl)) (fun _ _ => rfl)))) 
    (dss_cons (ds_sub (mu := false) (pe_var (i := 0) rfl (by first | exact Or.inl rfl | exact Or.inr (Or.inl rfl) | exact Or.inr (Or.inr rfl)) (by decide) (by decide)) (de_bin op_addA (od_add rfl) (de_pure (de_ix ix_seq (od_ix rfl) (de_var 0) de_int (fun _ _ => rfl))) de_int) de_int) 
    (dss_cons (ds_sub (mu := false) (pe_var (i := 0) rfl (by first | exact Or.inl rfl | exact Or.inr (Or.inl rfl) | exact Or.inr (Or.inr rfl)) (by decide) (by decide)) (de_bin op_mod (od_mod) (de_fnT call_int1 (cd_int) rfl T.n_int rfl (da_cons (de_bin op_addA (od_add rfl) (de_bin op_addA (od_add rfl) (de_bin op_mulA (od_mul rfl) (de_pure (de_ix ix_seq (od_ix rfl) (de_var 0) de_int (fun _ _ => rfl))) de_int) (de_var 2)) de_int) da_nil)) de_int) de_int) (dss_one (ds_if (mu := false) (dt_cmp (F := [0]) op_ge (od_ge) (de_var 2) (de_bin op_pow (od_pow) de_int de_int) (nobehind _ (by decide) (by decide))) (dss_one (ds_sub (mu := false) (pe_var (i := 0) rfl (by first | exact Or.inl rfl | exact Or.inr (Or.inl rfl) | exact Or.inr (Or.inr rfl)) (by decide) (by decide)) (de_var 2) de_int)) dss_nil))))) dss_nil) 
    (dss_cons (ds_if (mu := false) (dt_cmp (F := [0]) op_gt (od_gt) (de_pure (de_ix ix_seq (od_ix rfl) (de_var 0) de_int (fun _ _ => rfl))) de_int (nobehind _ (by decide) (by decide))) 
    (dss_cons (ds_set (i := 3) (mu := false) sc__law_draw.nd rfl (Or.inl rfl) (de_bin op_mod (od_mod) (de_pure (de_fnT call_int1 (cd_int) rfl T.n_int rfl (da_cons (de_ix ix_seq (od_ix rfl) (de_var 0) de_int (fun _ _ => rfl)) da_nil))) (de_var 1))) 
    (dss_cons (ds_sub (mu := false) (pe_var (i := 0) rfl (by first | exact Or.inl rfl | exact Or.inr (Or.inl rfl) | exact Or.inr (Or.inr rfl)) (by decide) (by decide)) (de_bin op_fdivW (od_fdiv) (de_pure (de_ix ix_seq (od_ix rfl) (de_var 0) de_int (fun _ _ => rfl))) (de_var 1)) de_int) (dss_one (ds_ret (F := [0]) (mu := false) (de_var 3))))) dss_nil) 
    (dss_cons (ds_sub (mu := false) (pe_var (i := 0) rfl (by first | exact Or.inl rfl | exact Or.inr (Or.inl rfl) | exact Or.inr (Or.inr rfl)) (by decide) (by decide)) (de_bin op_addA (od_add rfl) (de_pure (de_ix ix_seq (od_ix rfl) (de_var 0) de_int (fun _ _ => rfl))) de_int) de_int) 
    (dss_cons (ds_set (i := 4) (mu := false) sc__law_draw.nd rfl (Or.inl rfl) (de_bin op_mod (od_mod) (de_fnT call_int1 (cd_int) rfl T.n_int rfl (da_cons (de_bin op_mulA (od_mul rfl) (de_fnT call_int1 (cd_int) rfl T.n_int rfl (da_cons (de_bin op_addA (od_add rfl) (de_pure (de_ix ix_seq (od_ix rfl) (de_var 0) de_int (fun _ _ => rfl))) (de_bin op_mulA (od_mul rfl) de_int (de_pure (de_ix ix_seq (od_ix rfl) (de_var 0) de_int (fun _ _ => rfl))))) da_nil)) de_int) da_nil)) de_int)) 
    (dss_cons (ds_set (i := 4) (mu := false) sc__law_draw.nd rfl (Or.inl rfl) (de_bin op_mod (od_mod) (de_fnT call_int1 (cd_int) rfl T.n_int rfl (da_cons (de_bin op_mulA (od_mul rfl) (de_var 4) (de_bin op_addA (od_add rfl) (de_bin op_fdivW (od_fdiv) (de_var 4) de_int) de_int)) da_nil)) de_int)) 
    (dss_cons (ds_set (i := 4) (mu := false) sc__law_draw.nd rfl (Or.inl rfl) (de_bin op_mod (od_mod) (de_fnT call_int1 (cd_int) rfl T.n_int rfl (da_cons (de_bin op_mulA (od_mul rfl) (de_var 4) (de_bin op_addA (od_add rfl) (de_bin op_fdivW (od_fdiv) (de_var 4) de_int) de_int)) da_nil)) de_int)) (dss_one (ds_ret (F := [0]) (mu := false) (de_bin op_mod (od_mod) (de_fnT call_int1 (cd_int) rfl T.n_int rfl (da_cons (de_bin op_fdivW (od_fdiv) (de_var 4) de_int) da_nil)) (de_var 1)))))))))))
theorem sc__law_hand : FnScope ["script", "cells", "cell"] ["script"] (defScope s__law_hand) := ⟨rfl, rfl, rfl, by decide +kernel, rfl, by decide +kernel, by decide +kernel⟩
theorem ok__law_hand (T : Tx K mg) : FnOk P w K mg base (L2.CX P w) 1 T.a__law_hand T.d__law_hand ["script"] (spD (cen K) [] true 1 f__law_hand) :=
  fn_ok T.F__law_hand sc__law_hand (fun _ => (noNext_seq noNext_ret)) (by decide) (O' := []) (fun cdv A outer s H E hr =>
    
    (dss_cons (DS.drop (O' := [1]) (O'' := []) (ds_setLc (i := 1) (mu := false) (F1 := []) (ownN := [("cell", 2)]) rfl sc__law_hand.nd rfl rfl rfl (di_seq rfl (dq_of (de_slice sl_all (sd_all rfl) (de_var 0) do_none (do_some de_int)))) (blkOk_by (by show blkC ["script", "cells", "cell"] (defScope s__law_hand) _ _ = true; decide +kernel)) (fun _ _ _ _ _ => (dg_name (i := 2) sc__law_hand.nd rfl (Or.inl rfl))) (fun _ _ _ _ _ => dts_nil) (fun _ _ _ _ _ => (de_fnB call_abs (cd_abs) rfl T.n_abs rfl (da_cons (de_fnT call_int1 (cd_int) rfl T.n_int rfl (da_cons (de_var 2) da_nil)) da_nil))))) (dss_one (ds_retO (F := []) (mu := false) (do_lst (da_cons (de_var 1) (da_cons de_int (da_cons de_int (da_cons (de_bin op_addA (od_add rfl) de_int (de_bin op_mulA (od_mul rfl) de_int (de_fnB call_lenA (cd_len rfl) rfl T.n_len rfl (da_cons (de_var 1) da_nil)))) (da_cons de_int da_nil))))))))))
theorem sc__law_is : FnScope ["got", "due", "one", "other"] ["got", "due"] (defScope s__law_is) := ⟨rfl, rfl, rfl, by decide +kernel, rfl, by decide +kernel, by decide +kernel⟩
theorem ok__law_is (T : Tx K mg) : ∀ n : Nat, FnOk P w K mg base (L2.CX P w) (0 + n) T.a__law_is T.d__law_is ["got", "due"] (spD (cen K) [] false 2 (f__law_is n))
  | 0 => fnok_bad
  | n + 1 => have ih := ok__law_is T n; fn_ok T.F__law_is sc__law_is (fun z => by cases z) (by decide) (O' := []) (fun cdv A outer s H E hr =>
    
    (dss_cons (ds_if (mu := false) (dt_val (de_isi2 (t1 := "tuple") (t2 := "list") rfl (de_var 1) rfl T.n_isinstance rfl T.n_tuple rfl rfl T.n_list rfl)) 
    (dss_cons (ds_if (mu := false) (DWt.dt (dw_or (dt_cmp (F := []) (op_neD hr.units) (od_ne rfl) (de_isi (tn := "tuple") rfl (de_var 0) rfl T.n_isinstance rfl T.n_tuple rfl) (de_isi (tn := "tuple") rfl (de_var 1) rfl T.n_isinstance rfl T.n_tuple rfl) (nobehind _ (by decide) (by decide))) (dw_or1 (dt_not (dt_val (de_isi2 (t1 := "tuple") (t2 := "list") rfl (de_var 0) rfl T.n_isinstance rfl T.n_tuple rfl rfl T.n_list rfl)))))) (dss_one (ds_ret (F := []) (mu := false) de_bl)) dss_nil) (dss_one (ds_ret (F := []) (mu := false) (de_and (de_cmp (op_eqD hr.units) (od_eq rfl) (de_fnB call_lenA (cd_len rfl) rfl T.n_len rfl (da_cons (de_var 0) da_nil)) (de_fnB call_lenA (cd_len rfl) rfl T.n_len rfl (da_cons (de_var 1) da_nil)) (nobehind _ (by decide) (by decide))) (de_one (de_fnB (cr_all rfl) (cd_all) rfl T.n_all rfl (da_cons (DEO.de (do_lc (F1 := []) (ownN := [("one", 2), ("other", 3)]) rfl sc__law_is.nd (di_zip rfl rfl T.n_zip (dq_of (de_var 0)) (dq_of (de_var 1))) (blkOk_by (by show blkC ["got", "due", "one", "other"] (defScope s__law_is) _ _ = true; decide +kernel)) (fun _ _ _ _ _ => (dg_tup rfl rfl (dgs_cons (dg_name (i := 2) sc__law_is.nd rfl (Or.inl rfl)) (dgs_cons (dg_name (i := 3) sc__law_is.nd rfl (Or.inl rfl)) dgs_nil)))) (fun _ _ _ _ _ => dts_nil) (fun _ _ _ _ _ => (de_call ih (hr.mono (Nat.le_refl _)) rfl T.g__law_is T.k__law_is T.b__law_is takes0 (da_cons (de_var 2) (da_cons (de_var 3) da_nil)))))) da_nil))))))) dss_nil) 
    (dss_cons (ds_if (mu := false) (DWt.dt (dw_or (dt_isN (F := []) (de_var 1)) (dw_or1 (dt_val (de_isi (tn := "bool") rfl (de_var 1) rfl T.n_isinstance rfl T.n_bool rfl))))) (dss_one (ds_ret (F := []) (mu := false) (de_if (dt_isN (F := []) (de_var 1)) (de_isN (de_var 0)) (de_and (de_isi (tn := "bool") rfl (de_var 0) rfl T.n_isinstance rfl T.n_bool rfl) (de_one (de_cmp (op_eqD hr.units) (od_eq rfl) (de_fnB SkE.call_repr_int (cd_repr) rfl T.n_repr rfl (da_cons (de_var 0) da_nil)) (de_fnB SkE.call_repr_int (cd_repr) rfl T.n_repr rfl (da_cons (de_var 1) da_nil)) (nobehind _ (by decide) (by decide)))))))) dss_nil) 
    (dss_cons (ds_if (mu := false) (dt_val (de_isi (tn := "str") rfl (de_var 1) rfl T.n_isinstance rfl T.n_str rfl)) (dss_one (ds_ret (F := []) (mu := false) (de_and (de_isi (tn := "str") rfl (de_var 0) rfl T.n_isinstance rfl T.n_str rfl) (de_one (de_cmp (op_eqD hr.units) (od_eq rfl) (de_fnB SkE.call_repr_int (cd_repr) rfl T.n_repr rfl (da_cons (de_var 0) da_nil)) (de_fnB SkE.call_repr_int (cd_repr) rfl T.n_repr rfl (da_cons (de_var 1) da_nil)) (nobehind _ (by decide) (by decide))))))) dss_nil) (dss_one (ds_ret (F := []) (mu := false) (de_and (de_isi (tn := "int") rfl (de_var 0) rfl T.n_isinstance rfl T.n_int rfl) (de_and (de_not (de_isi (tn := "bool") rfl (de_var 0) rfl T.n_isinstance rfl T.n_bool rfl)) (de_one (de_cmp (op_eqD hr.units) (od_eq rfl) (de_fnB SkE.call_repr_int (cd_repr) rfl T.n_repr rfl (da_cons (de_var 0) da_nil)) (de_fnB SkE.call_repr_int (cd_repr) rfl T.n_repr rfl (da_cons (de_var 1) da_nil)) (nobehind _ (by decide) (by decide))))))))))))
theorem sc__law_begun : FnScope ["line", "many", "head", "ring"] ["line", "many"] (defScope s__law_begun) := ⟨rfl, rfl, rfl, by decide +kernel, rfl, by decide +kernel, by decide +kernel⟩
theorem ok__law_begun (T : Tx K mg) : FnOk P w K mg base (L2.CX P w) 1 T.a__law_begun T.d__law_begun ["line", "many"] (spD (cen K) [] false 2 f__law_begun) :=
  fn_ok T.F__law_begun sc__law_begun (fun z => by cases z) (by decide) (O' := []) (fun cdv A outer s H E hr =>
    
    (dss_cons (ds_asg (mu := false) (de_var 0) (dg_tup rfl rfl (dgs_cons (dg_name (i := 2) sc__law_begun.nd rfl (Or.inl rfl)) (dgs_cons (dg_name (i := 3) sc__law_begun.nd rfl (Or.inl rfl)) dgs_nil)))) (dss_one (ds_ret (F := []) (mu := false) (de_slice sl_all (sd_all rfl) (de_bin op_addA (od_add rfl) (de_var 2) (de_bin op_mulA (od_mul rfl) (de_var 3) (de_bin op_addA (od_add rfl) de_int (de_bin op_fdivW (od_fdiv) (de_var 1) (de_fnB call_lenA (cd_len rfl) rfl T.n_len rfl (da_cons (de_var 3) da_nil)))))) do_none (do_some (de_var 1)))))))
theorem sc__law_drawn_row : FnScope ["hand", "signs", "most", "turn"] ["hand", "signs", "most"] (defScope s__law_drawn_row) := ⟨rfl, rfl, rfl, by decide +kernel, rfl, by decide +kernel, by decide +kernel⟩
theorem ok__law_drawn_row (T : Tx K mg) : FnOk P w K mg base (L2.CX P w) 2 T.a__law_drawn_row T.d__law_drawn_row ["hand", "signs", "most"] (spD (cen K) [0] false 3 f__law_drawn_row) :=
  fn_ok T.F__law_drawn_row sc__law_drawn_row (fun z => by cases z) (by decide) (O' := [0]) (fun cdv A outer s H E hr =>
    (dss_one (ds_ret (F := [0]) (mu := true) (de_fnT call_tuple_of (cd_tuple rfl) rfl T.n_tuple rfl (da_cons (DEO.de (do_lc (F1 := [0]) (ownN := [("turn", 3)]) rfl sc__law_drawn_row.nd (di_range1 rfl T.n_range (da_cons (de_callK (ok__law_draw T) (hr.mono (by decide)) rfl T.g__law_draw T.k__law_draw T.b__law_draw (takes_of rfl rfl rfl rfl) (dk_slot (i := 0) (pe_var (i := 0) rfl (by first | exact Or.inl rfl | exact Or.inr (Or.inl rfl) | exact Or.inr (Or.inr rfl)) (by decide) (by decide)) (dk_val (mu := false) (de_bin op_addA (od_add rfl) (de_var 2) de_int) dk_nil))) da_nil)) (blkOk_by (by show blkC ["hand", "signs", "most", "turn"] (defScope s__law_drawn_row) _ _ = true; decide +kernel)) (fun _ _ _ _ _ => (dg_name (i := 3) sc__law_drawn_row.nd rfl (Or.inl rfl))) (fun _ _ _ _ _ => dts_nil) (fun _ _ _ _ _ => (de_callK (ok__law_draw T) (hr.mono (by decide)) rfl T.g__law_draw T.k__law_draw T.b__law_draw takes0 (dk_slot (i := 0) (pe_var (i := 0) rfl (by first | exact Or.inl rfl | exact Or.inr (Or.inl rfl) | exact Or.inr (Or.inr rfl)) (by decide) (by decide)) (dk_val (mu := false) (de_var 1) dk_nil)))))) da_nil)))))
theorem sc__law_drawn_line : FnScope ["hand", "signs", "most", "head", "ring", "kind", "at"] ["hand", "signs", "most"] (defScope s__law_drawn_line) := ⟨rfl, rfl, rfl, by decide +kernel, rfl, by decide +kernel, by decide +kernel⟩
theorem ok__law_drawn_line (T : Tx K mg) : FnOk P w K mg base (L2.CX P w) 3 T.a__law_drawn_line T.d__law_drawn_line ["hand", "signs", "most"] (spD (cen K) [0] false 3 f__law_drawn_line) :=
  fn_ok T.F__law_drawn_line sc__law_drawn_line (fun z => by cases z) (by decide) (O' := [0]) (fun cdv A outer s H E hr =>
    
    (dss_cons (ds_set (i := 3) (mu := true) sc__law_drawn_line.nd rfl (Or.inl rfl) (de_callK (ok__law_drawn_row T) (hr.mono (by decide)) rfl T.g__law_drawn_row T.k__law_drawn_row T.b__law_drawn_row (takes_of rfl rfl rfl rfl) (dk_slot (i := 0) (pe_var (i := 0) rfl (by first | exact Or.inl rfl | exact Or.inr (Or.inl rfl) | exact Or.inr (Or.inr rfl)) (by decide) (by decide)) (dk_val (mu := false) (de_var 1) (dk_val (mu := false) (de_var 2) dk_nil))))) 
    (dss_cons (ds_set (i := 4) (mu := true) sc__law_drawn_line.nd rfl (Or.inl rfl) (de_bin op_addA (od_add rfl) (de_tup (da_cons (de_callK (ok__law_draw T) (hr.mono (by decide)) rfl T.g__law_draw T.k__law_draw T.b__law_draw (takes_of rfl rfl rfl rfl) (dk_slot (i := 0) (pe_var (i := 0) rfl (by first | exact Or.inl rfl | exact Or.inr (Or.inl rfl) | exact Or.inr (Or.inr rfl)) (by decide) (by decide)) (dk_val (mu := false) (de_var 1) dk_nil))) da_nil)) (de_callK (ok__law_drawn_row T) (hr.mono (by decide)) rfl T.g__law_drawn_row T.k__law_drawn_row T.b__law_drawn_row (takes_of rfl rfl rfl rfl) (dk_slot (i := 0) (pe_var (i := 0) rfl (by first | exact Or.inl rfl | exact Or.inr (Or.inl rfl) | exact Or.inr (Or.inr rfl)) (by decide) (by decide)) (dk_val (mu := false) (de_var 1) (dk_val (mu := false) (de_var 2) dk_nil)))))) 
    (dss_cons (ds_set (i := 5) (mu := true) sc__law_drawn_line.nd rfl (Or.inl rfl) (de_callK (ok__law_draw T) (hr.mono (by decide)) rfl T.g__law_draw T.k__law_draw T.b__law_draw (takes_of rfl rfl rfl rfl) (dk_slot (i := 0) (pe_var (i := 0) rfl (by first | exact Or.inl rfl | exact Or.inr (Or.inl rfl) | exact Or.inr (Or.inr rfl)) (by decide) (by decide)) (dk_val (mu := false) de_int dk_nil)))) 
    (dss_cons (ds_if (mu := false) (dt_cmp (F := [0]) (op_eqD hr.units) (od_eq rfl) (de_var 5) de_int (nobehind _ (by decide) (by decide))) (dss_one (ds_set (i := 4) (mu := true) sc__law_drawn_line.nd rfl (Or.inl rfl) (de_bin op_mulA (od_mul rfl) (de_var 4) (de_bin op_addA (od_add rfl) de_int (de_callK (ok__law_draw T) (hr.mono (by decide)) rfl T.g__law_draw T.k__law_draw T.b__law_draw (takes_of rfl rfl rfl rfl) (dk_slot (i := 0) (pe_var (i := 0) rfl (by first | exact Or.inl rfl | exact Or.inr (Or.inl rfl) | exact Or.inr (Or.inr rfl)) (by decide) (by decide)) (dk_val (mu := false) de_int dk_nil))))))) (dss_one (ds_if (mu := false) (dt_cmp (F := [0]) (op_eqD hr.units) (od_eq rfl) (de_var 5) de_int (nobehind _ (by decide) (by decide))) 
    (dss_cons (ds_set (i := 3) (mu := true) sc__law_drawn_line.nd rfl (Or.inl rfl) (de_bin op_addA (od_add rfl) (de_var 3) (de_slice sl_all (sd_all rfl) (de_var 4) do_none (do_some (DE.to (F' := [0]) (de_bin op_addA (od_add rfl) de_int (de_callK (ok__law_draw T) (hr.mono (by decide)) rfl T.g__law_draw T.k__law_draw T.b__law_draw (takes_of rfl rfl rfl rfl) (dk_slot (i := 0) (pe_var (i := 0) rfl (by first | exact Or.inl rfl | exact Or.inr (Or.inl rfl) | exact Or.inr (Or.inr rfl)) (by decide) (by decide)) (dk_val (mu := false) (de_fnB call_lenA (cd_len rfl) rfl T.n_len rfl (da_cons (de_var 4) da_nil)) dk_nil))))))))) (dss_one (ds_set (i := 4) (mu := false) sc__law_drawn_line.nd rfl (Or.inl rfl) (de_bin op_addA (od_add rfl) (de_slice sl_all (sd_all rfl) (de_var 4) (do_some (de_bin op_fdivW (od_fdiv) (de_fnB call_lenA (cd_len rfl) rfl T.n_len rfl (da_cons (de_var 4) da_nil)) de_int)) do_none) (de_slice sl_all (sd_all rfl) (de_var 4) do_none (do_some (de_bin op_fdivW (od_fdiv) (de_fnB call_lenA (cd_len rfl) rfl T.n_len rfl (da_cons (de_var 4) da_nil)) de_int))))))) (dss_one (ds_if (mu := false) (dt_cmp (F := [0]) (op_eqD hr.units) (od_eq rfl) (de_var 5) de_int (nobehind _ (by decide) (by decide))) (dss_one (ds_set (i := 3) (mu := true) sc__law_drawn_line.nd rfl (Or.inl rfl) (de_bin op_addA (od_add rfl) (de_var 3) (de_bin op_mulA (od_mul rfl) (de_var 4) (de_bin op_addA (od_add rfl) de_int (de_callK (ok__law_draw T) (hr.mono (by decide)) rfl T.g__law_draw T.k__law_draw T.b__law_draw (takes_of rfl rfl rfl rfl) (dk_slot (i := 0) (pe_var (i := 0) rfl (by first | exact Or.inl rfl | exact Or.inr (Or.inl rfl) | exact Or.inr (Or.inr rfl)) (by decide) (by decide)) (dk_val (mu := false) de_int dk_nil)))))))) (dss_one (ds_if (mu := false) (dt_cmp (F := [0]) (op_eqD hr.units) (od_eq rfl) (de_var 5) de_int (nobehind _ (by decide) (by decide))) 
    (dss_cons (ds_set (i := 6) (mu := true) sc__law_drawn_line.nd rfl (Or.inl rfl) (de_callK (ok__law_draw T) (hr.mono (by decide)) rfl T.g__law_draw T.k__law_draw T.b__law_draw (takes_of rfl rfl rfl rfl) (dk_slot (i := 0) (pe_var (i := 0) rfl (by first | exact Or.inl rfl | exact Or.inr (Or.inl rfl) | exact Or.inr (Or.inr rfl)) (by decide) (by decide)) (dk_val (mu := false) (de_fnB call_lenA (cd_len rfl) rfl T.n_len rfl (da_cons (de_var 4) da_nil)) dk_nil)))) (dss_one (ds_par (mu := false) (i := 3) (j := 4) rfl sc__law_drawn_line.nd rfl rfl rfl rfl (da_cons (de_bin op_addA (od_add rfl) (de_var 3) (de_slice sl_all (sd_all rfl) (de_var 4) do_none (do_some (de_var 6)))) (da_cons (de_bin op_addA (od_add rfl) (de_slice sl_all (sd_all rfl) (de_var 4) (do_some (de_var 6)) do_none) (de_slice sl_all (sd_all rfl) (de_var 4) do_none (do_some (de_var 6)))) da_nil))))) dss_nil))))))) (dss_one (ds_ret (F := [0]) (mu := false) (de_tup (da_cons (de_var 3) (da_cons (de_var 4) da_nil))))))))))
theorem sc__law_is_least_way : FnScope ["line", "many", "whole", "size", "most", "wide"] ["line"] (defScope s__law_is_least_way) := ⟨rfl, rfl, rfl, by decide +kernel, rfl, by decide +kernel, by decide +kernel⟩
theorem ok__law_is_least_way (T : Tx K mg) : FnOk P w K mg base (L2.CX P w) 2 T.a__law_is_least_way T.d__law_is_least_way ["line"] (spD (cen K) [] false 1 f__law_is_least_way) :=
  fn_ok T.F__law_is_least_way sc__law_is_least_way (fun z => by cases z) (by decide) (O' := []) (fun cdv A outer s H E hr =>
    
    (dss_cons (ds_set (i := 1) (mu := false) sc__law_is_least_way.nd rfl (Or.inl rfl) (de_bin op_addA (od_add rfl) (de_bin op_mulA (od_mul rfl) de_int (de_bin op_addA (od_add rfl) (de_fnB call_lenA (cd_len rfl) rfl T.n_len rfl (da_cons (de_ix ix_seq (od_ix rfl) (de_var 0) de_int (fun _ _ => rfl)) da_nil)) (de_fnB call_lenA (cd_len rfl) rfl T.n_len rfl (da_cons (de_ix ix_seq (od_ix rfl) (de_var 0) de_int (fun _ _ => rfl)) da_nil)))) de_int)) 
    (dss_cons (ds_set (i := 2) (mu := false) sc__law_is_least_way.nd rfl (Or.inl rfl) (de_call (ok__law_begun T) (hr.mono (by decide)) rfl T.g__law_begun T.k__law_begun T.b__law_begun (takes_of rfl rfl rfl rfl) (da_cons (de_var 0) (da_cons (de_var 1) da_nil)))) 
    (dss_cons (ds_for (mu := false) (passes_of rfl) rfl (di_range1 rfl T.n_range (da_cons (de_bin op_addA (od_add rfl) (de_fnB call_lenA (cd_len rfl) rfl T.n_len rfl (da_cons (de_ix ix_seq (od_ix rfl) (de_var 0) de_int (fun _ _ => rfl)) da_nil)) de_int) da_nil)) (dg_name (i := 3) sc__law_is_least_way.nd rfl (Or.inl rfl)) 
    (dss_cons (ds_set (i := 4) (mu := false) sc__law_is_least_way.nd rfl (Or.inl rfl) (de_if (dt_cmp (F := []) (op_eqD hr.units) (od_eq rfl) (de_var 3) (de_fnB call_lenA (cd_len rfl) rfl T.n_len rfl (da_cons (de_ix ix_seq (od_ix rfl) (de_var 0) de_int (fun _ _ => rfl)) da_nil)) (nobehind _ (by decide) (by decide))) (de_fnB call_lenA (cd_len rfl) rfl T.n_len rfl (da_cons (de_ix ix_seq (od_ix rfl) (de_var 0) de_int (fun _ _ => rfl)) da_nil)) (de_bin op_addA (od_add rfl) (de_fnB call_lenA (cd_len rfl) rfl T.n_len rfl (da_cons (de_ix ix_seq (od_ix rfl) (de_var 0) de_int (fun _ _ => rfl)) da_nil)) de_int))) (dss_one (ds_for (mu := false) (passes_of rfl) rfl (di_range2 rfl T.n_range (da_cons de_int (da_cons (de_var 4) da_nil))) (dg_name (i := 5) sc__law_is_least_way.nd rfl (Or.inl rfl)) (dss_one (ds_if (mu := false) (dt_cmp (F := []) (op_eqD hr.units) (od_eq rfl) (de_call (ok__law_begun T) (hr.mono (by decide)) rfl T.g__law_begun T.k__law_begun T.b__law_begun (takes_of rfl rfl rfl rfl) (da_cons (de_tup (da_cons (de_slice sl_all (sd_all rfl) (de_var 2) do_none (do_some (de_var 3))) (da_cons (de_slice sl_all (sd_all rfl) (de_var 2) (do_some (de_var 3)) (do_some (de_bin op_addA (od_add rfl) (de_var 3) (de_var 5)))) da_nil))) (da_cons (de_var 1) da_nil))) (de_var 2) (nobehind _ (by decide) (by decide))) (dss_one (ds_ret (F := []) (mu := false) de_bl)) dss_nil)))))) (dss_one (ds_ret (F := []) (mu := false) de_bl))))))
theorem sc__law_shortest : FnScope ["line", "head", "ring", "size"] ["line"] (defScope s__law_shortest) := ⟨rfl, rfl, rfl, by decide +kernel, rfl, by decide +kernel, by decide +kernel⟩
theorem ok__law_shortest (T : Tx K mg) : FnOk P w K mg base (L2.CX P w) 1 T.a__law_shortest T.d__law_shortest ["line"] (spD (cen K) [] false 1 f__law_shortest) :=
  fn_ok T.F__law_shortest sc__law_shortest (fun z => by cases z) (by decide) (O' := []) (fun cdv A outer s H E hr =>
    
    (dss_cons (ds_asg (mu := false) (de_var 0) (dg_tup rfl rfl (dgs_cons (dg_name (i := 1) sc__law_shortest.nd rfl (Or.inl rfl)) (dgs_cons (dg_name (i := 2) sc__law_shortest.nd rfl (Or.inl rfl)) dgs_nil)))) 
    (dss_cons (ds_for (mu := false) (passes_of rfl) rfl (di_range2 rfl T.n_range (da_cons de_int (da_cons (de_bin op_addA (od_add rfl) (de_fnB call_lenA (cd_len rfl) rfl T.n_len rfl (da_cons (de_var 2) da_nil)) de_int) da_nil))) (dg_name (i := 3) sc__law_shortest.nd rfl (Or.inl rfl)) (dss_one (ds_if (mu := false) (dt_cmp (F := []) (op_eqD hr.units) (od_eq rfl) (de_bin op_mulA (od_mul rfl) (de_slice sl_all (sd_all rfl) (de_var 2) do_none (do_some (de_var 3))) (de_bin op_fdivW (od_fdiv) (de_fnB call_lenA (cd_len rfl) rfl T.n_len rfl (da_cons (de_var 2) da_nil)) (de_var 3))) (de_var 2) (nobehind _ (by decide) (by decide))) 
    (dss_cons (ds_set (i := 2) (mu := false) sc__law_shortest.nd rfl (Or.inl rfl) (de_slice sl_all (sd_all rfl) (de_var 2) do_none (do_some (de_var 3)))) (dss_one ds_break)) dss_nil))) 
    (dss_cons (ds_while (mu := false) (passes_of rfl) (DWt.dt (dw_and (dt_cmp (F := []) op_gt (od_gt) (de_fnB call_lenA (cd_len rfl) rfl T.n_len rfl (da_cons (de_var 1) da_nil)) de_int (nobehind _ (by decide) (by decide))) (dw_and1 (dt_cmp (F := []) (op_eqD hr.units) (od_eq rfl) (de_ix ix_seq (od_ix rfl) (de_var 1) (de_un un_neg od_neg de_int) (fun _ _ => rfl)) (de_ix ix_seq (od_ix rfl) (de_var 2) (de_un un_neg od_neg de_int) (fun _ _ => rfl)) (nobehind _ (by decide) (by decide)))))) (dss_one (ds_par (mu := false) (i := 1) (j := 2) rfl sc__law_shortest.nd rfl rfl rfl rfl (da_cons (de_slice sl_all (sd_all rfl) (de_var 1) do_none (do_some (de_un un_neg od_neg de_int))) (da_cons (de_bin op_addA (od_add rfl) (de_slice sl_all (sd_all rfl) (de_var 2) (do_some (de_un un_neg od_neg de_int)) do_none) (de_slice sl_all (sd_all rfl) (de_var 2) do_none (do_some (de_un un_neg od_neg de_int)))) da_nil))))) (dss_one (ds_ret (F := []) (mu := false) (de_tup (da_cons (de_var 1) (da_cons (de_var 2) da_nil)))))))))
theorem sc_is_whole : FnScope ["thing"] ["thing"] (defScope s_is_whole) := ⟨rfl, rfl, rfl, by decide +kernel, rfl, by decide +kernel, by decide +kernel⟩
theorem ok_is_whole (T : Tx K mg) : FnOk P w K mg base (L2.CX P w) 1 T.a_is_whole T.d_is_whole ["thing"] (spD (cen K) [] false 1 f_is_whole) :=
  fn_ok T.F_is_whole sc_is_whole (fun z => by cases z) (by decide) (O' := []) (fun cdv A outer s H E hr =>
    (dss_one (ds_ret (F := []) (mu := false) (de_and (de_isi (tn := "int") rfl (de_var 0) rfl T.n_isinstance rfl T.n_int rfl) (de_one (de_not (de_isi (tn := "bool") rfl (de_var 0) rfl T.n_isinstance rfl T.n_bool rfl)))))))
theorem sc_is_within : FnScope ["thing", "low", "high"] ["thing", "low", "high"] (defScope s_is_within) := ⟨rfl, rfl, rfl, by decide +kernel, rfl, by decide +kernel, by decide +kernel⟩
theorem ok_is_within (T : Tx K mg) : FnOk P w K mg base (L2.CX P w) 2 T.a_is_within T.d_is_within ["thing", "low", "high"] (spD (cen K) [] false 3 f_is_within) :=
  fn_ok T.F_is_within sc_is_within (fun z => by cases z) (by decide) (O' := []) (fun cdv A outer s H E hr =>
    (dss_one (ds_ret (F := []) (mu := false) (de_and (de_call (ok_is_whole T) (hr.mono (by decide)) rfl T.g_is_whole T.k_is_whole T.b_is_whole (takes_of rfl rfl rfl rfl) (da_cons (de_var 0) da_nil)) (de_one (de_chain op_le op_le (od_le) (od_le) (de_var 1) (de_var 0) (de_var 2)))))))
theorem sc_is_row : FnScope ["signs", "thing", "sign"] ["signs", "thing"] (defScope s_is_row) := ⟨rfl, rfl, rfl, by decide +kernel, rfl, by decide +kernel, by decide +kernel⟩
theorem ok_is_row (T : Tx K mg) : FnOk P w K mg base (L2.CX P w) 3 T.a_is_row T.d_is_row ["signs", "thing"] (spD (cen K) [] false 2 f_is_row) :=
  fn_ok T.F_is_row sc_is_row (fun z => by cases z) (by decide) (O' := []) (fun cdv A outer s H E hr =>
    (dss_one (ds_ret (F := []) (mu := false) (de_and (de_isi (tn := "tuple") rfl (de_var 1) rfl T.n_isinstance rfl T.n_tuple rfl) (de_one (de_fnB (cr_all rfl) (cd_all) rfl T.n_all rfl (da_cons (DEO.de (do_lc (F1 := []) (ownN := [("sign", 2)]) rfl sc_is_row.nd (di_seq rfl (dq_of (de_var 1))) (blkOk_by (by show blkC ["signs", "thing", "sign"] (defScope s_is_row) _ _ = true; decide +kernel)) (fun _ _ _ _ _ => (dg_name (i := 2) sc_is_row.nd rfl (Or.inl rfl))) (fun _ _ _ _ _ => dts_nil) (fun _ _ _ _ _ => (de_call (ok_is_within T) (hr.mono (by decide)) rfl T.g_is_within T.k_is_within T.b_is_within takes0 (da_cons (de_var 2) (da_cons de_int (da_cons (de_bin op_sub (od_sub) (de_var 0) de_int) da_nil))))))) da_nil)))))))
theorem sc_is_line : FnScope ["signs", "thing", "part"] ["signs", "thing"] (defScope s_is_line) := ⟨rfl, rfl, rfl, by decide +kernel, rfl, by decide +kernel, by decide +kernel⟩
theorem ok_is_line (T : Tx K mg) : FnOk P w K mg base (L2.CX P w) 4 T.a_is_line T.d_is_line ["signs", "thing"] (spD (cen K) [] false 2 f_is_line) :=
  fn_ok T.F_is_line sc_is_line (fun z => by cases z) (by decide) (O' := []) (fun cdv A outer s H E hr =>
    
    (dss_cons (ds_if (mu := false) (DWt.dt (dw_or (dt_not (dt_val (de_isi (tn := "tuple") rfl (de_var 1) rfl T.n_isinstance rfl T.n_tuple rfl))) (dw_or (dt_cmp (F := []) (op_neD hr.units) (od_ne rfl) (de_fnB call_lenA (cd_len rfl) rfl T.n_len rfl (da_cons (de_var 1) da_nil)) de_int (nobehind _ (by decide) (by decide))) (dw_or1 (dt_not (dt_val (de_fnB (cr_all rfl) (cd_all) rfl T.n_all rfl (da_cons (DEO.de (do_lc (F1 := []) (ownN := [("part", 2)]) rfl sc_is_line.nd (di_seq rfl (dq_of (de_var 1))) (blkOk_by (by show blkC ["signs", "thing", "part"] (defScope s_is_line) _ _ = true; decide +kernel)) (fun _ _ _ _ _ => (dg_name (i := 2) sc_is_line.nd rfl (Or.inl rfl))) (fun _ _ _ _ _ => dts_nil) (fun _ _ _ _ _ => (de_call (ok_is_row T) (hr.mono (by decide)) rfl T.g_is_row T.k_is_row T.b_is_row takes0 (da_cons (de_var 0) (da_cons (de_var 2) da_nil)))))) da_nil)))))))) (dss_one (ds_ret (F := []) (mu := false) de_bl)) dss_nil) (dss_one (ds_ret (F := []) (mu := false) (de_cmp op_gt (od_gt) (de_fnB call_lenA (cd_len rfl) rfl T.n_len rfl (da_cons (de_ix ix_seq (od_ix rfl) (de_var 1) de_int (fun _ _ => rfl)) da_nil)) de_int (nobehind _ (by decide) (by decide)))))))
theorem sc_check_line : FnScope ["signs", "line"] ["signs", "line"] (defScope s_check_line) := ⟨rfl, rfl, rfl, by decide +kernel, rfl, by decide +kernel, by decide +kernel⟩
theorem ok_check_line (T : Tx K mg) : FnOk P w K mg base (L2.CX P w) 5 T.a_check_line T.d_check_line ["signs", "line"] (spD (cen K) [] false 2 f_check_line) :=
  fn_ok T.F_check_line sc_check_line (fun z => by cases z) (by decide) (O' := []) (fun cdv A outer s H E hr =>
    (dss_one (ds_if (mu := false) (dt_not (dt_val (de_call (ok_is_line T) (hr.mono (by decide)) rfl T.g_is_line T.k_is_line T.b_is_line (takes_of rfl rfl rfl rfl) (da_cons (de_var 0) (da_cons (de_var 1) da_nil))))) (dss_one ds_never) dss_nil)))
theorem sc_check_signs : FnScope ["signs"] ["signs"] (defScope s_check_signs) := ⟨rfl, rfl, rfl, by decide +kernel, rfl, by decide +kernel, by decide +kernel⟩
theorem ok_check_signs (T : Tx K mg) : FnOk P w K mg base (L2.CX P w) 3 T.a_check_signs T.d_check_signs ["signs"] (spD (cen K) [] false 1 f_check_signs) :=
  fn_ok T.F_check_signs sc_check_signs (fun z => by cases z) (by decide) (O' := []) (fun cdv A outer s H E hr =>
    (dss_one (ds_if (mu := false) (dt_not (dt_val (de_call (ok_is_within T) (hr.mono (by decide)) rfl T.g_is_within T.k_is_within T.b_is_within (takes_of rfl rfl rfl rfl) (da_cons (de_var 0) (da_cons (de_gint rfl T.v_LEAST_SIGNS (rel_int _ _)) (da_cons (de_gint rfl T.v_MOST_SIGNS (rel_int _ _)) da_nil)))))) (dss_one ds_never) dss_nil)))
theorem sc_plain_pair : FnScope ["head", "ring", "size"] ["head", "ring"] (defScope s_plain_pair) := ⟨rfl, rfl, rfl, by decide +kernel, rfl, by decide +kernel, by decide +kernel⟩
theorem ok_plain_pair (T : Tx K mg) : FnOk P w K mg base (L2.CX P w) 1 T.a_plain_pair T.d_plain_pair ["head", "ring"] (spD (cen K) [] false 2 f_plain_pair) :=
  fn_ok T.F_plain_pair sc_plain_pair (fun z => by cases z) (by decide) (O' := []) (fun cdv A outer s H E hr =>
    
    (dss_cons (ds_set (i := 2) (mu := false) sc_plain_pair.nd rfl (Or.inl rfl) de_int) 
    (dss_cons (ds_while (mu := false) (passes_of rfl) (DWt.dt (dw_or (dt_cmp (F := []) op_gt (od_gt) (de_bin op_mod (od_mod) (de_fnB call_lenA (cd_len rfl) rfl T.n_len rfl (da_cons (de_var 1) da_nil)) (de_var 2)) de_int (nobehind _ (by decide) (by decide))) (dw_or1 (dt_cmp (F := []) (op_neD hr.units) (od_ne rfl) (de_bin op_mulA (od_mul rfl) (de_slice sl_all (sd_all rfl) (de_var 1) do_none (do_some (de_var 2))) (de_bin op_fdivW (od_fdiv) (de_fnB call_lenA (cd_len rfl) rfl T.n_len rfl (da_cons (de_var 1) da_nil)) (de_var 2))) (de_var 1) (nobehind _ (by decide) (by decide)))))) (dss_one (ds_aug (i := 2) (mu := false) sc_plain_pair.nd rfl (Or.inl rfl) iop_add (od_iadd) de_int))) 
    (dss_cons (ds_set (i := 1) (mu := false) sc_plain_pair.nd rfl (Or.inl rfl) (de_slice sl_all (sd_all rfl) (de_var 1) do_none (do_some (de_var 2)))) 
    (dss_cons (ds_while (mu := false) (passes_of rfl) (DWt.dt (dw_and (dt_cmp (F := []) op_gt (od_gt) (de_fnB call_lenA (cd_len rfl) rfl T.n_len rfl (da_cons (de_var 0) da_nil)) de_int (nobehind _ (by decide) (by decide))) (dw_and1 (dt_cmp (F := []) (op_eqD hr.units) (od_eq rfl) (de_ix ix_seq (od_ix rfl) (de_var 0) (de_un un_neg od_neg de_int) (fun _ _ => rfl)) (de_ix ix_seq (od_ix rfl) (de_var 1) (de_un un_neg od_neg de_int) (fun _ _ => rfl)) (nobehind _ (by decide) (by decide)))))) 
    (dss_cons (ds_set (i := 1) (mu := false) sc_plain_pair.nd rfl (Or.inl rfl) (de_bin op_addA (od_add rfl) (de_slice sl_all (sd_all rfl) (de_var 1) (do_some (de_un un_neg od_neg de_int)) do_none) (de_slice sl_all (sd_all rfl) (de_var 1) do_none (do_some (de_un un_neg od_neg de_int))))) (dss_one (ds_set (i := 0) (mu := false) sc_plain_pair.nd rfl (Or.inl rfl) (de_slice sl_all (sd_all rfl) (de_var 0) do_none (do_some (de_un un_neg od_neg de_int))))))) (dss_one (ds_ret (F := []) (mu := false) (de_tup (da_cons (de_var 0) (da_cons (de_var 1) da_nil))))))))))
theorem sc_plain : FnScope ["signs", "line"] ["signs", "line"] (defScope s_plain) := ⟨rfl, rfl, rfl, by decide +kernel, rfl, by decide +kernel, by decide +kernel⟩
theorem ok_plain (T : Tx K mg) : FnOk P w K mg base (L2.CX P w) 6 T.a_plain T.d_plain ["signs", "line"] (spD (cen K) [] false 2 f_plain) :=
  fn_ok T.F_plain sc_plain (fun z => by cases z) (by decide) (O' := []) (fun cdv A outer s H E hr =>
    
    (dss_cons (ds_expr (F := []) (mu := false) (de_call (ok_check_signs T) (hr.mono (by decide)) rfl T.g_check_signs T.k_check_signs T.b_check_signs (takes_of rfl rfl rfl rfl) (da_cons (de_var 0) da_nil))) 
    (dss_cons (ds_expr (F := []) (mu := false) (de_call (ok_check_line T) (hr.mono (by decide)) rfl T.g_check_line T.k_check_line T.b_check_line (takes_of rfl rfl rfl rfl) (da_cons (de_var 0) (da_cons (de_var 1) da_nil)))) (dss_one (ds_ret (F := []) (mu := false) (de_call (ok_plain_pair T) (hr.mono (by decide)) rfl T.g_plain_pair T.k_plain_pair T.b_plain_pair (takes_of rfl rfl rfl rfl) (da_cons (de_ix ix_seq (od_ix rfl) (de_var 1) de_int (fun _ _ => rfl)) (da_cons (de_ix ix_seq (od_ix rfl) (de_var 1) de_int (fun _ _ => rfl)) da_nil))))))))
theorem sc__law_is_right : FnScope ["hand", "signs", "one", "other", "got", "its", "many", "wide", "head", "ring", "ways", "some"] ["hand", "signs"] (defScope s__law_is_right) := ⟨rfl, rfl, rfl, by decide +kernel, rfl, by decide +kernel, by decide +kernel⟩
theorem ok__law_is_right (T : Tx K mg) : FnOk P w K mg base (L2.CX P w) 9 T.a__law_is_right T.d__law_is_right ["hand", "signs"] (spD (cen K) [0] false 2 f__law_is_right) :=
  fn_ok T.F__law_is_right sc__law_is_right (fun z => by cases z) (by decide) (O' := [0]) (fun cdv A outer s H E hr =>
    
    (dss_cons (ds_par (mu := true) (i := 2) (j := 3) rfl sc__law_is_right.nd rfl rfl rfl rfl (da_cons (de_callK (ok__law_drawn_line T) (hr.mono (by decide)) rfl T.g__law_drawn_line T.k__law_drawn_line T.b__law_drawn_line (takes_of rfl rfl rfl rfl) (dk_slot (i := 0) (pe_var (i := 0) rfl (by first | exact Or.inl rfl | exact Or.inr (Or.inl rfl) | exact Or.inr (Or.inr rfl)) (by decide) (by decide)) (dk_val (mu := false) (de_var 1) (dk_val (mu := false) de_int dk_nil)))) (da_cons (de_callK (ok__law_drawn_line T) (hr.mono (by decide)) rfl T.g__law_drawn_line T.k__law_drawn_line T.b__law_drawn_line (takes_of rfl rfl rfl rfl) (dk_slot (i := 0) (pe_var (i := 0) rfl (by first | exact Or.inl rfl | exact Or.inr (Or.inl rfl) | exact Or.inr (Or.inr rfl)) (by decide) (by decide)) (dk_val (mu := false) (de_var 1) (dk_val (mu := false) de_int dk_nil)))) da_nil))) 
    (dss_cons (ds_asg (mu := false) (de_tup (da_cons (de_call (ok_plain T) (hr.mono (by decide)) rfl T.g_plain T.k_plain T.b_plain (takes_of rfl rfl rfl rfl) (da_cons (de_var 1) (da_cons (de_var 2) da_nil))) (da_cons (de_call (ok_plain T) (hr.mono (by decide)) rfl T.g_plain T.k_plain T.b_plain (takes_of rfl rfl rfl rfl) (da_cons (de_var 1) (da_cons (de_var 3) da_nil))) da_nil))) (dg_tup rfl rfl (dgs_cons (dg_name (i := 4) sc__law_is_right.nd rfl (Or.inr rfl)) (dgs_cons (dg_name (i := 5) sc__law_is_right.nd rfl (Or.inl rfl)) dgs_nil)))) 
    (dss_cons (ds_if (mu := false) (dt_not (dt_val (DE.to (F' := [0]) (mu' := false) (de_call (ok__law_is T 8) (hr.mono (by decide)) rfl T.g__law_is T.k__law_is T.b__law_is (takes_of rfl rfl rfl rfl) (da_cons (de_lst (da_cons (de_var 4) (da_cons (de_var 5) da_nil))) (da_cons (de_lst (da_cons (de_call (ok__law_shortest T) (hr.mono (by decide)) rfl T.g__law_shortest T.k__law_shortest T.b__law_shortest (takes_of rfl rfl rfl rfl) (da_cons (de_var 2) da_nil)) (da_cons (de_call (ok__law_shortest T) (hr.mono (by decide)) rfl T.g__law_shortest T.k__law_shortest T.b__law_shortest (takes_of rfl rfl rfl rfl) (da_cons (de_var 3) da_nil)) da_nil))) da_nil)))))) (dss_one (ds_ret (F := [0]) (mu := false) de_bl)) dss_nil) 
    (dss_cons (ds_set (i := 6) (mu := false) sc__law_is_right.nd rfl (Or.inl rfl) (de_bin op_addA (od_add rfl) (de_bin op_mulA (od_mul rfl) de_int (de_bin op_addA (od_add rfl) (de_bin op_addA (od_add rfl) (de_bin op_addA (od_add rfl) (de_fnB call_lenA (cd_len rfl) rfl T.n_len rfl (da_cons (de_ix ix_seq (od_ix rfl) (de_var 2) de_int (fun _ _ => rfl)) da_nil)) (de_fnB call_lenA (cd_len rfl) rfl T.n_len rfl (da_cons (de_ix ix_seq (od_ix rfl) (de_var 2) de_int (fun _ _ => rfl)) da_nil))) (de_fnB call_lenA (cd_len rfl) rfl T.n_len rfl (da_cons (de_ix ix_seq (od_ix rfl) (de_var 3) de_int (fun _ _ => rfl)) da_nil))) (de_fnB call_lenA (cd_len rfl) rfl T.n_len rfl (da_cons (de_ix ix_seq (od_ix rfl) (de_var 3) de_int (fun _ _ => rfl)) da_nil)))) de_int)) 
    (dss_cons (ds_if (mu := false) (DWt.dt (dw_or (dt_cmp (F := [0]) (op_neD hr.units) (od_ne rfl) (de_call (ok__law_begun T) (hr.mono (by decide)) rfl T.g__law_begun T.k__law_begun T.b__law_begun (takes_of rfl rfl rfl rfl) (da_cons (de_var 2) (da_cons (de_var 6) da_nil))) (de_call (ok__law_begun T) (hr.mono (by decide)) rfl T.g__law_begun T.k__law_begun T.b__law_begun (takes_of rfl rfl rfl rfl) (da_cons (de_var 4) (da_cons (de_var 6) da_nil))) (nobehind _ (by decide) (by decide))) (dw_or1 (dt_not (dt_val (DE.to (F' := [0]) (mu' := false) (de_call (ok__law_is_least_way T) (hr.mono (by decide)) rfl T.g__law_is_least_way T.k__law_is_least_way T.b__law_is_least_way (takes_of rfl rfl rfl rfl) (da_cons (de_var 4) da_nil)))))))) (dss_one (ds_ret (F := [0]) (mu := false) de_bl)) dss_nil) 
    (dss_cons (ds_set (i := 7) (mu := false) sc__law_is_right.nd rfl (Or.inl rfl) (de_bin op_addA (od_add rfl) (de_bin op_addA (od_add rfl) (de_bin op_addA (od_add rfl) (de_fnB call_lenA (cd_len rfl) rfl T.n_len rfl (da_cons (de_ix ix_seq (od_ix rfl) (de_var 2) de_int (fun _ _ => rfl)) da_nil)) (de_fnB call_lenA (cd_len rfl) rfl T.n_len rfl (da_cons (de_ix ix_seq (od_ix rfl) (de_var 3) de_int (fun _ _ => rfl)) da_nil))) (de_bin op_mulA (od_mul rfl) (de_fnB call_lenA (cd_len rfl) rfl T.n_len rfl (da_cons (de_ix ix_seq (od_ix rfl) (de_var 2) de_int (fun _ _ => rfl)) da_nil)) (de_fnB call_lenA (cd_len rfl) rfl T.n_len rfl (da_cons (de_ix ix_seq (od_ix rfl) (de_var 3) de_int (fun _ _ => rfl)) da_nil)))) de_int)) 
    (dss_cons (ds_if (mu := false) (dt_cmp (F := [0]) (op_neD hr.units) (od_ne rfl) (de_cmp (op_eqD hr.units) (od_eq rfl) (de_var 4) (de_var 5) (nobehind _ (by decide) (by decide))) (de_cmp (op_eqD hr.units) (od_eq rfl) (de_call (ok__law_begun T) (hr.mono (by decide)) rfl T.g__law_begun T.k__law_begun T.b__law_begun (takes_of rfl rfl rfl rfl) (da_cons (de_var 2) (da_cons (de_var 7) da_nil))) (de_call (ok__law_begun T) (hr.mono (by decide)) rfl T.g__law_begun T.k__law_begun T.b__law_begun (takes_of rfl rfl rfl rfl) (da_cons (de_var 3) (da_cons (de_var 7) da_nil))) (nobehind _ (by decide) (by decide))) (nobehind _ (by decide) (by decide))) (dss_one (ds_ret (F := [0]) (mu := false) de_bl)) dss_nil) 
    (dss_cons (ds_asg (mu := false) (de_var 2) (dg_tup rfl rfl (dgs_cons (dg_name (i := 8) sc__law_is_right.nd rfl (Or.inl rfl)) (dgs_cons (dg_name (i := 9) sc__law_is_right.nd rfl (Or.inl rfl)) dgs_nil)))) 
    (dss_cons (ds_set (i := 10) (mu := false) sc__law_is_right.nd rfl (Or.inl rfl) (de_lst (da_cons (de_tup (da_cons (de_bin op_addA (od_add rfl) (de_var 8) (de_var 9)) (da_cons (de_var 9) da_nil))) (da_cons (de_tup (da_cons (de_var 8) (da_cons (de_bin op_addA (od_add rfl) (de_var 9) (de_var 9)) da_nil))) (da_cons (de_tup (da_cons (de_bin op_addA (od_add rfl) (de_var 8) (de_slice sl_all (sd_all rfl) (de_var 9) do_none (do_some de_int))) (da_cons (de_bin op_addA (od_add rfl) (de_slice sl_all (sd_all rfl) (de_var 9) (do_some de_int) do_none) (de_slice sl_all (sd_all rfl) (de_var 9) do_none (do_some de_int))) da_nil))) (da_cons (de_var 4) da_nil)))))) (dss_one (ds_ret (F := [0]) (mu := false) (de_fnB (cr_all rfl) (cd_all) rfl T.n_all rfl (da_cons (DEO.de (do_lc (F1 := [0]) (ownN := [("some", 11)]) rfl sc__law_is_right.nd (di_seq rfl (dq_of (de_var 10))) (blkOk_by (by show blkC ["hand", "signs", "one", "other", "got", "its", "many", "wide", "head", "ring", "ways", "some"] (defScope s__law_is_right) _ _ = true; decide +kernel)) (fun _ _ _ _ _ => (dg_name (i := 11) sc__law_is_right.nd rfl (Or.inl rfl))) (fun _ _ _ _ _ => dts_nil) (fun _ _ _ _ _ => (de_call (ok__law_is T 8) (hr.mono (by decide)) rfl T.g__law_is T.k__law_is T.b__law_is takes0 (da_cons (de_call (ok_plain T) (hr.mono (by decide)) rfl T.g_plain T.k_plain T.b_plain takes0 (da_cons (de_var 1) (da_cons (de_var 11) da_nil))) (da_cons (de_var 4) da_nil)))))) da_nil))))))))))))))
theorem sc_law : FnScope ["script", "hand", "told", "turn"] ["script"] (defScope s_law) := ⟨rfl, rfl, rfl, by decide +kernel, rfl, by decide +kernel, by decide +kernel⟩
theorem ok_law (T : Tx K mg) : FnOk P w K mg base (L2.CX P w) 10 T.a_law T.d_law ["script"] (spD (cen K) [] false 1 f_law) :=
  fn_ok T.F_law sc_law (fun z => by cases z) (by decide) (O' := []) (fun cdv A outer s H E hr =>
    
    (dss_cons (ds_setO (i := 1) (mu := false) sc_law.nd rfl (Or.inr rfl) (do_call (ok__law_hand T) (hr.mono (by decide)) rfl T.g__law_hand T.k__law_hand T.b__law_hand (takes_of rfl rfl rfl rfl) (da_cons (de_var 0) da_nil))) 
    (dss_cons (ds_set (i := 2) (mu := false) sc_law.nd rfl (Or.inl rfl) (de_lst (da_cons (de_call (ok_plain T) (hr.mono (by decide)) rfl T.g_plain T.k_plain T.b_plain (takes_of rfl rfl rfl rfl) (da_cons de_int (da_cons (de_tup (da_cons (de_tup (da_cons de_int (da_cons de_int da_nil))) (da_cons (de_tup (da_cons de_int (da_cons de_int da_nil))) da_nil))) da_nil))) (da_cons (de_call (ok_plain T) (hr.mono (by decide)) rfl T.g_plain T.k_plain T.b_plain (takes_of rfl rfl rfl rfl) (da_cons de_int (da_cons (de_tup (da_cons (de_tup (da_cons de_int da_nil)) (da_cons (de_tup (da_cons de_int (da_cons de_int da_nil))) da_nil))) da_nil))) da_nil)))) 
    (dss_cons (ds_set (i := 2) (mu := false) sc_law.nd rfl (Or.inl rfl) (de_bin op_addA (od_add rfl) (de_var 2) (de_lst (da_cons (de_call (ok_plain T) (hr.mono (by decide)) rfl T.g_plain T.k_plain T.b_plain (takes_of rfl rfl rfl rfl) (da_cons de_int (da_cons (de_tup (da_cons (de_tup (da_cons de_int (da_cons de_int da_nil))) (da_cons (de_tup (da_cons de_int (da_cons de_int da_nil))) da_nil))) da_nil))) (da_cons (de_call (ok_plain T) (hr.mono (by decide)) rfl T.g_plain T.k_plain T.b_plain (takes_of rfl rfl rfl rfl) (da_cons de_int (da_cons (de_tup (da_cons (de_tup da_nil) (da_cons (de_tup (da_cons de_int da_nil)) da_nil))) da_nil))) da_nil))))) 
    (dss_cons (ds_if (mu := false) (dt_not (dt_val (DE.to (F' := [1]) (mu' := false) (de_call (ok__law_is T 8) (hr.mono (by decide)) rfl T.g__law_is T.k__law_is T.b__law_is (takes_of rfl rfl rfl rfl) (da_cons (de_var 2) (da_cons (de_lst (da_cons (de_tup (da_cons (de_tup da_nil) (da_cons (de_tup (da_cons de_int (da_cons de_int da_nil))) da_nil))) (da_cons (de_tup (da_cons (de_tup da_nil) (da_cons (de_tup (da_cons de_int da_nil)) da_nil))) (da_cons (de_tup (da_cons (de_tup (da_cons de_int da_nil)) (da_cons (de_tup (da_cons de_int (da_cons de_int da_nil))) da_nil))) (da_cons (de_tup (da_cons (de_tup da_nil) (da_cons (de_tup (da_cons de_int da_nil)) da_nil))) da_nil))))) da_nil)))))) (dss_one (ds_ret (F := []) (mu := false) de_bl)) dss_nil) (dss_one (ds_ret (F := [1]) (mu := true) (de_fnB (cr_all rfl) (cd_all) rfl T.n_all rfl (da_cons (DEO.de (do_lc (F1 := [1]) (ownN := [("turn", 3)]) rfl sc_law.nd (di_range1 rfl T.n_range (da_cons de_int da_nil)) (blkOk_by (by show blkC ["script", "hand", "told", "turn"] (defScope s_law) _ _ = true; decide +kernel)) (fun _ _ _ _ _ => (dg_name (i := 3) sc_law.nd rfl (Or.inl rfl))) (fun _ _ _ _ _ => dts_nil) (fun _ _ _ _ _ => (de_callK (ok__law_is_right T) (hr.mono (by decide)) rfl T.g__law_is_right T.k__law_is_right T.b__law_is_right takes0 (dk_slot (i := 1) (pe_var (i := 1) rfl (by first | exact Or.inl rfl | exact Or.inr (Or.inl rfl) | exact Or.inr (Or.inr rfl)) (by decide) (by decide)) (dk_val (mu := true) (de_bin op_addA (od_add rfl) de_int (de_callK (ok__law_draw T) (hr.mono (by decide)) rfl T.g__law_draw T.k__law_draw T.b__law_draw takes0 (dk_slot (i := 1) (pe_var (i := 1) rfl (by first | exact Or.inl rfl | exact Or.inr (Or.inl rfl) | exact Or.inr (Or.inr rfl)) (by decide) (by decide)) (dk_val (mu := false) de_int dk_nil)))) dk_nil)))))) da_nil)))))))))
end
end VL
end

section
set_option Elab.async false
set_option linter.all false
set_option maxRecDepth 100000
namespace VL
open PySem PySem.Spec PyProof.Rows L2
theorem draw_ok : DrawOk f__law_draw := by
  intro h hh many hm hm2
  obtain ⟨cells, a, r, s, c, ha0, rfl⟩ := hh
  unfold f__law_draw m__law_draw
  rw [ev_run]
  have hmod : ∀ x : Int, modD (.int x) (.int many) = some (.int (x % many)) := fun x => ev_mod x many hm
  have hdiv : ∀ x : Int, fdivD (.int x) (.int many) = some (.int (x / many)) := fun x => ev_fdiv x many hm hm2
  by_cases h1 : r = 0 ∧ a < cells.length
  · obtain ⟨rfl, h1⟩ := h1
    obtain ⟨x, hat, hx⟩ := atI_ge (xs := cells.map D.int) ha0 (by simpa using h1)
    obtain ⟨z, _, rfl⟩ := List.mem_map.mp hx
    by_cases h2 : (1000000000000000000 : Int) ≤ z
    · have h3 : 0 < z := by omega
      simp [atI_0, atI_1, atI_2, atI_3, atI_4, hat, h1, h2, h3, ev_mulM, ev_mul, ev_fdiv, ev_mod, hmod, hdiv, pow18, ix5_1, ix5_2, ix5_3, ix5_4]
      exact ⟨_, _, ⟨rfl, rfl⟩, Int.emod_nonneg _ (by omega), Int.emod_lt_of_pos _ hm, cells, _, _, _, _, by omega, rfl⟩
    · simp [atI_0, atI_1, atI_2, atI_3, atI_4, hat, h1, h2, ev_mulM, ev_mul, ev_fdiv, ev_mod, hmod, hdiv, pow18, ix5_1, ix5_2, ix5_3, ix5_4]
      exact ⟨_, _, ⟨rfl, rfl⟩, Int.emod_nonneg _ (by omega), Int.emod_lt_of_pos _ hm, cells, _, _, _, _, by omega, rfl⟩
  · by_cases h2 : 0 < r
    · have h3 : ¬ r = 0 := by omega
      simp [atI_0, atI_1, atI_2, atI_3, atI_4, h2, h3, ev_mulM, ev_mul, ev_fdiv, ev_mod, hmod, hdiv, pow18, ix5_1, ix5_2, ix5_3, ix5_4]
      exact ⟨_, _, ⟨rfl, rfl⟩, Int.emod_nonneg _ (by omega), Int.emod_lt_of_pos _ hm, cells, _, _, _, _, by omega, rfl⟩
    · by_cases h3 : r = 0
      · subst h3
        have h4 : ¬ a < cells.length := fun z => h1 ⟨rfl, z⟩
        simp [atI_0, atI_1, atI_2, atI_3, atI_4, h4, ev_mulM, ev_mul, ev_fdiv, ev_mod, hmod, hdiv, pow18, ix5_1, ix5_2, ix5_3, ix5_4]
        exact ⟨_, _, ⟨rfl, rfl⟩, Int.emod_nonneg _ (by omega), Int.emod_lt_of_pos _ hm, cells, _, _, _, _, by omega, rfl⟩
      · simp [atI_0, atI_1, atI_2, atI_3, atI_4, h2, h3, ev_mulM, ev_mul, ev_fdiv, ev_mod, hmod, hdiv, pow18, ix5_1, ix5_2, ix5_3, ix5_4]
        exact ⟨_, _, ⟨rfl, rfl⟩, Int.emod_nonneg _ (by omega), Int.emod_lt_of_pos _ hm, cells, _, _, _, _, by omega, rfl⟩
theorem hand_ok (ns : List Int) : ∃ h, f__law_hand [.scr ns] = .ok (h, []) ∧ HandD h := by
  unfold f__law_hand m__law_hand
  rw [ev_run]
  obtain ⟨ks, e, hl⟩ := cut63 ns
  have hs : ks.length ≤ sizeLine := sl_len (by omega)
  have h5 : 5 ≤ sizeLine := sl_len (by omega)
  have lc := lcIter_map (gd := VL.gName 2) (tt := tYesD) (me := mFn absD (mCons (mFn intD (mCons (mVar 2) mNil)) mNil)) (own := [2]) (env := [some (.scr ns), none, none]) (enc := D.int) (g := fun x => .int (if x < 0 then -x else x)) (xs := ks)
    (fun x _ => ⟨[some (.scr ns), none, some (.int x)], [some (.scr ns), none, some (.int x)], [some (.scr ns), none, some (.int x)], by simp, rfl, by simp, rfl⟩)
  simp [seqOf, e, hs, h5, lc, ev_mul]
  exact ⟨ks.map fun x => if x < 0 then -x else x, _, _, _, _, Int.le_refl 0, by rw [List.map_map]; rfl⟩
theorem drawn_row_ok {h : D} (hh : HandD h) {s most : Int} (hs : 0 < s) (hs2 : s < 2 ^ 64) (hm : 0 ≤ most) (hm2 : most ≤ 1000) :
    ∃ xs h', f__law_drawn_row [h, .int s, .int most] = .ok (rowD xs, [some h']) ∧ Sg s xs ∧ (xs.length : Int) ≤ most ∧ HandD h' := by
  unfold f__law_drawn_row m__law_drawn_row
  rw [ev_run]
  obtain ⟨k, h1, e1, k0, k1, hh1⟩ := draw_ok hh (many := most + 1) (by omega) (by omega)
  have hk : k.toNat ≤ sizeLine := sl_len (by omega)
  have c1 : -4611686018427387904 ≤ k ∧ k < 4611686018427387904 := by omega
  obtain ⟨ys, e2, g1, g2, g3, h2, hh2, rfl⟩ := lcIter_all (gd := VL.gName 3) (tt := tYesD) (me := mCallK f__law_draw [0] (kSlot 0 (kVal (mVar 1) kNil))) (own := [3]) (P := fun env => ∃ h, HandD h ∧ env = [some h, some (.int s), some (.int most), none])
    (Q := fun y => ∃ x, y = .int x ∧ 0 ≤ x ∧ x < s) (ds := (List.range k.toNat).map (fun (i : Nat) => D.int (i : Int))) (env := [some h1, some (.int s), some (.int most), none]) ⟨h1, hh1, rfl⟩ (by
      rintro d hd env ⟨h2, hh2, rfl⟩
      obtain ⟨z, h3, e3, z0, z1, hh3⟩ := draw_ok hh2 hs hs2
      exact ⟨[some h2, some (.int s), some (.int most), some d], [some h2, some (.int s), some (.int most), some d], .int z, [some h3, some (.int s), some (.int most), some d], by simp, rfl, by simp [e3], ⟨z, rfl, z0, z1⟩, h3, hh3, by simp⟩)
  obtain ⟨xs, rfl, hx⟩ := ints_of g3
  simp [e1, hk, c1, g1]
  refine ⟨xs, h2, ⟨rfl, rfl⟩, hx, ?_, hh2⟩
  simp at g2
  omega
/-! ### the signs -/
theorem is_whole_int (i : Int) : f_is_whole [.int i] = .ok (.bl true, []) := by rfl
theorem is_within_int (i a b : Int) : f_is_within [.int i, .int a, .int b] = .ok (.bl (decide (a ≤ i ∧ i ≤ b)), []) := by
  unfold f_is_within m_is_within
  rw [ev_run]
  simp [is_whole_int]
  by_cases h : a ≤ i
  · simp [h]
  · simp [h]
theorem is_row_ok {s : Int} {xs : List Int} (hx : Sg s xs) (hl : xs.length ≤ 1000000) : f_is_row [.int s, rowD xs] = .ok (.bl true, []) := by
  unfold f_is_row m_is_row
  rw [ev_run]
  have hs : xs.length ≤ sizeLine := sl_len (by omega)
  have lc := lcIter_map (gd := VL.gName 2) (tt := tYesD) (me := mCall f_is_within (mCons (mVar 2) (mCons (mC (.int 0)) (mCons (mBin subD (mVar 0) (mC (.int 1))) mNil)))) (own := [2]) (env := [some (.int s), some (rowD xs), none]) (enc := D.int) (g := fun _ => .bl true) (xs := xs)
    (fun x hx' => ⟨[some (.int s), some (rowD xs), some (.int x)], [some (.int s), some (rowD xs), some (.int x)], [some (.int s), some (rowD xs), some (.int x)], by simp, rfl, (by
      have := hx x hx'
      have h2 : 0 ≤ x ∧ x ≤ s - 1 := by omega
      simp [is_within_int, h2]), rfl⟩)
  have it : isiD "tuple" (.tup (xs.map D.int)) = some (.bl true) := by rfl
  have al : allD [.lst (xs.map fun _ => D.bl true)] = some (.bl true) := allD_true (by simp)
  simp [it, seqOf, hs, lc, al]
abbrev lineD (h r : List Int) : D := .tup [rowD h, rowD r]
structure LineOk (s : Int) (h r : List Int) : Prop where
  hh : Sg s h
  hr : Sg s r
  ne : r ≠ []
  lh : h.length ≤ 1000
  lr : r.length ≤ 1000
theorem is_line_ok {s : Int} {h r : List Int} (L : LineOk s h r) : f_is_line [.int s, lineD h r] = .ok (.bl true, []) := by
  unfold f_is_line m_is_line
  rw [ev_run]
  have e1 := is_row_ok L.hh (by have := L.lh; omega)
  have e2 := is_row_ok L.hr (by have := L.lr; omega)
  have it : isiD "tuple" (lineD h r) = some (.bl true) := by rfl
  have hs : 2 ≤ sizeLine := sl_len (by omega)
  have al : allD [.lst [D.bl true, D.bl true]] = some (.bl true) := allD_true (by simp)
  have hr : 0 < r.length := List.length_pos_iff.mpr L.ne
  simp [it, seqOf, hs, lcIter, e1, e2, al, atI_1, hr]
theorem check_line_ok {s : Int} {h r : List Int} (L : LineOk s h r) : f_check_line [.int s, lineD h r] = .ok (.non, []) := by
  unfold f_check_line m_check_line
  rw [ev_run]
  simp [is_line_ok L]
theorem check_signs_ok {s : Int} (h : 2 ≤ s ∧ s ≤ 4) : f_check_signs [.int s] = .ok (.non, []) := by
  unfold f_check_signs m_check_signs
  rw [ev_run]
  simp [is_within_int, h]
/-! ### the shortest way -/
open Wd
theorem mul_row (xs : List Int) (m : Nat) (h : m ≤ 100000) (h2 : m * xs.length ≤ 16777216) : mulD (rowD xs) (.int (m : Int)) = some (rowD ((List.replicate m xs).flatten)) := by
  unfold mulD
  simp only []
  rw [if_pos ⟨by omega, by omega, by rw [Int.toNat_natCast, List.length_map]; exact sl_len h2⟩, Int.toNat_natCast]
  simp [rowD, List.map_flatten, List.map_replicate]
/-- the test of a size -/
theorem test_per {r : List Int} {k : Nat} (hl : r.length ≤ 1000) : mulD (.tup (cutL (r.map D.int) none (some (k : Int)))) (.int ((r.length : Int) / (k : Int))) = some (rowD ((List.replicate (r.length / k) (r.take k)).flatten)) := by
  rw [cut_to, ← List.map_take, ← Int.natCast_ediv]
  have h1 : r.length / k ≤ r.length := Nat.div_le_self _ _
  have h2 : (r.take k).length ≤ r.length := by rw [List.length_take]; omega
  refine mul_row _ _ (by omega) (Nat.le_trans (Nat.mul_le_mul h1 h2) (Nat.le_trans (Nat.mul_le_mul hl hl) (by decide)))
theorem mod_nat (a k : Nat) : ((a : Int) % (k : Int)) = ((a % k : Nat) : Int) := rfl
theorem sg_take {s : Int} {xs : List Int} (h : Sg s xs) (k : Nat) : Sg s (xs.take k) := fun x hx => h x (List.mem_of_mem_take hx)
theorem sg_drop {s : Int} {xs : List Int} (h : Sg s xs) (k : Nat) : Sg s (xs.drop k) := fun x hx => h x (List.mem_of_mem_drop hx)
theorem sg_app {s : Int} {xs ys : List Int} (h : Sg s xs) (h' : Sg s ys) : Sg s (xs ++ ys) := fun x hx => (List.mem_append.mp hx).elim (h x) (h' x)
/-- what a told line's end looks like -/
theorem snoc_of {xs : List Int} (h : xs ≠ []) : ∃ ys y, xs = ys ++ [y] := ⟨xs.dropLast, xs.getLast h, (List.dropLast_concat_getLast h).symm⟩
theorem at_last (ys : List Int) (y : Int) : atI ((ys ++ [y]).map D.int) (-1) = some (.int y) := by rw [atI_last]; simp
theorem cut_last1 (ys : List Int) (y : Int) : cutL ((ys ++ [y]).map D.int) (some (-1)) none = [.int y] := by rw [cut_lastone _ (by simp)]; simp
theorem cut_init1 (ys : List Int) (y : Int) : cutL ((ys ++ [y]).map D.int) none (some (-1)) = ys.map .int := by rw [cut_init]; simp
/-- the strip: turned back while the ends are alike -/
theorem strip {t : TD} {b : SD} {mk : List Int → List Int → Env} {s : Int}
    (hf : ∀ h r, r ≠ [] → (h = [] ∨ h.getLast? ≠ r.getLast?) → t (mk h r) = .ok (false, mk h r))
    (ht : ∀ h r x, t (mk (h ++ [x]) (r ++ [x])) = .ok (true, mk (h ++ [x]) (r ++ [x])))
    (hb : ∀ h r x, r.length ≤ 1000 → b (mk (h ++ [x]) (r ++ [x])) = .ok (.next, mk h (x :: r))) :
    ∀ (n : Nat) (h r : List Int), h.length = n → LineOk s h r → Prim r → ∃ h' r', sWhile t b (mk h r) = .ok (.next, mk h' r') ∧ LineOk s h' r' ∧ Canon h' r' ∧ W h' r' = W h r ∧ h'.length ≤ h.length ∧ r'.length = r.length := by
  intro n
  induction n with
  | zero =>
    intro h r hn L P
    obtain rfl := List.length_eq_zero_iff.mp hn
    exact ⟨[], r, sWhile_false (hf _ _ L.ne (.inl rfl)), L, ⟨L.ne, P, .inl rfl⟩, rfl, Nat.le_refl _, rfl⟩
  | succ n ih =>
    intro h r hn L P
    by_cases hx : h.getLast? = r.getLast?
    · obtain ⟨h0, x, rfl⟩ := snoc_of (xs := h) (fun z => by rw [z] at hn; cases hn)
      obtain ⟨r0, y, rfl⟩ := snoc_of L.ne
      obtain rfl : x = y := by simpa using hx
      have lr : r0.length + 1 ≤ 1000 := by have := L.lr; simpa using this
      have lh : h0.length + 1 ≤ 1000 := by have := L.lh; simpa using this
      have L' : LineOk s h0 (x :: r0) := ⟨fun z hz => L.hh z (by simp [hz]), fun z hz => L.hr z (by rcases List.mem_cons.mp hz with e | e <;> simp [e]), by simp, by omega, by simp; omega⟩
      have P' : Prim (x :: r0) := prim_turn (a := 1) (by simp) (by simp) (by simpa using P)
      obtain ⟨h', r', e1, e2, e3, e4, e5, e6⟩ := ih h0 (x :: r0) (by simpa using hn) L' P'
      refine ⟨h', r', sWhile_next (ht h0 r0 x) (hb h0 r0 x (by omega)) _ (fun z => by cases z) e1, e2, e3, ?_, by simp; omega, by rw [e6]; simp⟩
      rw [e4]
      have := W_turn (h := h0) (r := x :: r0) (a := 1) (by simp) (by simp)
      simpa using this.symm
    · exact ⟨h, r, sWhile_false (hf _ _ L.ne (.inr hx)), L, ⟨L.ne, P, .inr hx⟩, rfl, Nat.le_refl _, rfl⟩
theorem prim_take {r : List Int} {p : Nat} (h1 : 1 ≤ p) (h2 : p ≤ r.length) (h3 : isPer r p) (h4 : ∀ k, 1 ≤ k → k < p → ¬ isPer r k) : Prim (r.take p) := by
  have hl : (r.take p).length = p := by rw [List.length_take]; omega
  have hr : r ≠ [] := fun z => by rw [z] at h2; simp at h2; omega
  intro k k1 k2 hk
  rw [hl] at k2
  have hne : r.take p ≠ [] := fun z => by rw [z] at hl; simp at hl; omega
  have hd : k ∣ p := by have := Nat.dvd_of_mod_eq_zero hk.1; rwa [hl] at this
  refine h4 k k1 k2 (isPer_of (h := []) k1 (Nat.dvd_trans hd (Nat.dvd_of_mod_eq_zero h3.1)) ?_ hr)
  rw [← W_take h1 h2 h3, ← W_take (h := []) k1 (by omega) hk]
  have l2 : ((r.take p).take k).length = k := by rw [List.length_take, hl]; omega
  have := W_per [] ((r.take p).take k)
  rwa [l2] at this
abbrev pp_t1 : TD := mOr (mTest (mBin gtD (mBin modD (mFn lenD (mCons (mVar 1) mNil)) (mVar 2)) (mC (.int 0)))) (mTest (mBin neD (mBin mulD (mSl slD (mVar 1) mNoPart (mPart (mVar 2))) (mBin fdivD (mFn lenD (mCons (mVar 1) mNil)) (mVar 2))) (mVar 1)))
abbrev pp_t2 : TD := mAnd (mTest (mBin gtD (mFn lenD (mCons (mVar 0) mNil)) (mC (.int 0)))) (mTest (mBin eqD (mBin ixD (mVar 0) (mUn negD (mC (.int 1)))) (mBin ixD (mVar 1) (mUn negD (mC (.int 1))))))
abbrev pp_b2 : SD := sSeq (sSet 1 (mBin addD (mSl slD (mVar 1) (mPart (mUn negD (mC (.int 1)))) mNoPart) (mSl slD (mVar 1) mNoPart (mPart (mUn negD (mC (.int 1))))))) (sSet 0 (mSl slD (mVar 0) mNoPart (mPart (mUn negD (mC (.int 1))))))
theorem pp_yes {h r : List Int} {k : Nat} (hk : 1 ≤ k) (hl : r.length ≤ 1000) (hk2 : k ≤ 1000) (hp : ¬ isPer r k) : pp_t1 [some (rowD h), some (rowD r), some (.int (k : Int))] = .ok (true, [some (rowD h), some (rowD r), some (.int (k : Int))]) := by
  have e1 := ev_mod (r.length : Int) (k : Int) (by omega)
  have e2 := ev_fdiv (r.length : Int) (k : Int) (by omega) (by omega)
  have e3 := test_per (k := k) hl
  by_cases hz : r.length % k = 0
  · have e0 : (r.length : Int) % (k : Int) = 0 := by rw [mod_nat, hz]; rfl
    have ne : (List.replicate (r.length / k) (r.take k)).flatten ≠ r := fun z => hp ⟨hz, z⟩
    simp [e1, e0, e2, e3, ne]
  · have e0 : 0 < (r.length : Int) % (k : Int) := by rw [mod_nat]; omega
    simp [e1, e0]
theorem pp_no {h r : List Int} {k : Nat} (hk : 1 ≤ k) (hl : r.length ≤ 1000) (hk2 : k ≤ 1000) (hp : isPer r k) : pp_t1 [some (rowD h), some (rowD r), some (.int (k : Int))] = .ok (false, [some (rowD h), some (rowD r), some (.int (k : Int))]) := by
  have e0 : (r.length : Int) % (k : Int) = 0 := by rw [mod_nat, hp.1]; rfl
  have e1 : modD (.int (r.length : Int)) (.int (k : Int)) = some (.int 0) := by rw [ev_mod _ _ (by omega), e0]
  have e2 := ev_fdiv (r.length : Int) (k : Int) (by omega) (by omega)
  have e3 := test_per (k := k) hl
  rw [hp.2] at e3
  simp [e1, e2, e3]
theorem pp_loop {h r : List Int} {p : Nat} (hl : r.length ≤ 1000) (p2 : p ≤ r.length) (p3 : isPer r p) (p4 : ∀ k, 1 ≤ k → k < p → ¬ isPer r k) : ∀ d k : Nat, 1 ≤ k → k + d = p → sWhile pp_t1 (sAug 2 iaddD (mC (.int 1)))
      [some (rowD h), some (rowD r), some (.int (k : Int))] = .ok (.next, [some (rowD h), some (rowD r), some (.int (p : Int))]) := by
  intro d
  induction d with
  | zero =>
    intro k hk1 hk
    obtain rfl : k = p := by omega
    exact sWhile_false (pp_no hk1 hl (by omega) p3)
  | succ d ih =>
    intro k hk1 hk
    exact sWhile_next (e := [some (rowD h), some (rowD r), some (.int (k : Int))]) (e' := [some (rowD h), some (rowD r), some (.int ((k + 1 : Nat) : Int))]) (pp_yes hk1 hl (by omega) (p4 k hk1 (by omega))) (by simp) _ (fun z => by cases z) (ih (k + 1) (by omega) (by omega))
theorem pp_strip {s : Int} {h r : List Int} (x0 : Option D) (L1 : LineOk s h r) (P : Prim r) : ∃ h' r', sWhile pp_t2 pp_b2 [some (rowD h), some (rowD r), x0] = .ok (.next, [some (rowD h'), some (rowD r'), x0]) ∧ LineOk s h' r' ∧ Canon h' r' ∧ W h' r' = W h r ∧ h'.length ≤ h.length ∧ r'.length = r.length :=
  strip (s := s) (t := pp_t2) (b := pp_b2)
    (mk := fun h r => [some (rowD h), some (rowD r), x0])
    (by
      intro h r hr ho
      rcases ho with rfl | ho
      · simp
      · obtain ⟨r0, y, rfl⟩ := snoc_of hr
        rcases h.eq_nil_or_concat with rfl | ⟨h0, x, rfl⟩
        · simp
        · have hxy : ¬ x = y := by simpa using ho
          have a1 := at_last h0 x
          have a2 := at_last r0 y
          simp only [List.map_append, List.map_cons, List.map_nil] at a1 a2
          simp [a1, a2, hxy])
    (by
      intro h r x
      have a1 := at_last h x
      have a2 := at_last r x
      simp only [List.map_append, List.map_cons, List.map_nil] at a1 a2
      simp [a1, a2])
    (by
      intro h r x hl
      have a1 := cut_last1 r x
      have a2 := cut_init1 r x
      have a3 := cut_init1 h x
      have hs : 1 + r.length ≤ sizeLine := sl_len (by omega)
      have hs' : r.length + 1 ≤ sizeLine := sl_len (by omega)
      simp only [List.map_append, List.map_cons, List.map_nil] at a1 a2 a3
      simp [a1, a2, a3, hs, hs']) h.length h r rfl L1 P
theorem plain_pair_ok {s : Int} {h r : List Int} (L : LineOk s h r) : ∃ h' r', f_plain_pair [rowD h, rowD r] = .ok (lineD h' r', []) ∧ LineOk s h' r' ∧ Canon h' r' ∧ W h' r' = W h r ∧ h'.length ≤ h.length ∧ r'.length ≤ r.length := by
  unfold f_plain_pair m_plain_pair
  rw [ev_run]
  obtain ⟨p, p1, p2, p3, p4⟩ := least_per r L.ne
  have l1 := pp_loop (h := h) L.lr p2 p3 p4 (p - 1) 1 (Nat.le_refl _) (by omega)
  have hl : (r.take p).length = p := by rw [List.length_take]; omega
  have L1 : LineOk s h (r.take p) := ⟨L.hh, sg_take L.hr p, fun z => by rw [z] at hl; simp at hl; omega, L.lh, by have := L.lr; omega⟩
  obtain ⟨h', r', e1, e2, e3, e4, e5, e6⟩ := pp_strip (some (.int (p : Int))) L1 (prim_take p1 p2 p3 p4)
  have hs2 : 2 ≤ sizeLine := sl_len (by omega)
  have cp : cutL (r.map D.int) none (some (p : Int)) = (r.take p).map D.int := by rw [cut_to, List.map_take]
  refine ⟨h', r', ?_, e2, e3, by rw [e4, W_take p1 p2 p3], e5, by omega⟩
  have k1 : sSet 2 (mC (.int 1)) [some (rowD h), some (rowD r), none] = .ok (.next, [some (rowD h), some (rowD r), some (.int ((1 : Nat) : Int))]) := by simp
  have k2 : sSet 1 (mSl slD (mVar 1) mNoPart (mPart (mVar 2))) [some (rowD h), some (rowD r), some (.int (p : Int))] = .ok (.next, [some (rowD h), some (rowD (r.take p)), some (.int (p : Int))]) := by simp [cp, -List.map_take]
  have k3 : sRet (mTup (mCons (mVar 0) (mCons (mVar 1) mNil))) [some (rowD h'), some (rowD r'), some (.int (p : Int))] = .ok (.ret (lineD h' r'), [some (rowD h'), some (rowD r'), some (.int (p : Int))]) := by simp [hs2]
  simp only [List.map_cons, List.map_nil, List.length_cons, List.length_nil, List.cons_append, List.nil_append, List.replicate, ev_seq, k1, l1, k2, e1, k3, R.bind_ok, ev_projN]
theorem plain_ok {s : Int} {h r : List Int} (hs : 2 ≤ s ∧ s ≤ 4) (L : LineOk s h r) : ∃ h' r', f_plain [.int s, lineD h r] = .ok (lineD h' r', []) ∧ LineOk s h' r' ∧ Canon h' r' ∧ W h' r' = W h r ∧ h'.length ≤ h.length ∧ r'.length ≤ r.length := by
  obtain ⟨h', r', e1, rest⟩ := plain_pair_ok L
  refine ⟨h', r', ?_, rest⟩
  unfold f_plain m_plain
  rw [ev_run]
  simp [check_signs_ok hs, check_line_ok L, atI_0, atI_1, e1]
theorem for_next {gd : GD} {b : SD} {P : Env → Prop} : ∀ {ds : List D} {env : Env}, P env → (∀ d ∈ ds, ∀ env, P env → ∃ e e', gd d env = some e ∧ b e = .ok (.next, e') ∧ P e') → ∃ e, forIter gd b ds env = .ok (.next, e) ∧ P e
  | [], env, h, _ => ⟨env, rfl, h⟩
  | d :: ds, env, h, k => by
    obtain ⟨e, e', h1, h2, h3⟩ := k d (by simp) env h
    obtain ⟨e2, h4, h5⟩ := for_next (ds := ds) h3 fun d hd => k d (by simp [hd])
    exact ⟨e2, by rw [forIter_cons h1 h2]; exact h4, h5⟩
abbrev sh_b : SD := sIf (mTest (mBin eqD (mBin mulD (mSl slD (mVar 2) mNoPart (mPart (mVar 3))) (mBin fdivD (mFn lenD (mCons (mVar 2) mNil)) (mVar 3))) (mVar 2))) (sSeq (sSet 2 (mSl slD (mVar 2) mNoPart (mPart (mVar 3)))) sBrk) sNext
theorem isPer_of_eq {r : List Int} {k : Nat} (hk : 1 ≤ k) (hl : k ≤ r.length) (e : (List.replicate (r.length / k) (r.take k)).flatten = r) : isPer r k := by
  refine ⟨?_, e⟩
  have l := congrArg List.length e
  have hl2 : (r.take k).length = k := by rw [List.length_take]; omega
  rw [flat_len, hl2] at l
  have := Nat.div_add_mod r.length k
  rw [Nat.mul_comm] at this
  omega
theorem sh_loop {x0 : Option D} {h r : List Int} {p : Nat} (hl : r.length ≤ 1000) (p2 : p ≤ r.length) (p3 : isPer r p) (p4 : ∀ k, 1 ≤ k → k < p → ¬ isPer r k) : ∀ (n k : Nat) (x3 : Option D), 1 ≤ k → k ≤ p → p < k + n →
    forIter (VL.gName 3) sh_b ((List.range' k n).map fun i : Nat => D.int (i : Int)) [x0, some (rowD h), some (rowD r), x3] = .ok (.next, [x0, some (rowD h), some (rowD (r.take p)), some (.int (p : Int))]) := by
  intro n
  induction n with
  | zero => intro k x3 h1 h2 h3; omega
  | succ n ih =>
    intro k x3 h1 h2 h3
    rw [List.range'_succ, List.map_cons]
    have e2 := ev_fdiv (r.length : Int) (k : Int) (by omega) (by omega)
    have e3 := test_per (k := k) hl
    have c := cut_to (r.map D.int) k
    rw [← List.map_take] at c
    by_cases hp : k = p
    · subst hp
      rw [p3.2, c] at e3
      rw [forIter_cons (e := [x0, some (rowD h), some (rowD r), some (.int (k : Int))]) (f := .brk) (e' := [x0, some (rowD h), some (rowD (r.take k)), some (.int (k : Int))]) (by simp) (by simp [e2, e3, c, -List.map_take])]
    · have ne : (List.replicate (r.length / k) (r.take k)).flatten ≠ r := fun z => p4 k h1 (by omega) (isPer_of_eq h1 (by omega) z)
      rw [forIter_cons (e := [x0, some (rowD h), some (rowD r), some (.int (k : Int))]) (f := .next) (e' := [x0, some (rowD h), some (rowD r), some (.int (k : Int))]) (by simp) (by simp [e2, e3, ne])]
      exact ih (k + 1) _ (by omega) (by omega) (by omega)
abbrev sh_t2 : TD := mAnd (mTest (mBin gtD (mFn lenD (mCons (mVar 1) mNil)) (mC (.int 0)))) (mTest (mBin eqD (mBin ixD (mVar 1) (mUn negD (mC (.int 1)))) (mBin ixD (mVar 2) (mUn negD (mC (.int 1))))))
abbrev sh_b2 : SD := sPar [1, 2] (mCons (mSl slD (mVar 1) mNoPart (mPart (mUn negD (mC (.int 1))))) (mCons (mBin addD (mSl slD (mVar 2) (mPart (mUn negD (mC (.int 1)))) mNoPart) (mSl slD (mVar 2) mNoPart (mPart (mUn negD (mC (.int 1)))))) mNil))
theorem sh_strip {s : Int} {h r : List Int} (x0 x3 : Option D) (L1 : LineOk s h r) (P : Prim r) : ∃ h' r', sWhile sh_t2 sh_b2 [x0, some (rowD h), some (rowD r), x3] = .ok (.next, [x0, some (rowD h'), some (rowD r'), x3]) ∧ LineOk s h' r' ∧ Canon h' r' ∧ W h' r' = W h r ∧ h'.length ≤ h.length ∧ r'.length = r.length :=
  strip (s := s) (t := sh_t2) (b := sh_b2)
    (mk := fun h r => [x0, some (rowD h), some (rowD r), x3])
    (by
      intro h r hr ho
      rcases ho with rfl | ho
      · simp
      · obtain ⟨r0, y, rfl⟩ := snoc_of hr
        rcases h.eq_nil_or_concat with rfl | ⟨h0, x, rfl⟩
        · simp
        · have hxy : ¬ x = y := by simpa using ho
          have a1 := at_last h0 x
          have a2 := at_last r0 y
          simp only [List.map_append, List.map_cons, List.map_nil] at a1 a2
          simp [a1, a2, hxy])
    (by
      intro h r x
      have a1 := at_last h x
      have a2 := at_last r x
      simp only [List.map_append, List.map_cons, List.map_nil] at a1 a2
      simp [a1, a2])
    (by
      intro h r x hl
      have a1 := cut_last1 r x
      have a2 := cut_init1 r x
      have a3 := cut_init1 h x
      have hs : 1 + r.length ≤ sizeLine := sl_len (by omega)
      have hs' : r.length + 1 ≤ sizeLine := sl_len (by omega)
      simp only [List.map_append, List.map_cons, List.map_nil] at a1 a2 a3
      simp [a1, a2, a3, hs, hs']) h.length h r rfl L1 P
theorem shortest_ok {s : Int} {h r : List Int} (L : LineOk s h r) : ∃ h' r', f__law_shortest [lineD h r] = .ok (lineD h' r', []) ∧ LineOk s h' r' ∧ Canon h' r' ∧ W h' r' = W h r := by
  unfold f__law_shortest m__law_shortest
  rw [ev_run]
  obtain ⟨p, p1, p2, p3, p4⟩ := least_per r L.ne
  have hl : (r.take p).length = p := by rw [List.length_take]; omega
  have L1 : LineOk s h (r.take p) := ⟨L.hh, sg_take L.hr p, fun z => by rw [z] at hl; simp at hl; omega, L.lh, by have := L.lr; omega⟩
  obtain ⟨h', r', e1, e2, e3, e4, e5, e6⟩ := sh_strip (some (lineD h r)) (some (.int (p : Int))) L1 (prim_take p1 p2 p3 p4)
  have hs2 : 2 ≤ sizeLine := sl_len (by omega)
  refine ⟨h', r', ?_, e2, e3, by rw [e4, W_take p1 p2 p3]⟩
  have k1 : sAsg (VL.gTup 2 (VL.gCons (VL.gName 1) (VL.gCons (VL.gName 2) VL.gNil))) (mVar 0) [some (lineD h r), none, none, none] = .ok (.next, [some (lineD h r), some (rowD h), some (rowD r), none]) := by simp [VL.gTup, VL.gCons]
  have k2 : sFor (mRange2 (mCons (mC (.int 1)) (mCons (mBin addD (mFn lenD (mCons (mVar 2) mNil)) (mC (.int 1))) mNil))) (VL.gName 3) sh_b [some (lineD h r), some (rowD h), some (rowD r), none] = .ok (.next, [some (lineD h r), some (rowD h), some (rowD (r.take p)), some (.int (p : Int))]) := by
    have hb : (-4611686018427387904 ≤ (r.length : Int) + 1 ∧ (r.length : Int) + 1 < 4611686018427387904) := by have := L.lr; omega
    have e : (List.range r.length).map (fun q : Nat => D.int (1 + (q : Int))) = (List.range' 1 r.length).map fun i : Nat => D.int (i : Int) := by
      rw [List.range'_eq_map_range, List.map_map]
      refine List.map_congr_left fun q _ => ?_
      simp
    have lp := sh_loop (x0 := some (lineD h r)) (h := h) L.lr p2 p3 p4 r.length 1 none (Nat.le_refl _) p1 (by omega)
    rw [← e] at lp
    simp only [ev_for, ev_range2, ev_cons, ev_C, ev_bin, ev_fn, ev_var, ev_nil, ev_lenT, R.bind_ok, R.ofO_some, ev_add, List.getElem?_cons_succ, List.getElem?_cons_zero, List.length_map]
    rw [decide_eq_true (by omega), R.guard_true, R.bind_ok]
    have e9 : ((r.length : Int) + 1 - 1).toNat = r.length := by omega
    simp only [e9]
    exact lp
  have k3 : sRet (mTup (mCons (mVar 1) (mCons (mVar 2) mNil))) [some (lineD h r), some (rowD h'), some (rowD r'), some (.int (p : Int))] = .ok (.ret (lineD h' r'), [some (lineD h r), some (rowD h'), some (rowD r'), some (.int (p : Int))]) := by simp [hs2]
  simp only [List.map_cons, List.map_nil, List.length_cons, List.length_nil, List.cons_append, List.nil_append, List.replicate, ev_seq, k1, k2, e1, k3, R.bind_ok, ev_projN]
theorem begun_ok {h r : List Int} (hr : r ≠ []) (l1 : h.length ≤ 1000) (l2 : r.length ≤ 1000) {n : Nat} (hn : n ≤ 50000) : f__law_begun [lineD h r, .int (n : Int)] = .ok (rowD ((List.range n).map (W h r)), []) := by
  have hpos := List.length_pos_iff.mpr hr
  unfold f__law_begun m__law_begun
  rw [ev_run]
  have e1 := ev_fdiv (n : Int) (r.length : Int) (by omega) (by omega)
  have hd : n / r.length ≤ n := Nat.div_le_self _ _
  have hd2 : n / r.length * r.length ≤ n := Nat.div_mul_le_self _ _
  have hm : (1 + n / r.length) * r.length ≤ 60000 := by rw [Nat.add_mul, Nat.one_mul]; omega
  have e2 := mul_row r (1 + n / r.length) (by omega) (by omega)
  have hs : h.length + (1 + n / r.length) * r.length ≤ sizeLine := sl_len (by omega)
  have hb := begun (h := h) (r := r) (m := 1 + n / r.length) (n := n) (by
    have := Nat.lt_div_mul_add (a := n) (b := r.length) hpos
    rw [Nat.add_mul, Nat.one_mul]
    omega)
  have c := cut_to ((h ++ (List.replicate (1 + n / r.length) r).flatten).map D.int) n
  rw [← List.map_take, hb] at c
  have e2' : mulD (.tup (r.map D.int)) (.int (1 + (n : Int) / (r.length : Int))) = some (.tup (((List.replicate (1 + n / r.length) r).flatten).map D.int)) := by
    have : (1 + (n : Int) / (r.length : Int)) = ((1 + n / r.length : Nat) : Int) := by rw [Int.natCast_add, Int.natCast_ediv]; rfl
    rw [this]
    exact e2
  have e3 : addD (.tup (h.map D.int)) (.tup (((List.replicate (1 + n / r.length) r).flatten).map D.int)) = some (.tup ((h ++ (List.replicate (1 + n / r.length) r).flatten).map D.int)) := by
    rw [ev_addT, if_pos (by rw [List.length_map, List.length_map, flat_len]; exact hs), List.map_append]
  have k1 : sAsg (VL.gTup 2 (VL.gCons (VL.gName 2) (VL.gCons (VL.gName 3) VL.gNil))) (mVar 0) [some (lineD h r), some (.int (n : Int)), none, none] = .ok (.next, [some (lineD h r), some (.int (n : Int)), some (rowD h), some (rowD r)]) := by simp [VL.gTup, VL.gCons]
  simp only [List.map_cons, List.map_nil, List.length_cons, List.length_nil, List.cons_append, List.nil_append, List.replicate, ev_seq, k1, R.bind_ok, ev_ret, ev_sl, ev_bin, ev_var, List.getElem?_cons_succ, List.getElem?_cons_zero, ev_fn, ev_cons, ev_nil, ev_lenT, R.ofO_some, ev_C, List.length_map, e1, ev_add, e2', e3, ev_nopart, ev_part, ev_slT, c, ev_projN]
end VL
end

section
set_option Elab.async false
set_option linter.all false
set_option maxRecDepth 100000
namespace VL
open PySem PySem.Spec PyProof.Rows L2 Wd
theorem LineOk.pos {s : Int} {h r : List Int} (L : LineOk s h r) : 0 < r.length := List.length_pos_iff.mpr L.ne
noncomputable abbrev lw_bi : SD := sIf (mTest (mBin eqD (mCall f__law_begun (mCons (mTup (mCons (mSl slD (mVar 2) mNoPart (mPart (mVar 3))) (mCons (mSl slD (mVar 2) (mPart (mVar 3)) (mPart (mBin addD (mVar 3) (mVar 5)))) mNil))) (mCons (mVar 1) mNil))) (mVar 2))) (sRet (mC (.bl false))) sNext
theorem lw_inner {h r : List Int} (C : Canon h r) (l1 : h.length ≤ 200) (l2 : r.length ≤ 200) {M k w : Nat} (hM : M = 2 * (h.length + r.length) + 20) (hk : k ≤ h.length) (hw : 1 ≤ w) (hw2 : w ≤ r.length) (hne : k < h.length ∨ w < r.length) (x0 x4 : Option D) :
    lw_bi [x0, some (.int (M : Int)), some (rowD ((List.range M).map (W h r))), some (.int (k : Int)), x4, some (.int (w : Int))] = .ok (.next, [x0, some (.int (M : Int)), some (rowD ((List.range M).map (W h r))), some (.int (k : Int)), x4, some (.int (w : Int))]) := by
  generalize hp : (List.range M).map (W h r) = pre
  have lp : pre.length = M := by rw [← hp]; simp
  have la : (pre.take k).length = k := by rw [List.length_take]; omega
  have lb : ((pre.drop k).take w).length = w := by rw [List.length_take, List.length_drop]; omega
  have nb : (pre.drop k).take w ≠ [] := fun z => by rw [z] at lb; simp at lb; omega
  have b := begun_ok (h := pre.take k) (r := (pre.drop k).take w) nb (by omega) (by omega) (n := M) (by omega)
  have c1 := cut_to (pre.map D.int) k
  have c2 := cut_fromto (pre.map D.int) k (k + w)
  have e : k + w - k = w := by omega
  rw [← List.map_take] at c1
  rw [e, ← List.map_drop, ← List.map_take, Int.natCast_add] at c2
  have ne : (List.range M).map (W (pre.take k) ((pre.drop k).take w)) ≠ pre := fun z => by
    rw [← hp] at z
    have q := pre_eq.mp z
    rw [hp] at q
    obtain ⟨a1, a2⟩ := no_shorter C (n := M) (by omega) (by rw [la]; exact hk) (by rw [lb]; exact hw2) nb q
    rw [la] at a1
    rw [lb] at a2
    omega
  have hs2 : 2 ≤ sizeLine := sl_len (by omega)
  generalize (List.range M).map (W (pre.take k) ((pre.drop k).take w)) = pre' at b ne
  simp only [rowD, lineD] at b c1 c2
  simp [c1, c2, b, hs2, ne, -List.map_take, -List.map_drop]
theorem least_way_ok {s : Int} {h r : List Int} (L : LineOk s h r) (C : Canon h r) (l1 : h.length ≤ 200) (l2 : r.length ≤ 200) : f__law_is_least_way [lineD h r] = .ok (.bl true, []) := by
  unfold f__law_is_least_way m__law_is_least_way
  rw [ev_run]
  obtain ⟨M, hM⟩ : ∃ M : Nat, M = 2 * (h.length + r.length) + 20 := ⟨_, rfl⟩
  have b := begun_ok L.ne (by omega) (by omega) (n := M) (h := h) (by omega)
  have eM : ((2 : Int) * ((h.length : Int) + (r.length : Int)) + 20) = (M : Int) := by omega
  have outer := for_next (gd := VL.gName 3) (b := sSeq (sSet 4 (mIf (mTest (mBin eqD (mVar 3) (mFn lenD (mCons (mBin ixD (mVar 0) (mC (.int 0))) mNil)))) (mFn lenD (mCons (mBin ixD (mVar 0) (mC (.int 1))) mNil)) (mBin addD (mFn lenD (mCons (mBin ixD (mVar 0) (mC (.int 1))) mNil)) (mC (.int 1))))) (sFor (mRange2 (mCons (mC (.int 1)) (mCons (mVar 4) mNil))) (VL.gName 5) lw_bi))
    (P := fun env => ∃ x3 x4 x5, env = [some (lineD h r), some (.int (M : Int)), some (rowD ((List.range M).map (W h r))), x3, x4, x5])
    (ds := (List.range (h.length + 1)).map fun i : Nat => D.int (i : Int)) (env := [some (lineD h r), some (.int (M : Int)), some (rowD ((List.range M).map (W h r))), none, none, none]) ⟨_, _, _, rfl⟩ (by
      rintro d hd env ⟨x3, x4, x5, rfl⟩
      obtain ⟨k, hk, rfl⟩ := List.mem_map.mp hd
      have hk : k < h.length + 1 := by simpa using hk
      obtain ⟨m, hm, hm2⟩ : ∃ m : Nat, m = (if k = h.length then r.length else r.length + 1) ∧ m ≤ 201 := ⟨_, rfl, by split <;> omega⟩
      obtain ⟨e, i1, x5', rfl⟩ := for_next (gd := VL.gName 5) (b := lw_bi) (P := fun env => ∃ x5, env = [some (lineD h r), some (.int (M : Int)), some (rowD ((List.range M).map (W h r))), some (.int (k : Int)), some (.int (m : Int)), x5])
        (ds := (List.range (m - 1)).map fun q : Nat => D.int (1 + (q : Int))) (env := [some (lineD h r), some (.int (M : Int)), some (rowD ((List.range M).map (W h r))), some (.int (k : Int)), some (.int (m : Int)), x5]) ⟨_, rfl⟩ (by
          rintro d hd env ⟨x5, rfl⟩
          obtain ⟨q, hq, rfl⟩ := List.mem_map.mp hd
          have hq : q < m - 1 := by simpa using hq
          have hi := lw_inner C l1 l2 (k := k) (w := 1 + q) hM (by omega) (by omega) (by split at hm <;> omega) (by split at hm <;> omega) (some (lineD h r)) (some (.int (m : Int)))
          have eq : ((1 + q : Nat) : Int) = 1 + (q : Int) := by omega
          rw [eq] at hi
          exact ⟨[some (lineD h r), some (.int (M : Int)), some (rowD ((List.range M).map (W h r))), some (.int (k : Int)), some (.int (m : Int)), some (.int (1 + (q : Int)))], _, by simp, hi, _, rfl⟩)
      refine ⟨[some (lineD h r), some (.int (M : Int)), some (rowD ((List.range M).map (W h r))), some (.int (k : Int)), x4, x5], [some (lineD h r), some (.int (M : Int)), some (rowD ((List.range M).map (W h r))), some (.int (k : Int)), some (.int (m : Int)), x5'], by simp, ?_, _, _, _, rfl⟩
      have cm : -4611686018427387904 ≤ (m : Int) ∧ (m : Int) < 4611686018427387904 := by omega
      have em : ((m : Int) - 1).toNat = m - 1 := by omega
      by_cases hkl : k = h.length
      · rw [if_pos hkl] at hm
        subst hkl
        subst hm
        simp only [ev_seq, ev_set, ev_if, ev_test, ev_bin, ev_var, ev_fn, ev_cons, ev_nil, ev_C, List.getElem?_cons_succ, List.getElem?_cons_zero, R.bind_ok, ev_ixT, atI_0, atI_1, R.ofO_some, ev_lenT, List.length_map, eqD_int, decide_true, if_true]
        simp only [List.length_cons, List.length_nil]
        rw [decide_eq_true (by omega), R.guard_true, R.bind_ok]
        simp only [List.set_cons_succ, List.set_cons_zero, ev_for, ev_range2, ev_cons, ev_C, ev_nil, ev_var, List.getElem?_cons_succ, List.getElem?_cons_zero, R.bind_ok]
        rw [decide_eq_true (by omega), R.guard_true, R.bind_ok]
        simp only [em]
        exact i1
      · rw [if_neg hkl] at hm
        have hkl' : ¬ (k : Int) = (h.length : Int) := by omega
        have em2 : (r.length : Int) + 1 = (m : Int) := by omega
        simp only [ev_seq, ev_set, ev_if, ev_test, ev_bin, ev_var, ev_fn, ev_cons, ev_nil, ev_C, List.getElem?_cons_succ, List.getElem?_cons_zero, R.bind_ok, ev_ixT, atI_0, atI_1, R.ofO_some, ev_lenT, List.length_map, eqD_int, decide_eq_false hkl', if_neg Bool.false_ne_true, ev_add, em2]
        simp only [List.length_cons, List.length_nil]
        rw [decide_eq_true (by omega), R.guard_true, R.bind_ok]
        simp only [List.set_cons_succ, List.set_cons_zero, ev_for, ev_range2, ev_cons, ev_C, ev_nil, ev_var, List.getElem?_cons_succ, List.getElem?_cons_zero, R.bind_ok]
        rw [decide_eq_true (by omega), R.guard_true, R.bind_ok]
        simp only [em]
        exact i1)
  obtain ⟨e, o1, x3, x4, x5, rfl⟩ := outer
  have ch : -4611686018427387904 ≤ (h.length : Int) + 1 ∧ (h.length : Int) + 1 < 4611686018427387904 := by omega
  have eh : ((h.length : Int) + 1).toNat = h.length + 1 := by omega
  have k1 : sSet 1 (mBin addD (mBin mulD (mC (.int 2)) (mBin addD (mFn lenD (mCons (mBin ixD (mVar 0) (mC (.int 0))) mNil)) (mFn lenD (mCons (mBin ixD (mVar 0) (mC (.int 1))) mNil)))) (mC (.int 20))) [some (lineD h r), none, none, none, none, none] = .ok (.next, [some (lineD h r), some (.int (M : Int)), none, none, none, none]) := by
    simp [atI_0, atI_1, ev_mul, eM]
  have k2 : sSet 2 (mCall f__law_begun (mCons (mVar 0) (mCons (mVar 1) mNil))) [some (lineD h r), some (.int (M : Int)), none, none, none, none] = .ok (.next, [some (lineD h r), some (.int (M : Int)), some (rowD ((List.range M).map (W h r))), none, none, none]) := by
    simp only [ev_set, ev_call, ev_cons, ev_var, ev_nil, List.getElem?_cons_succ, List.getElem?_cons_zero, R.bind_ok, b]
    rfl
  simp only [List.map_cons, List.map_nil, List.length_cons, List.length_nil, List.cons_append, List.nil_append, List.replicate, ev_seq, k1, k2, R.bind_ok, ev_for, ev_range1, ev_cons, ev_bin, ev_fn, ev_var, ev_nil, ev_C, List.getElem?_cons_zero, ev_ixT, atI_0, R.ofO_some, ev_lenT, List.length_map, ev_add]
  rw [decide_eq_true (by omega), R.guard_true, R.bind_ok]
  simp only [eh, o1, R.bind_ok, ev_ret, ev_C, ev_projN]
end VL
end

section
set_option Elab.async false
set_option linter.all false
set_option maxRecDepth 100000
namespace VL
open PySem PySem.Spec PyProof.Rows L2 Wd
/-! ### the same -/
theorem is_int (n : Nat) (i : Int) (h : i.natAbs < 2 ^ 64) : f__law_is (n + 1) [.int i, .int i] = .ok (.bl true, []) := by
  unfold f__law_is
  rw [ev_run]
  have a1 : isisD ["tuple", "list"] (.int i) = some (.bl false) := by rfl
  have a2 : isiD "bool" (.int i) = some (.bl false) := by rfl
  have a3 : isiD "str" (.int i) = some (.bl false) := by rfl
  have a4 : isiD "int" (.int i) = some (.bl true) := by rfl
  obtain ⟨st, a5, a6⟩ := repr_int i (Nat.lt_of_lt_of_le h (Nat.pow_le_pow_right (by decide) (by decide)))
  simp [a1, a2, a3, a4, a5, a6]
theorem is_seq {n : Nat} {ds : List D} (hl : ds.length ≤ 1000000) (h : ∀ d ∈ ds, f__law_is n [d, d] = .ok (.bl true, [])) (x : D) (hx : x = .tup ds ∨ x = .lst ds) : f__law_is (n + 1) [x, x] = .ok (.bl true, []) := by
  rw [f__law_is]
  rw [ev_run]
  have a1 : isisD ["tuple", "list"] x = some (.bl true) := by rcases hx with rfl | rfl <;> rfl
  obtain ⟨b, a2⟩ : ∃ b, isiD "tuple" x = some (.bl b) := by rcases hx with rfl | rfl <;> exact ⟨_, rfl⟩
  have a3 : lenD [x] = some (.int ds.length) := by rcases hx with rfl | rfl <;> rfl
  have a4 : mZip (mSrc (mVar 0)) (mSrc (mVar 1)) [some x, some x, none, none] = .ok ((ds.zip ds).map fun z => .tup [z.1, z.2], [some x, some x, none, none]) := by rcases hx with rfl | rfl <;> simp [seqOf]
  have hs : ds.length ≤ sizeLine := sl_len (by omega)
  have lc := lcIter_map (gd := VL.gTup 2 (VL.gCons (VL.gName 2) (VL.gCons (VL.gName 3) VL.gNil))) (tt := tYesD) (me := mCall (f__law_is n) (mCons (mVar 2) (mCons (mVar 3) mNil))) (own := [2, 3]) (env := [some x, some x, none, none]) (enc := fun z : D × D => .tup [z.1, z.2]) (g := fun _ => .bl true) (xs := ds.zip ds)
    (fun z hz => by
      have hz' : z.1 = z.2 ∧ z.1 ∈ ds := by
        obtain ⟨i, hi, rfl⟩ := List.getElem_of_mem hz
        simp
      obtain ⟨p, q⟩ := z
      obtain ⟨e, hm⟩ := hz'
      simp only at e hm
      subst e
      exact ⟨[some x, some x, some p, some p], [some x, some x, some p, some p], [some x, some x, some p, some p], by simp [VL.gTup, VL.gCons], rfl, by simp [h p hm], rfl⟩)
  have al : allD [.lst ((ds.zip ds).map fun _ => D.bl true)] = some (.bl true) := allD_true (fun d hd => by obtain ⟨z, _, rfl⟩ := List.mem_map.mp hd; rfl)
  have a5 : mLc (mZip (mSrc (mVar 0)) (mSrc (mVar 1))) (VL.gTup 2 (VL.gCons (VL.gName 2) (VL.gCons (VL.gName 3) VL.gNil))) tYesD (mCall (f__law_is n) (mCons (mVar 2) (mCons (mVar 3) mNil))) [2, 3] [some x, some x, none, none] = .ok (.lst ((ds.zip ds).map fun _ => D.bl true), [some x, some x, none, none]) := by
    rw [ev_lc, a4]
    simp only [R.bind_ok, List.length_map, List.length_zip, Nat.min_self, decide_eq_true hs, R.guard_true, ev_wipeC, ev_wipeN]
    have : ([some x, some x, none, none] : Env).set 3 none = [some x, some x, none, none] := rfl
    rw [this]
    have : ([some x, some x, none, none] : Env).set 2 none = [some x, some x, none, none] := rfl
    rw [this, lc]
    rfl
  simp [a1, a2, a3, -ev_lc, a5, al]
theorem is_row {n : Nat} {s : Int} {xs : List Int} (hx : Sg s xs) (hs : s ≤ 4) (hl : xs.length ≤ 1000) : f__law_is (n + 2) [rowD xs, rowD xs] = .ok (.bl true, []) :=
  is_seq (ds := xs.map .int) (by simp; omega) (by
    intro d hd
    obtain ⟨x, hx', rfl⟩ := List.mem_map.mp hd
    have := hx x hx'
    exact is_int _ _ (by omega)) _ (.inl rfl)
theorem is_lineD {n : Nat} {s : Int} {h r : List Int} (L : LineOk s h r) (hs : s ≤ 4) : f__law_is (n + 3) [lineD h r, lineD h r] = .ok (.bl true, []) :=
  is_seq (ds := [rowD h, rowD r]) (by simp) (by
    intro d hd
    have hd : d = rowD h ∨ d = rowD r := by simpa using hd
    rcases hd with rfl | rfl
    · exact is_row L.hh hs L.lh
    · exact is_row L.hr hs L.lr) _ (.inl rfl)
/-! ### the drawn lines -/
theorem sg_rep {s : Int} {xs : List Int} (h : Sg s xs) (m : Nat) : Sg s ((List.replicate m xs).flatten) := fun x hx => by
  obtain ⟨l, hl, hx⟩ := List.mem_flatten.mp hx
  rw [(List.mem_replicate.mp hl).2] at hx
  exact h x hx
theorem cat_row (a b : List Int) (hl : a.length + b.length ≤ 16777216) : addD (rowD a) (rowD b) = some (rowD (a ++ b)) := by
  rw [ev_addT, if_pos (by rw [List.length_map, List.length_map]; exact sl_len hl), ← List.map_append]
theorem to_row (a : List Int) (n : Int) (h : 0 ≤ n) : slD (rowD a) none (some n) = some (rowD (a.take n.toNat)) := by
  obtain ⟨k, rfl⟩ : ∃ k : Nat, n = k := ⟨n.toNat, by omega⟩
  rw [ev_slT, cut_to, ← List.map_take]
  rfl
theorem from_row (a : List Int) (n : Int) (h : 0 ≤ n) : slD (rowD a) (some n) none = some (rowD (a.drop n.toNat)) := by
  obtain ⟨k, rfl⟩ : ∃ k : Nat, n = k := ⟨n.toNat, by omega⟩
  rw [ev_slT, cut_from, ← List.map_drop]
  rfl
theorem times_row (a : List Int) (n : Int) (h : 0 ≤ n) (h1 : n ≤ 100) (h2 : a.length ≤ 1000) : mulD (rowD a) (.int n) = some (rowD ((List.replicate n.toNat a).flatten)) := by
  obtain ⟨k, rfl⟩ : ∃ k : Nat, n = k := ⟨n.toNat, by omega⟩
  exact mul_row a k (by omega) (Nat.le_trans (Nat.mul_le_mul (by omega : k ≤ 100) h2) (by decide))
theorem drawn_line_ok {hd : D} (hh : HandD hd) {s most : Int} (hs : 2 ≤ s) (hs2 : s ≤ 4) (hm : 0 ≤ most) (hm2 : most ≤ 8) :
    ∃ h r h', f__law_drawn_line [hd, .int s, .int most] = .ok (lineD h r, [some h']) ∧ LineOk s h r ∧ h.length ≤ 100 ∧ r.length ≤ 100 ∧ HandD h' := by
  obtain ⟨xs, d1, e1, sx, lx, hd1⟩ := drawn_row_ok hh (s := s) (most := most) (by omega) (by omega) hm (by omega)
  obtain ⟨y, d2, e2, y0, y1, hd2⟩ := draw_ok hd1 (many := s) (by omega) (by omega)
  obtain ⟨ys, d3, e3, sy, ly, hd3⟩ := drawn_row_ok hd2 (s := s) (most := most) (by omega) (by omega) hm (by omega)
  obtain ⟨k, d4, e4, k0, k1, hd4⟩ := draw_ok hd3 (many := 5) (by omega) (by omega)
  have sr : Sg s (y :: ys) := fun z hz => by
    rcases List.mem_cons.mp hz with rfl | hz
    · exact ⟨y0, y1⟩
    · exact sy z hz
  have c0 : addD (.tup [.int y]) (rowD ys) = some (rowD (y :: ys)) := cat_row [y] ys (by simp; omega)
  have hs1 : 1 ≤ sizeLine := sl_len (by omega)
  have hs2' : 2 ≤ sizeLine := sl_len (by omega)
  have start : ∀ (Z : R (D × Env) → Prop), Z (match (sSeq (sIf (mTest (mBin eqD (mVar 5) (mC (.int 0)))) (sSet 4 (mBin mulD (mVar 4) (mBin addD (mC (.int 2)) (mCallK f__law_draw [0] (kSlot 0 (kVal (mC (.int 2)) kNil)))))) (sIf (mTest (mBin eqD (mVar 5) (mC (.int 1)))) (sSeq (sSet 3 (mBin addD (mVar 3) (mSl slD (mVar 4) mNoPart (mPart (mBin addD (mC (.int 1)) (mCallK f__law_draw [0] (kSlot 0 (kVal (mFn lenD (mCons (mVar 4) mNil)) kNil)))))))) (sSet 4 (mBin addD (mSl slD (mVar 4) (mPart (mBin fdivD (mFn lenD (mCons (mVar 4) mNil)) (mC (.int 2)))) mNoPart) (mSl slD (mVar 4) mNoPart (mPart (mBin fdivD (mFn lenD (mCons (mVar 4) mNil)) (mC (.int 2)))))))) (sIf (mTest (mBin eqD (mVar 5) (mC (.int 2)))) (sSet 3 (mBin addD (mVar 3) (mBin mulD (mVar 4) (mBin addD (mC (.int 1)) (mCallK f__law_draw [0] (kSlot 0 (kVal (mC (.int 2)) kNil))))))) (sIf (mTest (mBin eqD (mVar 5) (mC (.int 3)))) (sSeq (sSet 6 (mCallK f__law_draw [0] (kSlot 0 (kVal (mFn lenD (mCons (mVar 4) mNil)) kNil)))) (sPar [3, 4] (mCons (mBin addD (mVar 3) (mSl slD (mVar 4) mNoPart (mPart (mVar 6)))) (mCons (mBin addD (mSl slD (mVar 4) (mPart (mVar 6)) mNoPart) (mSl slD (mVar 4) mNoPart (mPart (mVar 6)))) mNil)))) sNext)))) (sRet (mTup (mCons (mVar 3) (mCons (mVar 4) mNil))))) [some d4, some (.int s), some (.int most), some (rowD xs), some (rowD (y :: ys)), some (.int k), none] with
      | .ok (.ret d, e) => .ok (d, proj [0] e)
      | .ok (.next, e) => if false = true then .bad else .ok (.non, proj [0] e)
      | .ok _ => .bad
      | .exc x e => .exc x (proj [0] e)
      | .bad => .bad) → Z (f__law_drawn_line [hd, .int s, .int most]) := by
    intro Z hZ
    unfold f__law_drawn_line m__law_drawn_line
    rw [ev_run]
    have k1 : sSet 3 (mCallK f__law_drawn_row [0] (kSlot 0 (kVal (mVar 1) (kVal (mVar 2) kNil)))) [some hd, some (.int s), some (.int most), none, none, none, none] = .ok (.next, [some d1, some (.int s), some (.int most), some (rowD xs), none, none, none]) := by simp [e1]
    have k2 : sSet 4 (mBin addD (mTup (mCons (mCallK f__law_draw [0] (kSlot 0 (kVal (mVar 1) kNil))) mNil)) (mCallK f__law_drawn_row [0] (kSlot 0 (kVal (mVar 1) (kVal (mVar 2) kNil))))) [some d1, some (.int s), some (.int most), some (rowD xs), none, none, none] = .ok (.next, [some d3, some (.int s), some (.int most), some (rowD xs), some (rowD (y :: ys)), none, none]) := by simp [e2, hs1, e3, c0, -ev_addT]
    have k3 : sSet 5 (mCallK f__law_draw [0] (kSlot 0 (kVal (mC (.int 5)) kNil))) [some d3, some (.int s), some (.int most), some (rowD xs), some (rowD (y :: ys)), none, none] = .ok (.next, [some d4, some (.int s), some (.int most), some (rowD xs), some (rowD (y :: ys)), some (.int k), none]) := by simp [e4]
    simp only [List.map_cons, List.map_nil, List.length_cons, List.length_nil, List.cons_append, List.nil_append, List.replicate]
    rw [ev_seq, k1]
    simp only [R.bind_ok]
    rw [ev_seq, k2]
    simp only [R.bind_ok]
    rw [ev_seq, k3]
    exact hZ
  generalize hR : y :: ys = r0 at *
  have r1 : r0 ≠ [] := by rw [← hR]; simp
  have r2 : r0.length ≤ 9 := by rw [← hR]; simp; omega
  have r3 : 0 < r0.length := List.length_pos_iff.mpr r1
  have r4 : (r0.length : Int) ≤ 9 := by omega
  have r5 : 0 < (r0.length : Int) := by omega
  have x1 : xs.length ≤ 8 := by omega
  have hk : k = 0 ∨ k = 1 ∨ k = 2 ∨ k = 3 ∨ k = 4 := by omega
  rcases hk with rfl | rfl | rfl | rfl | rfl
  · obtain ⟨t, d5, e5, t0, t1, hd5⟩ := draw_ok hd4 (many := 2) (by omega) (by omega)
    have c := times_row r0 (2 + t) (by omega) (by omega) (by omega)
    have ll := flat_len r0 (2 + t).toNat
    have l2 : (2 + t).toNat * r0.length ≤ 3 * 9 := Nat.mul_le_mul (by omega) r2
    have l3 : 0 < (2 + t).toNat * r0.length := Nat.mul_pos (by omega) r3
    refine ⟨xs, (List.replicate (2 + t).toNat r0).flatten, d5, ?_, ⟨sx, sg_rep sr _, fun z => by rw [z] at ll; simp at ll; omega, by omega, by omega⟩, by omega, by omega, hd5⟩
    refine start (fun Z => Z = _) ?_
    simp [e5, c, hs2']
  · obtain ⟨t, d5, e5, t0, t1, hd5⟩ := draw_ok hd4 (many := (r0.length : Int)) (by omega) (by omega)
    have c1 := to_row r0 (1 + t) (by omega)
    have l1 : (r0.take (1 + t).toNat).length ≤ 9 := by rw [List.length_take]; omega
    have c2 := cat_row xs (r0.take (1 + t).toNat) (by omega)
    have hd2' := ev_fdiv (r0.length : Int) 2 (by omega) (by omega)
    have c3 := to_row r0 ((r0.length : Int) / 2) (by omega)
    have c4 := from_row r0 ((r0.length : Int) / 2) (by omega)
    generalize ((r0.length : Int) / 2) = hf at *
    have l4 : (r0.drop hf.toNat ++ r0.take hf.toNat).length = r0.length := by rw [List.length_append, List.length_take, List.length_drop]; omega
    have c5 := cat_row (r0.drop hf.toNat) (r0.take hf.toNat) (by rw [← List.length_append, l4]; omega)
    refine ⟨xs ++ r0.take (1 + t).toNat, r0.drop hf.toNat ++ r0.take hf.toNat, d5, ?_, ⟨sg_app sx (sg_take sr _), sg_app (sg_drop sr _) (sg_take sr _), fun z => by rw [z] at l4; simp at l4; omega, by rw [List.length_append]; omega, by omega⟩, by rw [List.length_append]; omega, by omega, hd5⟩
    refine start (fun Z => Z = _) ?_
    simp [e5, c1, c2, c3, c4, c5, hd2', hs2', -ev_slT, -ev_addT, -List.map_append, -List.map_take, -List.map_drop]
  · obtain ⟨t, d5, e5, t0, t1, hd5⟩ := draw_ok hd4 (many := 2) (by omega) (by omega)
    have c := times_row r0 (1 + t) (by omega) (by omega) (by omega)
    have ll := flat_len r0 (1 + t).toNat
    have l2 : (1 + t).toNat * r0.length ≤ 2 * 9 := Nat.mul_le_mul (by omega) r2
    have c2 := cat_row xs ((List.replicate (1 + t).toNat r0).flatten) (by omega)
    refine ⟨xs ++ (List.replicate (1 + t).toNat r0).flatten, r0, d5, ?_, ⟨sg_app sx (sg_rep sr _), sr, r1, by rw [List.length_append]; omega, by omega⟩, by rw [List.length_append]; omega, by omega, hd5⟩
    refine start (fun Z => Z = _) ?_
    simp [e5, c, c2, hs2', -ev_addT, -List.map_append]
  · obtain ⟨t, d5, e5, t0, t1, hd5⟩ := draw_ok hd4 (many := (r0.length : Int)) (by omega) (by omega)
    have c1 := to_row r0 t (by omega)
    have c4 := from_row r0 t (by omega)
    have l1 : (r0.take t.toNat).length ≤ 9 := by rw [List.length_take]; omega
    have c2 := cat_row xs (r0.take t.toNat) (by omega)
    have l4 : (r0.drop t.toNat ++ r0.take t.toNat).length = r0.length := by rw [List.length_append, List.length_take, List.length_drop]; omega
    have c5 := cat_row (r0.drop t.toNat) (r0.take t.toNat) (by rw [← List.length_append, l4]; omega)
    refine ⟨xs ++ r0.take t.toNat, r0.drop t.toNat ++ r0.take t.toNat, d5, ?_, ⟨sg_app sx (sg_take sr _), sg_app (sg_drop sr _) (sg_take sr _), fun z => by rw [z] at l4; simp at l4; omega, by rw [List.length_append]; omega, by omega⟩, by rw [List.length_append]; omega, by omega, hd5⟩
    refine start (fun Z => Z = _) ?_
    simp [e5, c1, c2, c4, c5, hs2', -ev_slT, -ev_addT, -List.map_append, -List.map_take, -List.map_drop]
  · refine ⟨xs, r0, d4, ?_, ⟨sx, sr, r1, by omega, by omega⟩, by omega, by omega, hd4⟩
    refine start (fun Z => Z = _) ?_
    simp [hs2']
end VL
end

section
set_option Elab.async false
set_option linter.all false
set_option maxRecDepth 100000
namespace VL
open PySem PySem.Spec PyProof.Rows L2 Wd
theorem nb_line (h r : List Int) : NB (lineD h r) = true ∧ dpD (lineD h r) = 2 := by
  have a := nb_row h
  have b := nb_row r
  unfold lineD
  rw [NB, dpD, NBs, NBs, NBs, dpDs, dpDs, dpDs, a.1, b.1, a.2, b.2]
  exact ⟨rfl, rfl⟩
theorem lineD_inj {h r h' r' : List Int} : lineD h r = lineD h' r' ↔ h = h' ∧ r = r' := by
  constructor
  · intro e
    injection e with e
    injection e with e1 e2
    injection e2 with e2 _
    injection e1 with e1
    injection e2 with e2
    exact ⟨ints_inj e1, ints_inj e2⟩
  · rintro ⟨rfl, rfl⟩; rfl
theorem eqD_line (h r h' r' : List Int) : eqD (lineD h r) (lineD h' r') = some (.bl (decide (h = h' ∧ r = r'))) := by
  obtain ⟨z, h1, h2⟩ := eqD_data (nb_line h r).1 (nb_line h' r').1 (by rw [(nb_line h r).2]; decide) (by rw [(nb_line h' r').2]; decide)
  rw [h1]
  congr 2
  rw [Bool.eq_iff_iff, h2, decide_eq_true_iff, lineD_inj]
/-- plain of a line of the same word is the same -/
theorem plain_same {s : Int} {h r g q : List Int} (hs : 2 ≤ s ∧ s ≤ 4) (L : LineOk s h r) (C : Canon g q) (e : W h r = W g q) : f_plain [.int s, lineD h r] = .ok (lineD g q, []) := by
  obtain ⟨h', r', e1, _, C', e2, _⟩ := plain_ok hs L
  obtain ⟨rfl, rfl⟩ := uniq C' C (e2.trans e)
  exact e1
theorem is_step (L8 : FD) (d2 : D) (s : Int) (A B G G' : D) (s1 : f__law_shortest [A] = R.ok (G, [])) (s2 : f__law_shortest [B] = R.ok (G', []))
   (hs2' : 2 ≤ sizeLine) (i1 : L8 [D.lst [G, G'], D.lst [G, G']] = R.ok (D.bl true, [])) :
   sIf (mNot (mTest (mCall L8 (mCons (mLst (mCons (mVar 4) (mCons (mVar 5) mNil))) (mCons (mLst (mCons (mCall f__law_shortest (mCons (mVar 2) mNil)) (mCons (mCall f__law_shortest (mCons (mVar 3) mNil)) mNil))) mNil))))) (sRet (mC (.bl false))) sNext
    [some d2, some (.int s), some A, some B, some G, some G', none, none, none, none, none, none] = .ok (.next, [some d2, some (.int s), some A, some B, some G, some G', none, none, none, none, none, none]) := by
  simp [s1, s2, hs2', i1]
theorem i1_ok {s : Int} (hs2 : s ≤ 4) {u v u' v' : List Int} (LG1 : LineOk s u v) (LG2 : LineOk s u' v') : f__law_is 8 [.lst [lineD u v, lineD u' v'], .lst [lineD u v, lineD u' v']] = .ok (.bl true, []) := is_seq (ds := [lineD u v, lineD u' v']) (by simp) (by
    intro d hd
    have hd : d = lineD u v ∨ d = lineD u' v' := by simpa using hd
    rcases hd with rfl | rfl
    · exact is_lineD LG1 hs2
    · exact is_lineD LG2 hs2) _ (.inr rfl)
theorem is_right_ok {hd : D} (hh : HandD hd) {s : Int} (hs : 2 ≤ s) (hs2 : s ≤ 4) : ∃ h', f__law_is_right [hd, .int s] = .ok (.bl true, [some h']) ∧ HandD h' := by
  obtain ⟨a, b, d1, e1, L1, la, lb, hd1⟩ := drawn_line_ok hh hs hs2 (most := 8) (by omega) (by omega)
  obtain ⟨a', b', d2, e2, L2, la', lb', hd2⟩ := drawn_line_ok hd1 hs hs2 (most := 3) (by omega) (by omega)
  obtain ⟨g, q, p1, LG1, C1, w1, lg, lq⟩ := plain_ok ⟨hs, hs2⟩ L1
  obtain ⟨g', q', p2, LG2, C2, w2, lg', lq'⟩ := plain_ok ⟨hs, hs2⟩ L2
  obtain ⟨u, v, s1, _, C3, w3⟩ := shortest_ok L1
  obtain ⟨u', v', s2, _, C4, w4⟩ := shortest_ok L2
  obtain ⟨rfl, rfl⟩ := uniq C3 C1 (w3.trans w1.symm)
  obtain ⟨rfl, rfl⟩ := uniq C4 C2 (w4.trans w2.symm)
  have hs2' : 2 ≤ sizeLine := sl_len (by omega)
  have hs4 : 4 ≤ sizeLine := sl_len (by omega)
  refine ⟨d2, ?_, hd2⟩
  have i1 := i1_ok hs2 LG1 LG2
  obtain ⟨M, hM⟩ : ∃ M : Nat, M = 2 * (a.length + b.length + a'.length + b'.length) + 20 := ⟨_, rfl⟩
  have eM : (2 * ((a.length : Int) + (b.length : Int) + (a'.length : Int) + (b'.length : Int)) + 20) = (M : Int) := by omega
  obtain ⟨N, hN⟩ : ∃ N : Nat, N = a.length + a'.length + b.length * b'.length + 2 := ⟨_, rfl⟩
  have eN : ((a.length : Int) + (a'.length : Int) + (b.length : Int) * (b'.length : Int) + 2) = (N : Int) := by rw [hN]; simp
  have hbb : b.length * b'.length ≤ 100 * 100 := Nat.mul_le_mul lb lb'
  have q1 := begun_ok L1.ne L1.lh L1.lr (n := M) (by omega)
  have q2 := begun_ok LG1.ne LG1.lh LG1.lr (n := M) (by omega)
  rw [w1] at q2
  have q3 := begun_ok L1.ne L1.lh L1.lr (n := N) (by omega)
  have q4 := begun_ok L2.ne L2.lh L2.lr (n := N) (by omega)
  have lw := least_way_ok LG1 C1 (by omega) (by omega)
  have same : (decide (u = u' ∧ v = v') != decide ((List.range N).map (W a b) = (List.range N).map (W a' b'))) = false := by
    by_cases e : W a b = W a' b'
    · have e3 : u = u' ∧ v = v' := uniq C1 C2 (w1.trans (e.trans w2.symm))
      rw [decide_eq_true e3, e, decide_eq_true rfl]
      rfl
    · have e3 : ¬ (u = u' ∧ v = v') := fun ⟨x, y⟩ => e (by rw [← w1, ← w2, x, y])
      have e4 : ¬ (List.range N).map (W a b) = (List.range N).map (W a' b') := fun z => e (same_of_pre L1.ne L2.ne (by omega) (pre_eq.mp z))
      rw [decide_eq_false e3, decide_eq_false e4]
      rfl
  have qq := eqD_row ((List.range N).map (W a b)) ((List.range N).map (W a' b'))
  have qn := neD_row ((List.range M).map (W a b)) ((List.range M).map (W a b))
  have ee := eqD_line u v u' v'
  have cmul : mulD (.int (b.length : Int)) (.int (b'.length : Int)) = some (.int ((b.length : Int) * (b'.length : Int))) := ev_mul _ _ (.inl ⟨by omega, by omega⟩)
  generalize (List.range N).map (W a b) = x1 at *
  generalize (List.range N).map (W a' b') = x2 at *
  generalize (List.range M).map (W a b) = x3 at *
  generalize decide (u = u' ∧ v = v') = z1 at *
  generalize decide (x1 = x2) = z2 at *
  obtain rfl : z1 = z2 := by simpa using same
  -- the ways
  have pb := L1.pos
  have sb := L1.hr
  have t1 := to_row b 1 (by decide)
  have t2 := from_row b 1 (by decide)
  have lt1 : (b.take 1).length ≤ 1 := by rw [List.length_take]; omega
  have ld1 : (b.drop 1).length ≤ b.length := by rw [List.length_drop]; omega
  have l4 : (b.drop 1 ++ b.take 1).length = b.length := by rw [List.length_append, List.length_take, List.length_drop]; omega
  have n3 : b.drop 1 ++ b.take 1 ≠ [] := fun z => by rw [z] at l4; simp at l4; omega
  have c1 := cat_row a b (by omega)
  have c2 := cat_row b b (by omega)
  have c3 := cat_row a (b.take 1) (by omega)
  have c4 := cat_row (b.drop 1) (b.take 1) (by omega)
  have y1 := plain_same ⟨hs, hs2⟩ (h := a ++ b) (r := b) ⟨sg_app L1.hh sb, sb, L1.ne, by rw [List.length_append]; omega, by omega⟩ C1 ((W_on L1.ne).trans w1.symm)
  have y2 := plain_same ⟨hs, hs2⟩ (h := a) (r := b ++ b) ⟨L1.hh, sg_app sb sb, fun z => L1.ne (List.append_eq_nil_iff.mp z).1, by omega, by rw [List.length_append]; omega⟩ C1 (by
    have := W_rep (h := a) (r := b) (m := 2) (by decide) L1.ne
    simp [List.replicate] at this
    rw [this, w1])
  have y3 := plain_same ⟨hs, hs2⟩ (h := a ++ b.take 1) (r := b.drop 1 ++ b.take 1) ⟨sg_app L1.hh (sg_take sb 1), sg_app (sg_drop sb 1) (sg_take sb 1), n3, by rw [List.length_append]; omega, by rw [List.length_append]; omega⟩ C1 ((W_turn (by omega) L1.ne).trans w1.symm)
  have y4 := plain_same ⟨hs, hs2⟩ LG1 C1 rfl
  have il : f__law_is 8 [lineD u v, lineD u v] = .ok (.bl true, []) := is_lineD (n := 5) LG1 hs2
  have al : allD [.lst [D.bl true, D.bl true, D.bl true, D.bl true]] = some (.bl true) := allD_true (by simp)
  simp only [show (1 : Int).toNat = 1 from rfl] at t1 t2
  generalize b.take 1 = bh at *
  generalize b.drop 1 = bt at *
  generalize hA : lineD a b = A at *
  generalize hB : lineD a' b' = B at *
  generalize hG : lineD u v = G at *
  generalize hG' : lineD u' v' = G' at *
  have xA0 : ixD A (.int 0) = some (rowD a) := by rw [← hA]; rfl
  have xA1 : ixD A (.int 1) = some (rowD b) := by rw [← hA]; rfl
  have xB0 : ixD B (.int 0) = some (rowD a') := by rw [← hB]; rfl
  have xB1 : ixD B (.int 1) = some (rowD b') := by rw [← hB]; rfl
  have gA : ∀ env : Env, VL.gTup 2 (VL.gCons (VL.gName 8) (VL.gCons (VL.gName 9) VL.gNil)) A env = VL.gCons (VL.gName 8) (VL.gCons (VL.gName 9) VL.gNil) [rowD a, rowD b] env := fun env => by rw [← hA]; rfl
  unfold f__law_is_right m__law_is_right
  generalize f__law_is 8 = L8 at *
  refine (run_ret (e := [some d2, some (.int s), some A, some B, some G, some G', some (.int (M : Int)), some (.int (N : Int)), some (rowD a), some (rowD b), some (.lst [lineD (a ++ b) b, lineD a (b ++ b), lineD (a ++ bh) (bt ++ bh), G]), none]) (d := .bl true) ?_).trans (by simp)
  refine (seq_next (e := [some d2, some (.int s), some A, some B, none, none, none, none, none, none, none, none]) (by simp [e1, e2])).trans ?_
  refine (seq_next (e := [some d2, some (.int s), some A, some B, some G, some G', none, none, none, none, none, none]) (by simp [p1, p2, hs2', VL.gTup, VL.gCons])).trans ?_
  refine (seq_next (e := [some d2, some (.int s), some A, some B, some G, some G', none, none, none, none, none, none]) (is_step L8 d2 s A B G G' s1 s2 hs2' i1)).trans ?_
  refine (seq_next (e := [some d2, some (.int s), some A, some B, some G, some G', some (.int (M : Int)), none, none, none, none, none]) (by simp [xA0, xA1, xB0, xB1, ev_mul, eM])).trans ?_
  refine (seq_next (e := [some d2, some (.int s), some A, some B, some G, some G', some (.int (M : Int)), none, none, none, none, none]) (by simp [q1, q2, qn, lw])).trans ?_
  refine (seq_next (e := [some d2, some (.int s), some A, some B, some G, some G', some (.int (M : Int)), some (.int (N : Int)), none, none, none, none]) (by simp [xA0, xA1, xB0, xB1, cmul, eN])).trans ?_
  refine (seq_next (e := [some d2, some (.int s), some A, some B, some G, some G', some (.int (M : Int)), some (.int (N : Int)), none, none, none, none]) (by simp [q3, q4, qq, ee, same])).trans ?_
  refine (seq_next (e := [some d2, some (.int s), some A, some B, some G, some G', some (.int (M : Int)), some (.int (N : Int)), some (rowD a), some (rowD b), none, none]) (by simp [gA, VL.gCons])).trans ?_
  refine (seq_next (e := [some d2, some (.int s), some A, some B, some G, some G', some (.int (M : Int)), some (.int (N : Int)), some (rowD a), some (rowD b), some (.lst [lineD (a ++ b) b, lineD a (b ++ b), lineD (a ++ bh) (bt ++ bh), G]), none]) (by
    simp [t1, t2, c1, c2, c3, c4, hs2', hs4, -ev_slT, -ev_addT, -List.map_append, -List.map_take, -List.map_drop])).trans ?_
  simp [seqOf, hs4, lcIter, y1, y2, y3, y4, il, al, -List.map_append, -List.map_take, -List.map_drop]
end VL
end

section
set_option Elab.async false
set_option linter.all false
set_option maxRecDepth 100000
namespace VL
open PySem PySem.Spec PyProof.Rows L2 Wd
theorem canon01 {h : List Int} (hl : h = [] ∨ h.getLast? ≠ some 1) : Canon h [0, 1] := ⟨by simp, fun k h1 h2 => by
  have : k = 1 := by simp at h2; omega
  subst this
  intro p
  have := p.2
  simp [List.replicate] at this, by simpa using hl⟩
theorem canon1 (x : Int) : Canon [] [x] := ⟨by simp, fun k h1 h2 => by simp at h2; omega, .inl rfl⟩
theorem sg_by {s : Int} {xs : List Int} (h : (xs.all fun x => decide (0 ≤ x) && decide (x < s)) = true) : Sg s xs := fun x hx => by
  have := List.all_eq_true.mp h x hx
  simpa using this
theorem ok_by {s : Int} {h r : List Int} (a : (h.all fun x => decide (0 ≤ x) && decide (x < s)) = true) (b : (r.all fun x => decide (0 ≤ x) && decide (x < s)) = true) (c : r ≠ []) (l1 : h.length ≤ 1000) (l2 : r.length ≤ 1000) : LineOk s h r := ⟨sg_by a, sg_by b, c, l1, l2⟩
theorem t1_ok : f_plain [.int 2, lineD [0, 1] [0, 1]] = .ok (lineD [] [0, 1], []) :=
  plain_same (by decide) (ok_by (by decide) (by decide) (by simp) (by simp) (by simp)) (canon01 (.inl rfl)) (W_on (h := []) (r := [0, 1]) (by simp))
theorem t2_ok : f_plain [.int 2, lineD [1] [1, 1]] = .ok (lineD [] [1], []) :=
  plain_same (by decide) (ok_by (by decide) (by decide) (by simp) (by simp) (by simp)) (canon1 1) (by
    have a := W_rep (h := [1]) (r := [1]) (m := 2) (by decide) (by simp)
    have b := W_on (h := []) (r := [1]) (by simp)
    simp [List.replicate] at a b
    rw [a, b])
theorem t3_ok : f_plain [.int 3, lineD [2, 0] [1, 0]] = .ok (lineD [2] [0, 1], []) :=
  plain_same (by decide) (ok_by (by decide) (by decide) (by simp) (by simp) (by simp)) (canon01 (.inr (by simp))) (W_turn (h := [2]) (r := [0, 1]) (a := 1) (by simp) (by simp))
theorem t4_ok : f_plain [.int 4, lineD [] [3]] = .ok (lineD [] [3], []) :=
  plain_same (by decide) (ok_by (by decide) (by decide) (by simp) (by simp) (by simp)) (canon1 3) rfl
theorem told_ok : f__law_is 8 [.lst [lineD [] [0, 1], lineD [] [1], lineD [2] [0, 1], lineD [] [3]], .lst [lineD [] [0, 1], lineD [] [1], lineD [2] [0, 1], lineD [] [3]]] = .ok (.bl true, []) :=
  is_seq (ds := [lineD [] [0, 1], lineD [] [1], lineD [2] [0, 1], lineD [] [3]]) (by simp) (by
    intro d hd
    have hd : d = lineD [] [0, 1] ∨ d = lineD [] [1] ∨ d = lineD [2] [0, 1] ∨ d = lineD [] [3] := by simpa using hd
    rcases hd with rfl | rfl | rfl | rfl
    · exact is_lineD (s := 4) (ok_by (by decide) (by decide) (by simp) (by simp) (by simp)) (by decide)
    · exact is_lineD (s := 4) (ok_by (by decide) (by decide) (by simp) (by simp) (by simp)) (by decide)
    · exact is_lineD (s := 4) (ok_by (by decide) (by decide) (by simp) (by simp) (by simp)) (by decide)
    · exact is_lineD (s := 4) (ok_by (by decide) (by decide) (by simp) (by simp) (by simp)) (by decide)) _ (.inr rfl)
theorem law_step1 (L8 : FD) (env : Env) (a b c d : D) (he : env[2]? = some (some (.lst [a, b, c, d]))) (ha : a = lineD [] [0, 1]) (hb : b = lineD [] [1]) (hc : c = lineD [2] [0, 1]) (hd : d = lineD [] [3]) (t : L8 [.lst [a, b, c, d], .lst [a, b, c, d]] = .ok (.bl true, [])) :
    sIf (mNot (mTest (mCall L8 (mCons (mVar 2) (mCons (mLst (mCons (mTup (mCons (mTup mNil) (mCons (mTup (mCons (mC (.int 0)) (mCons (mC (.int 1)) mNil))) mNil))) (mCons (mTup (mCons (mTup mNil) (mCons (mTup (mCons (mC (.int 1)) mNil)) mNil))) (mCons (mTup (mCons (mTup (mCons (mC (.int 2)) mNil)) (mCons (mTup (mCons (mC (.int 0)) (mCons (mC (.int 1)) mNil))) mNil))) (mCons (mTup (mCons (mTup mNil) (mCons (mTup (mCons (mC (.int 3)) mNil)) mNil))) mNil))))) mNil))))) (sRet (mC (.bl false))) sNext env = .ok (.next, env) := by
  have h0 : 0 ≤ sizeLine := Nat.zero_le _
  have h1 : 1 ≤ sizeLine := sl_len (by omega)
  have h2 : 2 ≤ sizeLine := sl_len (by omega)
  have h4 : 4 ≤ sizeLine := sl_len (by omega)
  have e1 : mTup (mCons (mTup mNil) (mCons (mTup (mCons (mC (.int 0)) (mCons (mC (.int 1)) mNil))) mNil)) env = .ok (a, env) := by rw [ha]; simp [h0, h1, h2]
  have e2 : mTup (mCons (mTup mNil) (mCons (mTup (mCons (mC (.int 1)) mNil)) mNil)) env = .ok (b, env) := by rw [hb]; simp [h0, h1, h2]
  have e3 : mTup (mCons (mTup (mCons (mC (.int 2)) mNil)) (mCons (mTup (mCons (mC (.int 0)) (mCons (mC (.int 1)) mNil))) mNil)) env = .ok (c, env) := by rw [hc]; simp [h0, h1, h2]
  have e4 : mTup (mCons (mTup mNil) (mCons (mTup (mCons (mC (.int 3)) mNil)) mNil)) env = .ok (d, env) := by rw [hd]; simp [h0, h1, h2]
  generalize mTup (mCons (mTup mNil) (mCons (mTup (mCons (mC (.int 0)) (mCons (mC (.int 1)) mNil))) mNil)) = m1 at *
  generalize mTup (mCons (mTup mNil) (mCons (mTup (mCons (mC (.int 1)) mNil)) mNil)) = m2 at *
  generalize mTup (mCons (mTup (mCons (mC (.int 2)) mNil)) (mCons (mTup (mCons (mC (.int 0)) (mCons (mC (.int 1)) mNil))) mNil)) = m3 at *
  generalize mTup (mCons (mTup mNil) (mCons (mTup (mCons (mC (.int 3)) mNil)) mNil)) = m4 at *
  simp [he, e1, e2, e3, e4, h4, t]
theorem law_ok (ns : List Int) (hl : ns.length ≤ 63) (hb : ∀ z ∈ ns, Builtin.Int.intBits z ≤ 1048576) : ∃ o, f_law [.scr ns] = .ok (.bl true, o) := by
  obtain ⟨hd, e0, hh⟩ := hand_ok ns
  have h0 : 0 ≤ sizeLine := Nat.zero_le _
  have h1 : 1 ≤ sizeLine := sl_len (by omega)
  have h2 : 2 ≤ sizeLine := sl_len (by omega)
  have h4 : 4 ≤ sizeLine := sl_len (by omega)
  have h8 : 8 ≤ sizeLine := sl_len (by omega)
  obtain ⟨ys, e9, g1, g2, g3, hd9, hh9, rfl⟩ := lcIter_all (gd := VL.gName 3) (tt := tYesD) (me := mCallK f__law_is_right [1] (kSlot 1 (kVal (mBin addD (mC (.int 2)) (mCallK f__law_draw [1] (kSlot 1 (kVal (mC (.int 3)) kNil)))) kNil))) (own := [3])
    (P := fun env => ∃ h, HandD h ∧ env = [some (.scr ns), some h, some (.lst [lineD [] [0, 1], lineD [] [1], lineD [2] [0, 1], lineD [] [3]]), none]) (Q := fun y => y = .bl true)
    (ds := (List.range 8).map fun i : Nat => D.int (i : Int)) (env := [some (.scr ns), some hd, some (.lst [lineD [] [0, 1], lineD [] [1], lineD [2] [0, 1], lineD [] [3]]), none]) ⟨hd, hh, rfl⟩ (by
      rintro d hd' env ⟨h, hh, rfl⟩
      obtain ⟨k, h1, a1, k0, k1, hh1⟩ := draw_ok hh (many := 3) (by omega) (by omega)
      obtain ⟨h2, a2, hh2⟩ := is_right_ok hh1 (s := 2 + k) (by omega) (by omega)
      refine ⟨[some (.scr ns), some h, some (.lst [lineD [] [0, 1], lineD [] [1], lineD [2] [0, 1], lineD [] [3]]), some d], [some (.scr ns), some h, some (.lst [lineD [] [0, 1], lineD [] [1], lineD [2] [0, 1], lineD [] [3]]), some d], .bl true, [some (.scr ns), some h2, some (.lst [lineD [] [0, 1], lineD [] [1], lineD [2] [0, 1], lineD [] [3]]), some d], ?_, rfl, ?_, rfl, h2, hh2, rfl⟩
      · generalize lineD [] [0, 1] = p1
        simp
      · generalize D.lst [lineD [] [0, 1], lineD [] [1], lineD [2] [0, 1], lineD [] [3]] = p1
        simp [a1, a2])
  have al := allD_true g3
  unfold f_law m_law
  have tt := told_ok
  have p1 := t1_ok
  have p2 := t2_ok
  have p3 := t3_ok
  have p4 := t4_ok
  generalize f__law_is 8 = L8 at *
  refine ⟨_, run_ret (e := [some (.scr ns), some hd9, some (.lst [lineD [] [0, 1], lineD [] [1], lineD [2] [0, 1], lineD [] [3]]), none]) (d := .bl true) ?_⟩
  refine (seq_next (e := [some (.scr ns), some hd, none, none]) (by simp [e0])).trans ?_
  refine (seq_next (e := [some (.scr ns), some hd, some (.lst [lineD [] [0, 1], lineD [] [1]]), none]) ?_).trans ?_
  · simp only [lineD, rowD, List.map_cons, List.map_nil] at p1 p2
    simp [h0, h1, h2, p1, p2]
  refine (seq_next (e := [some (.scr ns), some hd, some (.lst [lineD [] [0, 1], lineD [] [1], lineD [2] [0, 1], lineD [] [3]]), none]) ?_).trans ?_
  · simp only [lineD, rowD, List.map_cons, List.map_nil] at p3 p4
    simp [h0, h1, h2, h4, p3, p4]
  refine (seq_next (e := [some (.scr ns), some hd, some (.lst [lineD [] [0, 1], lineD [] [1], lineD [2] [0, 1], lineD [] [3]]), none]) (law_step1 L8 _ _ _ _ _ rfl rfl rfl rfl rfl tt)).trans ?_
  generalize D.lst [lineD [] [0, 1], lineD [] [1], lineD [2] [0, 1], lineD [] [3]] = pp at *
  have e8 : ((8 : Int)).toNat = 8 := rfl
  simp [h8, g1, al, -List.map_cons, -List.range_succ]
end VL
end

section
set_option Elab.async false
set_option linter.all false
set_option maxRecDepth 100000
namespace VL
open PySem PySem.Spec PyProof.Rows L2
theorem all_mk {l : PySem.W.OpenLaw} {w : World} {K : PySem.W.Frag} {h : Heap} {mg : Str → Option Value} {fa f0 f1 f2 f3 f4 f5 f6 f7 f8 f9 f10 f11 f12 f13 f14 f15 f16 f17 : Addr} (X : K.In h) (G : h.Ns mainGlobals mg) (hfa : mg "law" = some (.ref fa))
    {od0 an0 od1 an1 od2 an2 od3 an3 od4 an4 od5 an5 od6 an6 od7 an7 od8 an8 od9 an9 od10 an10 od11 an11 od12 an12 od13 an13 od14 an14 od15 an15 od16 an16 od17 an17 : Option Addr} {sl0 sl1 sl2 sl3 sl4 sl5 sl6 sl7 sl8 sl9 sl10 sl11 sl12 sl13 sl14 sl15 sl16 sl17 : Array (Option Value)} {oc0 kV0 dc0 pm0 cd0 ct0 oc1 kV1 dc1 pm1 cd1 ct1 oc2 kV2 dc2 pm2 cd2 ct2 oc3 kV3 dc3 pm3 cd3 ct3 oc4 kV4 dc4 pm4 cd4 ct4 oc5 kV5 dc5 pm5 cd5 ct5 oc6 kV6 dc6 pm6 cd6 ct6 oc7 kV7 dc7 pm7 cd7 ct7 oc8 kV8 dc8 pm8 cd8 ct8 oc9 kV9 dc9 pm9 cd9 ct9 oc10 kV10 dc10 pm10 cd10 ct10 oc11 kV11 dc11 pm11 cd11 ct11 oc12 kV12 dc12 pm12 cd12 ct12 oc13 kV13 dc13 pm13 cd13 ct13 oc14 kV14 dc14 pm14 cd14 ct14 oc15 kV15 dc15 pm15 cd15 ct15 oc16 kV16 dc16 pm16 cd16 ct16 oc17 kV17 dc17 pm17 cd17 ct17 : Value} {t_LEAST_SIGNS t_MOST_SIGNS : Tok}
    (a0 : PySem.W.nsIn K mainGlobals "_law_draw" = some (some (.ref f0))) (l0 : K.lookup f0 = some ⟨oc0, od0, .func (PySem.W.fnOf "_law_draw" "_law_draw" (defArgs s__law_draw) (defBody s__law_draw) (defScope s__law_draw) .none kV0 dc0 pm0 an0 cd0 ct0), sl0⟩) (c0 : PySem.W.codeIn K cd0 "_law_draw" = true) (k0 : PySem.W.keepIn K (.ref f0) = true)
    (a1 : PySem.W.nsIn K mainGlobals "_law_hand" = some (some (.ref f1))) (l1 : K.lookup f1 = some ⟨oc1, od1, .func (PySem.W.fnOf "_law_hand" "_law_hand" (defArgs s__law_hand) (defBody s__law_hand) (defScope s__law_hand) .none kV1 dc1 pm1 an1 cd1 ct1), sl1⟩) (c1 : PySem.W.codeIn K cd1 "_law_hand" = true) (k1 : PySem.W.keepIn K (.ref f1) = true)
    (a2 : PySem.W.nsIn K mainGlobals "_law_is" = some (some (.ref f2))) (l2 : K.lookup f2 = some ⟨oc2, od2, .func (PySem.W.fnOf "_law_is" "_law_is" (defArgs s__law_is) (defBody s__law_is) (defScope s__law_is) .none kV2 dc2 pm2 an2 cd2 ct2), sl2⟩) (c2 : PySem.W.codeIn K cd2 "_law_is" = true) (k2 : PySem.W.keepIn K (.ref f2) = true)
    (a3 : PySem.W.nsIn K mainGlobals "_law_begun" = some (some (.ref f3))) (l3 : K.lookup f3 = some ⟨oc3, od3, .func (PySem.W.fnOf "_law_begun" "_law_begun" (defArgs s__law_begun) (defBody s__law_begun) (defScope s__law_begun) .none kV3 dc3 pm3 an3 cd3 ct3), sl3⟩) (c3 : PySem.W.codeIn K cd3 "_law_begun" = true) (k3 : PySem.W.keepIn K (.ref f3) = true)
    (a4 : PySem.W.nsIn K mainGlobals "_law_drawn_row" = some (some (.ref f4))) (l4 : K.lookup f4 = some ⟨oc4, od4, .func (PySem.W.fnOf "_law_drawn_row" "_law_drawn_row" (defArgs s__law_drawn_row) (defBody s__law_drawn_row) (defScope s__law_drawn_row) .none kV4 dc4 pm4 an4 cd4 ct4), sl4⟩) (c4 : PySem.W.codeIn K cd4 "_law_drawn_row" = true) (k4 : PySem.W.keepIn K (.ref f4) = true)
    (a5 : PySem.W.nsIn K mainGlobals "_law_drawn_line" = some (some (.ref f5))) (l5 : K.lookup f5 = some ⟨oc5, od5, .func (PySem.W.fnOf "_law_drawn_line" "_law_drawn_line" (defArgs s__law_drawn_line) (defBody s__law_drawn_line) (defScope s__law_drawn_line) .none kV5 dc5 pm5 an5 cd5 ct5), sl5⟩) (c5 : PySem.W.codeIn K cd5 "_law_drawn_line" = true) (k5 : PySem.W.keepIn K (.ref f5) = true)
    (a6 : PySem.W.nsIn K mainGlobals "_law_is_least_way" = some (some (.ref f6))) (l6 : K.lookup f6 = some ⟨oc6, od6, .func (PySem.W.fnOf "_law_is_least_way" "_law_is_least_way" (defArgs s__law_is_least_way) (defBody s__law_is_least_way) (defScope s__law_is_least_way) .none kV6 dc6 pm6 an6 cd6 ct6), sl6⟩) (c6 : PySem.W.codeIn K cd6 "_law_is_least_way" = true) (k6 : PySem.W.keepIn K (.ref f6) = true)
    (a7 : PySem.W.nsIn K mainGlobals "_law_shortest" = some (some (.ref f7))) (l7 : K.lookup f7 = some ⟨oc7, od7, .func (PySem.W.fnOf "_law_shortest" "_law_shortest" (defArgs s__law_shortest) (defBody s__law_shortest) (defScope s__law_shortest) .none kV7 dc7 pm7 an7 cd7 ct7), sl7⟩) (c7 : PySem.W.codeIn K cd7 "_law_shortest" = true) (k7 : PySem.W.keepIn K (.ref f7) = true)
    (a8 : PySem.W.nsIn K mainGlobals "is_whole" = some (some (.ref f8))) (l8 : K.lookup f8 = some ⟨oc8, od8, .func (PySem.W.fnOf "is_whole" "is_whole" (defArgs s_is_whole) (defBody s_is_whole) (defScope s_is_whole) .none kV8 dc8 pm8 an8 cd8 ct8), sl8⟩) (c8 : PySem.W.codeIn K cd8 "is_whole" = true) (k8 : PySem.W.keepIn K (.ref f8) = true)
    (a9 : PySem.W.nsIn K mainGlobals "is_within" = some (some (.ref f9))) (l9 : K.lookup f9 = some ⟨oc9, od9, .func (PySem.W.fnOf "is_within" "is_within" (defArgs s_is_within) (defBody s_is_within) (defScope s_is_within) .none kV9 dc9 pm9 an9 cd9 ct9), sl9⟩) (c9 : PySem.W.codeIn K cd9 "is_within" = true) (k9 : PySem.W.keepIn K (.ref f9) = true)
    (a10 : PySem.W.nsIn K mainGlobals "is_row" = some (some (.ref f10))) (l10 : K.lookup f10 = some ⟨oc10, od10, .func (PySem.W.fnOf "is_row" "is_row" (defArgs s_is_row) (defBody s_is_row) (defScope s_is_row) .none kV10 dc10 pm10 an10 cd10 ct10), sl10⟩) (c10 : PySem.W.codeIn K cd10 "is_row" = true) (k10 : PySem.W.keepIn K (.ref f10) = true)
    (a11 : PySem.W.nsIn K mainGlobals "is_line" = some (some (.ref f11))) (l11 : K.lookup f11 = some ⟨oc11, od11, .func (PySem.W.fnOf "is_line" "is_line" (defArgs s_is_line) (defBody s_is_line) (defScope s_is_line) .none kV11 dc11 pm11 an11 cd11 ct11), sl11⟩) (c11 : PySem.W.codeIn K cd11 "is_line" = true) (k11 : PySem.W.keepIn K (.ref f11) = true)
    (a12 : PySem.W.nsIn K mainGlobals "check_line" = some (some (.ref f12))) (l12 : K.lookup f12 = some ⟨oc12, od12, .func (PySem.W.fnOf "check_line" "check_line" (defArgs s_check_line) (defBody s_check_line) (defScope s_check_line) .none kV12 dc12 pm12 an12 cd12 ct12), sl12⟩) (c12 : PySem.W.codeIn K cd12 "check_line" = true) (k12 : PySem.W.keepIn K (.ref f12) = true)
    (a13 : PySem.W.nsIn K mainGlobals "check_signs" = some (some (.ref f13))) (l13 : K.lookup f13 = some ⟨oc13, od13, .func (PySem.W.fnOf "check_signs" "check_signs" (defArgs s_check_signs) (defBody s_check_signs) (defScope s_check_signs) .none kV13 dc13 pm13 an13 cd13 ct13), sl13⟩) (c13 : PySem.W.codeIn K cd13 "check_signs" = true) (k13 : PySem.W.keepIn K (.ref f13) = true)
    (a14 : PySem.W.nsIn K mainGlobals "plain_pair" = some (some (.ref f14))) (l14 : K.lookup f14 = some ⟨oc14, od14, .func (PySem.W.fnOf "plain_pair" "plain_pair" (defArgs s_plain_pair) (defBody s_plain_pair) (defScope s_plain_pair) .none kV14 dc14 pm14 an14 cd14 ct14), sl14⟩) (c14 : PySem.W.codeIn K cd14 "plain_pair" = true) (k14 : PySem.W.keepIn K (.ref f14) = true)
    (a15 : PySem.W.nsIn K mainGlobals "plain" = some (some (.ref f15))) (l15 : K.lookup f15 = some ⟨oc15, od15, .func (PySem.W.fnOf "plain" "plain" (defArgs s_plain) (defBody s_plain) (defScope s_plain) .none kV15 dc15 pm15 an15 cd15 ct15), sl15⟩) (c15 : PySem.W.codeIn K cd15 "plain" = true) (k15 : PySem.W.keepIn K (.ref f15) = true)
    (a16 : PySem.W.nsIn K mainGlobals "_law_is_right" = some (some (.ref f16))) (l16 : K.lookup f16 = some ⟨oc16, od16, .func (PySem.W.fnOf "_law_is_right" "_law_is_right" (defArgs s__law_is_right) (defBody s__law_is_right) (defScope s__law_is_right) .none kV16 dc16 pm16 an16 cd16 ct16), sl16⟩) (c16 : PySem.W.codeIn K cd16 "_law_is_right" = true) (k16 : PySem.W.keepIn K (.ref f16) = true)
    (a17 : PySem.W.nsIn K mainGlobals "law" = some (some (.ref f17))) (l17 : K.lookup f17 = some ⟨oc17, od17, .func (PySem.W.fnOf "law" "law" (defArgs s_law) (defBody s_law) (defScope s_law) .none kV17 dc17 pm17 an17 cd17 ct17), sl17⟩) (c17 : PySem.W.codeIn K cd17 "law" = true) (k17 : PySem.W.keepIn K (.ref f17) = true)
    (v_LEAST_SIGNS : PySem.W.nsIn K mainGlobals "LEAST_SIGNS" = some (some (.int 2 t_LEAST_SIGNS)))
    (v_MOST_SIGNS : PySem.W.nsIn K mainGlobals "MOST_SIGNS" = some (some (.int 4 t_MOST_SIGNS)))
    (z_abs : PySem.W.nsIn K mainGlobals "abs" = some none)
    (z_all : PySem.W.nsIn K mainGlobals "all" = some none)
    (z_bool : PySem.W.nsIn K mainGlobals "bool" = some none)
    (z_int : PySem.W.nsIn K mainGlobals "int" = some none)
    (z_isinstance : PySem.W.nsIn K mainGlobals "isinstance" = some none)
    (z_len : PySem.W.nsIn K mainGlobals "len" = some none)
    (z_list : PySem.W.nsIn K mainGlobals "list" = some none)
    (z_range : PySem.W.nsIn K mainGlobals "range" = some none)
    (z_repr : PySem.W.nsIn K mainGlobals "repr" = some none)
    (z_str : PySem.W.nsIn K mainGlobals "str" = some none)
    (z_tuple : PySem.W.nsIn K mainGlobals "tuple" = some none)
    (z_zip : PySem.W.nsIn K mainGlobals "zip" = some none)
    : ∃ fd : FuncData, (∀ (s : Shared) (v : Value), BindsTo s fd ⟨[v], []⟩ [("script", v)]) ∧ ∀ base : Heap, K.In base → base.Ns mainGlobals mg → FnOk l.prog w K mg base (L2.CX l.prog w) 10 fa fd ["script"] (spD (cen K) [] false 1 f_law) := by
  have e := hfa.symm.trans (PySem.W.mg_of X G a17)
  cases e
  have F0 := fun_mk (st := s__law_draw) l0 c0 k0
  have b0 := F0.binds (ps := ["hand", "many"]) fun _ _ _ _ _ _ us hl => match us, hl with | [_, _], _ => rfl
  have F1 := fun_mk (st := s__law_hand) l1 c1 k1
  have b1 := F1.binds (ps := ["script"]) fun _ _ _ _ _ _ us hl => match us, hl with | [_], _ => rfl
  have F2 := fun_mk (st := s__law_is) l2 c2 k2
  have b2 := F2.binds (ps := ["got", "due"]) fun _ _ _ _ _ _ us hl => match us, hl with | [_, _], _ => rfl
  have F3 := fun_mk (st := s__law_begun) l3 c3 k3
  have b3 := F3.binds (ps := ["line", "many"]) fun _ _ _ _ _ _ us hl => match us, hl with | [_, _], _ => rfl
  have F4 := fun_mk (st := s__law_drawn_row) l4 c4 k4
  have b4 := F4.binds (ps := ["hand", "signs", "most"]) fun _ _ _ _ _ _ us hl => match us, hl with | [_, _, _], _ => rfl
  have F5 := fun_mk (st := s__law_drawn_line) l5 c5 k5
  have b5 := F5.binds (ps := ["hand", "signs", "most"]) fun _ _ _ _ _ _ us hl => match us, hl with | [_, _, _], _ => rfl
  have F6 := fun_mk (st := s__law_is_least_way) l6 c6 k6
  have b6 := F6.binds (ps := ["line"]) fun _ _ _ _ _ _ us hl => match us, hl with | [_], _ => rfl
  have F7 := fun_mk (st := s__law_shortest) l7 c7 k7
  have b7 := F7.binds (ps := ["line"]) fun _ _ _ _ _ _ us hl => match us, hl with | [_], _ => rfl
  have F8 := fun_mk (st := s_is_whole) l8 c8 k8
  have b8 := F8.binds (ps := ["thing"]) fun _ _ _ _ _ _ us hl => match us, hl with | [_], _ => rfl
  have F9 := fun_mk (st := s_is_within) l9 c9 k9
  have b9 := F9.binds (ps := ["thing", "low", "high"]) fun _ _ _ _ _ _ us hl => match us, hl with | [_, _, _], _ => rfl
  have F10 := fun_mk (st := s_is_row) l10 c10 k10
  have b10 := F10.binds (ps := ["signs", "thing"]) fun _ _ _ _ _ _ us hl => match us, hl with | [_, _], _ => rfl
  have F11 := fun_mk (st := s_is_line) l11 c11 k11
  have b11 := F11.binds (ps := ["signs", "thing"]) fun _ _ _ _ _ _ us hl => match us, hl with | [_, _], _ => rfl
  have F12 := fun_mk (st := s_check_line) l12 c12 k12
  have b12 := F12.binds (ps := ["signs", "line"]) fun _ _ _ _ _ _ us hl => match us, hl with | [_, _], _ => rfl
  have F13 := fun_mk (st := s_check_signs) l13 c13 k13
  have b13 := F13.binds (ps := ["signs"]) fun _ _ _ _ _ _ us hl => match us, hl with | [_], _ => rfl
  have F14 := fun_mk (st := s_plain_pair) l14 c14 k14
  have b14 := F14.binds (ps := ["head", "ring"]) fun _ _ _ _ _ _ us hl => match us, hl with | [_, _], _ => rfl
  have F15 := fun_mk (st := s_plain) l15 c15 k15
  have b15 := F15.binds (ps := ["signs", "line"]) fun _ _ _ _ _ _ us hl => match us, hl with | [_, _], _ => rfl
  have F16 := fun_mk (st := s__law_is_right) l16 c16 k16
  have b16 := F16.binds (ps := ["hand", "signs"]) fun _ _ _ _ _ _ us hl => match us, hl with | [_, _], _ => rfl
  have F17 := fun_mk (st := s_law) l17 c17 k17
  have b17 := F17.binds (ps := ["script"]) fun _ _ _ _ _ _ us hl => match us, hl with | [_], _ => rfl
  let T : Tx K mg := {
    a__law_draw := f0, d__law_draw := _, F__law_draw := F0, b__law_draw := b0, g__law_draw := PySem.W.mg_of X G a0, k__law_draw := k0,
    a__law_hand := f1, d__law_hand := _, F__law_hand := F1, b__law_hand := b1, g__law_hand := PySem.W.mg_of X G a1, k__law_hand := k1,
    a__law_is := f2, d__law_is := _, F__law_is := F2, b__law_is := b2, g__law_is := PySem.W.mg_of X G a2, k__law_is := k2,
    a__law_begun := f3, d__law_begun := _, F__law_begun := F3, b__law_begun := b3, g__law_begun := PySem.W.mg_of X G a3, k__law_begun := k3,
    a__law_drawn_row := f4, d__law_drawn_row := _, F__law_drawn_row := F4, b__law_drawn_row := b4, g__law_drawn_row := PySem.W.mg_of X G a4, k__law_drawn_row := k4,
    a__law_drawn_line := f5, d__law_drawn_line := _, F__law_drawn_line := F5, b__law_drawn_line := b5, g__law_drawn_line := PySem.W.mg_of X G a5, k__law_drawn_line := k5,
    a__law_is_least_way := f6, d__law_is_least_way := _, F__law_is_least_way := F6, b__law_is_least_way := b6, g__law_is_least_way := PySem.W.mg_of X G a6, k__law_is_least_way := k6,
    a__law_shortest := f7, d__law_shortest := _, F__law_shortest := F7, b__law_shortest := b7, g__law_shortest := PySem.W.mg_of X G a7, k__law_shortest := k7,
    a_is_whole := f8, d_is_whole := _, F_is_whole := F8, b_is_whole := b8, g_is_whole := PySem.W.mg_of X G a8, k_is_whole := k8,
    a_is_within := f9, d_is_within := _, F_is_within := F9, b_is_within := b9, g_is_within := PySem.W.mg_of X G a9, k_is_within := k9,
    a_is_row := f10, d_is_row := _, F_is_row := F10, b_is_row := b10, g_is_row := PySem.W.mg_of X G a10, k_is_row := k10,
    a_is_line := f11, d_is_line := _, F_is_line := F11, b_is_line := b11, g_is_line := PySem.W.mg_of X G a11, k_is_line := k11,
    a_check_line := f12, d_check_line := _, F_check_line := F12, b_check_line := b12, g_check_line := PySem.W.mg_of X G a12, k_check_line := k12,
    a_check_signs := f13, d_check_signs := _, F_check_signs := F13, b_check_signs := b13, g_check_signs := PySem.W.mg_of X G a13, k_check_signs := k13,
    a_plain_pair := f14, d_plain_pair := _, F_plain_pair := F14, b_plain_pair := b14, g_plain_pair := PySem.W.mg_of X G a14, k_plain_pair := k14,
    a_plain := f15, d_plain := _, F_plain := F15, b_plain := b15, g_plain := PySem.W.mg_of X G a15, k_plain := k15,
    a__law_is_right := f16, d__law_is_right := _, F__law_is_right := F16, b__law_is_right := b16, g__law_is_right := PySem.W.mg_of X G a16, k__law_is_right := k16,
    a_law := fa, d_law := _, F_law := F17, b_law := b17, g_law := hfa, k_law := k17,
    t_LEAST_SIGNS := t_LEAST_SIGNS, v_LEAST_SIGNS := PySem.W.mg_of X G v_LEAST_SIGNS,
    t_MOST_SIGNS := t_MOST_SIGNS, v_MOST_SIGNS := PySem.W.mg_of X G v_MOST_SIGNS,
    n_abs := PySem.W.mg_none_of X G z_abs,
    n_all := PySem.W.mg_none_of X G z_all,
    n_bool := PySem.W.mg_none_of X G z_bool,
    n_int := PySem.W.mg_none_of X G z_int,
    n_isinstance := PySem.W.mg_none_of X G z_isinstance,
    n_len := PySem.W.mg_none_of X G z_len,
    n_list := PySem.W.mg_none_of X G z_list,
    n_range := PySem.W.mg_none_of X G z_range,
    n_repr := PySem.W.mg_none_of X G z_repr,
    n_str := PySem.W.mg_none_of X G z_str,
    n_tuple := PySem.W.mg_none_of X G z_tuple,
    n_zip := PySem.W.mg_none_of X G z_zip }
  exact ⟨T.d_law, fun s v => .of_eq rfl, fun base _ _ => ok_law T⟩
theorem walk {l : PySem.W.OpenLaw} {q : Program} {loose : List Str} {XP : (Str → Option Value) → Heap → Prop} {YP : World → Heap → Prop} {d : DefRec} {K : Params → PySem.W.Frag} (hn : l.most = some 63) (hdf : d.params.defaults = [])
    (hY : ∀ (w : World) (h : Heap), YP w h → (K w.params).In h)
    (F : ∀ (w : World) (mg : Str → Option Value) (fa : Addr) (h : Heap), (K w.params).In h → h.Ns mainGlobals mg → mg d.name = some (.ref fa) →
      ∃ fd : FuncData, (∀ (s : Shared) (u : Value), BindsTo s fd ⟨[u], []⟩ [("script", u)]) ∧ ∀ base : Heap, (K w.params).In base → base.Ns mainGlobals mg → FnOk l.prog w (K w.params) mg base (L2.CX l.prog w) 10 fa fd ["script"] (spD (cen (K w.params)) [] false 1 f_law)) :
    PySem.W.WalkO q loose XP YP l.row.toRowW d [] (fun f vs => PySem.call f vs) :=
  L2.walk_ofB (n := 63) (k := 10) (x := "script") (CX := fun w => L2.CX l.prog w) (sp := fun w => spD (cen (K w.params)) [] false 1 f_law) hn (by decide) hdf ⟨rfl, by decide, by decide⟩ hY F
    (fun _ _ a ns hl hb _ hS => let ⟨o, e⟩ := law_ok ns hl hb; law_sp e hS) fun _ _ _ _ _ ⟨_, _, _, _, _, _, _, _, _, _, _, _, z⟩ => z
end VL
open PySem PySem.W PyProof.Rows
set_option maxRecDepth 100000 in
set_option maxHeartbeats 0 in
theorem PySem.Challenge.cw_rowturners_k26_lines_told_the_shortest_w_holds : PySem.Challenge.rw_rowturners_k26_lines_told_the_shortest_w.Holds := by
  w_on; o_law; k_head; (case hw => w_witness2)
  k_fill
  refine VL.walk (l := PySem.Challenge.rw_rowturners_k26_lines_told_the_shortest_w) rfl rfl (fun w h Y => PySem.W.kIn_of Y) ?F
  case F =>
    intro w mg fa h KX G hmg
    refine' VL.all_mk KX G hmg ?a0 ?l0 ?c0 ?k0 ?a1 ?l1 ?c1 ?k1 ?a2 ?l2 ?c2 ?k2 ?a3 ?l3 ?c3 ?k3 ?a4 ?l4 ?c4 ?k4 ?a5 ?l5 ?c5 ?k5 ?a6 ?l6 ?c6 ?k6 ?a7 ?l7 ?c7 ?k7 ?a8 ?l8 ?c8 ?k8 ?a9 ?l9 ?c9 ?k9 ?a10 ?l10 ?c10 ?k10 ?a11 ?l11 ?c11 ?k11 ?a12 ?l12 ?c12 ?k12 ?a13 ?l13 ?c13 ?k13 ?a14 ?l14 ?c14 ?k14 ?a15 ?l15 ?c15 ?k15 ?a16 ?l16 ?c16 ?k16 ?a17 ?l17 ?c17 ?k17 ?v_LEAST_SIGNS ?v_MOST_SIGNS ?z_abs ?z_all ?z_bool ?z_int ?z_isinstance ?z_len ?z_list ?z_range ?z_repr ?z_str ?z_tuple ?z_zip
    (case a0 => k_is)
    (case l0 => k_is)
    (case c0 => k_is)
    (case k0 => k_is)
    (case a1 => k_is)
    (case l1 => k_is)
    (case c1 => k_is)
    (case k1 => k_is)
    (case a2 => k_is)
    (case l2 => k_is)
    (case c2 => k_is)
    (case k2 => k_is)
    (case a3 => k_is)
    (case l3 => k_is)
    (case c3 => k_is)
    (case k3 => k_is)
    (case a4 => k_is)
    (case l4 => k_is)
    (case c4 => k_is)
    (case k4 => k_is)
    (case a5 => k_is)
    (case l5 => k_is)
    (case c5 => k_is)
    (case k5 => k_is)
    (case a6 => k_is)
    (case l6 => k_is)
    (case c6 => k_is)
    (case k6 => k_is)
    (case a7 => k_is)
    (case l7 => k_is)
    (case c7 => k_is)
    (case k7 => k_is)
    (case a8 => k_is)
    (case l8 => k_is)
    (case c8 => k_is)
    (case k8 => k_is)
    (case a9 => k_is)
    (case l9 => k_is)
    (case c9 => k_is)
    (case k9 => k_is)
    (case a10 => k_is)
    (case l10 => k_is)
    (case c10 => k_is)
    (case k10 => k_is)
    (case a11 => k_is)
    (case l11 => k_is)
    (case c11 => k_is)
    (case k11 => k_is)
    (case a12 => k_is)
    (case l12 => k_is)
    (case c12 => k_is)
    (case k12 => k_is)
    (case a13 => k_is)
    (case l13 => k_is)
    (case c13 => k_is)
    (case k13 => k_is)
    (case a14 => k_is)
    (case l14 => k_is)
    (case c14 => k_is)
    (case k14 => k_is)
    (case a15 => k_is)
    (case l15 => k_is)
    (case c15 => k_is)
    (case k15 => k_is)
    (case a16 => k_is)
    (case l16 => k_is)
    (case c16 => k_is)
    (case k16 => k_is)
    (case a17 => k_is)
    (case l17 => k_is)
    (case c17 => k_is)
    (case k17 => k_is)
    (case v_LEAST_SIGNS => k_is)
    (case v_MOST_SIGNS => k_is)
    (case z_abs => k_is)
    (case z_all => k_is)
    (case z_bool => k_is)
    (case z_int => k_is)
    (case z_isinstance => k_is)
    (case z_len => k_is)
    (case z_list => k_is)
    (case z_range => k_is)
    (case z_repr => k_is)
    (case z_str => k_is)
    (case z_tuple => k_is)
    (case z_zip => k_is)
end
