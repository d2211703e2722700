import PyProof.Rows.All
import Wide.All
import OpenK.AllK
import Wide.FinOn
import HandS.Base
import HandS.Call
import HandS.List
import HandS.Comp
import HandS.Ends
import HandS.Exc
import HandS.ExcOwn
import HandS.Words
import HandS.WordsList
import HandS.WordsExc
import HandS.Walk
import HandS.Deep
import HandS.TupAny
import HandS.TupMul
import HandS.TupLe
import HandS.Text
import HandS.Gcd
import HandS.IsInst
import HandS.Conv
import KE.GoesNew
import KE.GoesMore
import KE.GoesEnum
import HandS.TryOnly
import HandS.ExcIs
import HandS.ExcField
import HandS.RaiseMore
import KE.KExcIs
import HandS.Defaults
import HandS.CallSlots
import PyProof.DictStraight
import PyProof.EvalArms
import HandS.More
import PyProof.RulesMatchSeq
import PyProof.Rows.MatchSeqLen
import HandS.ExcInit
import HandS.Head0
import HandS.Head1
import HandS.Head2
import HandS.Head3
import HandS.HeadEnd
import HandS.EndBits
import HandS.HeadHook1
import HandS.HeadHook2
import HandS.HeadHook3
import HandS.HeadHook4
import PySem.Challenge.RW_kinkmeasure_k66_code_is_checked
set_option Elab.async false
set_option linter.all false
set_option maxRecDepth 100000
set_option maxHeartbeats 1000000
set_option autoImplicit false
/-! # The Q layer, part A: data without a heap, how it lies in a heap, lifted readings -/
namespace Kq
open PySem PySem.Spec PyProof.Rows L2

/-- plain data: what a value of the program is, without addresses. ref: the n-th object of the store; exc: the exception in hand (in an except suite, in a slot alone) -/
inductive D where
  | non | bl (b : Bool) | int (i : Int) | str (s : Str) | tup (ds : List D) | ref (n : Nat) | exc
instance : Inhabited D := ⟨.non⟩
/-- an object of the store: a list (mu: it may be changed), an instance -/
inductive Ob where
  | lst (mu : Bool) (ds : List D)
  | ins (c : Str) (fs : List (Str × D))
  | rng (i j c : Int)
abbrev Sto := List Ob
/-- slots -/
abbrev Sl := List (Option D)
inductive R (α : Type) where
  | ok (a : α) (S : Sto)
  | err (x : Str) (fs : List D) (S : Sto)
  | no
def R.bind {α β : Type} (r : R α) (k : α → Sto → R β) : R β := match r with
  | .ok a S => k a S
  | .err x fs S => .err x fs S
  | .no => .no
@[simp] theorem R.bind_ok {α β : Type} (a : α) (S : Sto) (k : α → Sto → R β) : (R.ok a S).bind k = k a S := rfl
@[simp] theorem R.bind_err {α β : Type} (x : Str) (fs : List D) (S : Sto) (k : α → Sto → R β) : (R.err x fs S : R α).bind k = .err x fs S := rfl
@[simp] theorem R.bind_no {α β : Type} (k : α → Sto → R β) : (R.no : R α).bind k = .no := rfl

/-- what is known of the program's classes: their addresses; the exception in hand (in an except suite): where it is, its class's name, its fields -/
structure Kn where
  K : PySem.W.Frag
  cls : Str → Option Addr
  fns : Str → List Str
  xn : List Str
  pn : List Str
  pf : List (Str × Str)
  ec : Option (Addr × Str × List D × Value × Option Addr)

mutual
inductive Rep (kn : Kn) (ρ : List Addr) (H : Hp) : D → V → Prop
  | non : Rep kn ρ H .non .non
  | bl {b} : Rep kn ρ H (.bl b) (.bl b)
  | int {i} : Rep kn ρ H (.int i) (.int i)
  | str {s} : Rep kn ρ H (.str s) (.str s)
  | tup {ds a xs} : SqT kn.K H a xs → Reps kn ρ H ds xs → Rep kn ρ H (.tup ds) (.ref a)
  | ref {n a} : ρ[n]? = some a → Rep kn ρ H (.ref n) (.ref a)
inductive Reps (kn : Kn) (ρ : List Addr) (H : Hp) : List D → List V → Prop
  | nil : Reps kn ρ H [] []
  | cons {d v ds vs} : Rep kn ρ H d v → Reps kn ρ H ds vs → Reps kn ρ H (d :: ds) (v :: vs)
end

/-- fields of an instance, in order -/
def FReps (kn : Kn) (ρ : List Addr) (H : Hp) : List (Str × D) → List (Str × V) → Prop := Paired fun p q => p.1 = q.1 ∧ Rep kn ρ H p.2 q.2
/-- at p: range(i, j, c) -/
def rgOk (i j c : Int) : Bool := decide (0 < c) && decide (c < 1000000) && decide (-1000000 < i) && decide (i < 1000000) && decide (-1000000 < j) && decide (j < 1000000)
def rngO (p : Addr) (i j c : Int) : HO := .ext fun h => ∃ t u v, IsRange h p i j c t u v
def ObR (kn : Kn) (ρ : List Addr) (H : Hp) (a : Addr) : Ob → Prop
  | .lst true ds => ∃ xs, H a = some (.lst xs) ∧ Reps kn ρ H ds xs
  | .lst false ds => ∃ xs, Rd H a (.lst xs) ∧ Reps kn ρ H ds xs
  | .ins c fs => ∃ C dx vs, c ∈ kn.pn ∧ kn.cls c = some C ∧ H a = some (.ins C dx vs) ∧ FReps kn ρ H fs vs
  | .rng i j c => H a = some (rngO a i j c) ∧ rgOk i j c = true
structure Rel (kn : Kn) (ρ : List Addr) (H : Hp) (S : Sto) : Prop where
  len : ρ.length = S.length
  nd : ρ.Nodup
  obj : ∀ (i : Nat) (a : Addr) (o : Ob), ρ[i]? = some a → S[i]? = some o → ObR kn ρ H a o

/-- objects that are never changed -/
def fixed : HO → Bool
  | .tup _ | .own _ | .xd _ | .met _ _ | .rng _ _ | .frz _ _ => true
  | _ => false
/-- from (ρ, H) to (ρ', H'): new names, what stands stands, what is not named stands -/
structure Gr (ρ ρ' : List Addr) (H H' : Hp) : Prop where
  pre : ρ <+: ρ'
  new : ∀ a, a ∈ ρ' → a ∉ ρ → H a = none
  fix : ∀ a o, H a = some o → fixed o = true → H' a = some o
  oth : ∀ a o, H a = some o → a ∉ ρ → H' a = some o
theorem Gr.refl {ρ : List Addr} {H : Hp} : Gr ρ ρ H H := ⟨List.prefix_refl _, fun _ h n => absurd h n, fun _ _ h _ => h, fun _ _ h _ => h⟩
theorem Gr.trans {ρ ρ1 ρ2 : List Addr} {H H1 H2 : Hp} (g : Gr ρ ρ1 H H1) (k : Gr ρ1 ρ2 H1 H2) : Gr ρ ρ2 H H2 := by
  have none_of : ∀ a, a ∉ ρ → H1 a = none → H a = none := fun a hn h1 => by
    cases e : H a with
    | none => rfl
    | some o => rw [g.oth a o e hn] at h1; cases h1
  refine ⟨g.pre.trans k.pre, fun a h2 hn => ?_, fun a o e f => k.fix a o (g.fix a o e f) f, fun a o e hn => ?_⟩
  · by_cases h1 : a ∈ ρ1
    · exact g.new a h1 hn
    · exact none_of a hn (k.new a h2 h1)
  · refine k.oth a o (g.oth a o e hn) fun h1 => ?_
    rw [g.new a h1 hn] at e; cases e

theorem pre_get {α : Type} {l l' : List α} (h : l <+: l') {i : Nat} {a : α} (e : l[i]? = some a) : l'[i]? = some a := by
  obtain ⟨r, rfl⟩ := h
  rw [List.getElem?_append_left]
  · exact e
  · exact (List.getElem?_eq_some_iff.mp e).1

theorem SqT.fix {K : PySem.W.Frag} {H H' : Hp} {a : Addr} {xs : List V} (h : SqT K H a xs) (f : ∀ a o, H a = some o → fixed o = true → H' a = some o) : SqT K H' a xs := by
  rcases h with (h | ⟨o, h⟩) | h
  · exact .inl (.inl (f _ _ h rfl))
  · exact .inl (.inr ⟨o, f _ _ h rfl⟩)
  · exact .inr h

mutual
theorem Rep.mono {kn : Kn} {ρ ρ' : List Addr} {H H' : Hp} (hp : ρ <+: ρ') (f : ∀ a o, H a = some o → fixed o = true → H' a = some o) : ∀ {d : D} {v : V}, Rep kn ρ H d v → Rep kn ρ' H' d v
  | _, _, .non => .non
  | _, _, .bl => .bl
  | _, _, .int => .int
  | _, _, .str => .str
  | _, _, .tup h r => .tup (SqT.fix h f) (Reps.mono hp f r)
  | _, _, .ref h => .ref (pre_get hp h)
theorem Reps.mono {kn : Kn} {ρ ρ' : List Addr} {H H' : Hp} (hp : ρ <+: ρ') (f : ∀ a o, H a = some o → fixed o = true → H' a = some o) : ∀ {ds : List D} {vs : List V}, Reps kn ρ H ds vs → Reps kn ρ' H' ds vs
  | _, _, .nil => .nil
  | _, _, .cons h r => .cons (Rep.mono hp f h) (Reps.mono hp f r)
end
theorem Rep.gr {kn : Kn} {ρ ρ' : List Addr} {H H' : Hp} {d : D} {v : V} (h : Rep kn ρ H d v) (g : Gr ρ ρ' H H') : Rep kn ρ' H' d v := h.mono g.pre g.fix
theorem Reps.gr {kn : Kn} {ρ ρ' : List Addr} {H H' : Hp} {d : List D} {v : List V} (h : Reps kn ρ H d v) (g : Gr ρ ρ' H H') : Reps kn ρ' H' d v := h.mono g.pre g.fix
theorem Reps.length {kn : Kn} {ρ : List Addr} {H : Hp} : ∀ {ds : List D} {vs : List V}, Reps kn ρ H ds vs → ds.length = vs.length
  | _, _, .nil => rfl
  | _, _, .cons _ r => congrArg (· + 1) r.length
theorem Reps.get {kn : Kn} {ρ : List Addr} {H : Hp} : ∀ {ds : List D} {vs : List V} {i : Nat} {d : D}, Reps kn ρ H ds vs → ds[i]? = some d → ∃ v, vs[i]? = some v ∧ Rep kn ρ H d v
  | _, _, _, _, .nil, e => by simp at e
  | _, _, 0, _, .cons h _, e => by simp at e; subst e; exact ⟨_, rfl, h⟩
  | _, _, i + 1, d, .cons _ r, e => by simpa using Reps.get (i := i) r (by simpa using e)
theorem Reps.get' {kn : Kn} {ρ : List Addr} {H : Hp} : ∀ {ds : List D} {vs : List V} {i : Nat} {v : V}, Reps kn ρ H ds vs → vs[i]? = some v → ∃ d, ds[i]? = some d ∧ Rep kn ρ H d v
  | _, _, _, _, .nil, e => by simp at e
  | _, _, 0, _, .cons h _, e => by simp at e; subst e; exact ⟨_, rfl, h⟩
  | _, _, i + 1, d, .cons _ r, e => by simpa using Reps.get' (i := i) r (by simpa using e)
theorem Reps.append {kn : Kn} {ρ : List Addr} {H : Hp} : ∀ {ds es : List D} {vs ws : List V}, Reps kn ρ H ds vs → Reps kn ρ H es ws → Reps kn ρ H (ds ++ es) (vs ++ ws)
  | _, _, _, _, .nil, s => s
  | _, _, _, _, .cons h r, s => .cons h (Reps.append r s)
theorem Reps.take {kn : Kn} {ρ : List Addr} {H : Hp} : ∀ {ds : List D} {vs : List V} (n : Nat), Reps kn ρ H ds vs → Reps kn ρ H (ds.take n) (vs.take n)
  | _, _, 0, _ => .nil
  | _, _, _ + 1, .nil => .nil
  | _, _, n + 1, .cons r t => .cons r (Reps.take n t)
theorem Reps.drop {kn : Kn} {ρ : List Addr} {H : Hp} : ∀ {ds : List D} {vs : List V} (n : Nat), Reps kn ρ H ds vs → Reps kn ρ H (ds.drop n) (vs.drop n)
  | _, _, 0, r => r
  | _, _, _ + 1, .nil => .nil
  | _, _, n + 1, .cons _ t => Reps.drop n t
theorem Reps.set {kn : Kn} {ρ : List Addr} {H : Hp} {d : D} {v : V} (h : Rep kn ρ H d v) : ∀ {ds : List D} {vs : List V} (n : Nat), Reps kn ρ H ds vs → Reps kn ρ H (ds.set n d) (vs.set n v)
  | _, _, _, .nil => .nil
  | _, _, 0, .cons _ t => .cons h t
  | _, _, n + 1, .cons q t => .cons q (Reps.set h n t)
theorem Reps.rep {kn : Kn} {ρ : List Addr} {H : Hp} {d : D} {v : V} (h : Rep kn ρ H d v) : ∀ n : Nat, Reps kn ρ H (List.replicate n d) (List.replicate n v)
  | 0 => .nil
  | n + 1 => .cons h (Reps.rep h n)
theorem Reps.reverse {kn : Kn} {ρ : List Addr} {H : Hp} {ds : List D} {vs : List V} (h : Reps kn ρ H ds vs) : Reps kn ρ H ds.reverse vs.reverse := by
  induction ds generalizing vs with
  | nil => cases h; exact .nil
  | cons d ds ih =>
    cases h with
    | cons h r => rw [List.reverse_cons, List.reverse_cons]; exact (ih r).append (.cons h .nil)
theorem FReps.mono {kn : Kn} {ρ ρ' : List Addr} {H H' : Hp} (hp : ρ <+: ρ') (f : ∀ a o, H a = some o → fixed o = true → H' a = some o) {ds : List (Str × D)} {vs : List (Str × V)} (h : FReps kn ρ H ds vs) : FReps kn ρ' H' ds vs :=
  Paired.mapP h fun _ _ q => ⟨q.1, q.2.mono hp f⟩
theorem FReps.lookup {kn : Kn} {ρ : List Addr} {H : Hp} : ∀ {ds : List (Str × D)} {vs : List (Str × V)} {x : Str} {d : D}, FReps kn ρ H ds vs → ds.lookup x = some d → ∃ v, vs.lookup x = some v ∧ Rep kn ρ H d v
  | _, _, x, d, .nil, e => by simp at e
  | _, _, x, d, .cons (a := p) (b := q) h r, e => by
    rw [List.lookup_cons] at e ⊢
    rw [← h.1]
    by_cases hx : (x == p.1) = true
    · rw [hx] at e ⊢; simp only at e ⊢; cases e; exact ⟨_, rfl, h.2⟩
    · have hx' : (x == p.1) = false := by simpa using hx
      rw [hx'] at e ⊢; simp only at e ⊢; exact FReps.lookup r e

/-- a changed object's description stands where its own object stands -/
theorem ObR.mono {kn : Kn} {ρ ρ' : List Addr} {H H' : Hp} {a : Addr} {o : Ob} (h : ObR kn ρ H a o) (hp : ρ <+: ρ') (f : ∀ a o, H a = some o → fixed o = true → H' a = some o) (ha : ∀ u, H a = some u → H' a = some u) : ObR kn ρ' H' a o := by
  cases o with
  | lst mu ds =>
    cases mu with
    | true => obtain ⟨xs, h1, h2⟩ := h; exact ⟨xs, ha _ h1, h2.mono hp f⟩
    | false =>
      obtain ⟨xs, h1, h2⟩ := h
      refine ⟨xs, ?_, h2.mono hp f⟩
      rcases h1 with h | ⟨o, h⟩
      · exact .inl (ha _ h)
      · exact .inr ⟨o, ha _ h⟩
  | ins c fs => obtain ⟨C, dx, vs, h0, h1, h2, h3⟩ := h; exact ⟨C, dx, vs, h0, h1, ha _ h2, h3.mono hp f⟩
  | rng i j c => exact ⟨ha _ h.1, h.2⟩

/-- everything stands: a new object is laid at p, not named -/
theorem Gr.lay {ρ : List Addr} {H : Hp} {p : Addr} {o : HO} (hp : H p = none) : Gr ρ ρ H (upd H p o) := by
  refine ⟨List.prefix_refl _, fun _ h n => absurd h n, fun a u e _ => ?_, fun a u e _ => ?_⟩ <;>
  · rw [upd_ne (fun z => by rw [z, hp] at e; cases e)]; exact e
theorem Rel.lay {kn : Kn} {ρ : List Addr} {H : Hp} {S : Sto} {p : Addr} {o : HO} (r : Rel kn ρ H S) (hp : H p = none) : Rel kn ρ (upd H p o) S :=
  ⟨r.len, r.nd, fun i a u h1 h2 => (r.obj i a u h1 h2).mono (List.prefix_refl _) (Gr.lay (ρ := ρ) hp).fix fun v e => by
    rw [upd_ne (fun z => by rw [z, hp] at e; cases e)]; exact e⟩
/-- a new object is laid at p and named -/
theorem Gr.name {ρ : List Addr} {H : Hp} {p : Addr} {o : HO} (hp : H p = none) : Gr ρ (ρ ++ [p]) H (upd H p o) := by
  have g := Gr.lay (ρ := ρ) (o := o) hp
  refine ⟨⟨[p], rfl⟩, fun a h n => ?_, g.fix, g.oth⟩
  rcases List.mem_append.mp h with h | h
  · exact absurd h n
  · simp at h; subst h; exact hp
theorem Rel.there {kn : Kn} {ρ : List Addr} {H : Hp} {S : Sto} (r : Rel kn ρ H S) {p : Addr} (h : p ∈ ρ) : ∃ u, H p = some u := by
  obtain ⟨i, hi⟩ := List.getElem?_of_mem h
  have hl : i < S.length := by rw [← r.len]; exact (List.getElem?_eq_some_iff.mp hi).1
  have ob := r.obj i p S[i] hi (by simp [hl])
  cases e : S[i] with
  | lst mu ds =>
    rw [e] at ob
    cases mu with
    | true => obtain ⟨xs, h1, _⟩ := ob; exact ⟨_, h1⟩
    | false =>
      obtain ⟨xs, h1, _⟩ := ob
      rcases h1 with h1 | ⟨o, h1⟩
      · exact ⟨_, h1⟩
      · exact ⟨_, h1⟩
  | ins c fs => rw [e] at ob; obtain ⟨C, dx, vs, _, _, h2, _⟩ := ob; exact ⟨_, h2⟩
  | rng i j c => rw [e] at ob; exact ⟨_, ob.1⟩
theorem Rel.fresh {kn : Kn} {ρ : List Addr} {H : Hp} {S : Sto} (r : Rel kn ρ H S) {p : Addr} (hp : H p = none) : p ∉ ρ := fun h => by
  obtain ⟨u, e⟩ := r.there h
  rw [hp] at e; cases e

/-- an exception: its class cv and its own dict dx -/
def XcR (kn : Kn) (ρ : List Addr) (H : Hp) (x : Str) (fs : List D) (cv : Value) (dx : Option Addr) : Prop :=
  ∃ C, x ∈ kn.xn ∧ kn.cls x = some C ∧ cv = .ref C ∧ ((fs = [] ∧ dx = none) ∨ ∃ d vs l, fs ≠ [] ∧ dx = some d ∧ Reps kn ρ H fs vs ∧ H d = some (.xd l) ∧ ∀ f, l.lookup f = ((kn.fns x).zip vs).lookup f)
theorem XcR.gr {kn : Kn} {ρ ρ' : List Addr} {H H' : Hp} {x : Str} {fs : List D} {cv : Value} {dx : Option Addr} (h : XcR kn ρ H x fs cv dx) (hp : ρ <+: ρ') (f : ∀ a o, H a = some o → fixed o = true → H' a = some o) : XcR kn ρ' H' x fs cv dx := by
  obtain ⟨C, h0, h1, h2, h3⟩ := h
  refine ⟨C, h0, h1, h2, ?_⟩
  rcases h3 with h3 | ⟨d, vs, l, e0, e1, e2, e3, e4⟩
  · exact .inl h3
  · exact .inr ⟨d, vs, l, e0, e1, e2.mono hp f, f _ _ e3 rfl, e4⟩
/-- a slot's content: data, or the exception in hand -/
def RepX (kn : Kn) (ρ : List Addr) (H : Hp) (d : D) (v : V) : Prop := Rep kn ρ H d v ∨ (d = .exc ∧ ∃ a r, kn.ec = some (a, r) ∧ v = .ref a)
theorem RepX.mono {kn : Kn} {ρ ρ' : List Addr} {H H' : Hp} {d : D} {v : V} (h : RepX kn ρ H d v) (hp : ρ <+: ρ') (f : ∀ a o, H a = some o → fixed o = true → H' a = some o) : RepX kn ρ' H' d v := by
  rcases h with h | h
  · exact .inl (h.mono hp f)
  · exact .inr h
/-- slots -/
structure RepEnv (kn : Kn) (ρ : List Addr) (H : Hp) (σd : Sl) (σ : L2.St) : Prop where
  len : σd.length = σ.length
  get : ∀ (i : Nat) (d : D), σd[i]? = some (some d) → ∃ v, σ[i]? = some (some v) ∧ RepX kn ρ H d v
  ex : ∀ a x fs cv dx, kn.ec = some (a, x, fs, cv, dx) → XcR kn ρ H x fs cv dx
theorem RepEnv.mono {kn : Kn} {ρ ρ' : List Addr} {H H' : Hp} {σd : Sl} {σ : L2.St} (h : RepEnv kn ρ H σd σ) (hp : ρ <+: ρ') (f : ∀ a o, H a = some o → fixed o = true → H' a = some o) : RepEnv kn ρ' H' σd σ :=
  ⟨h.len, fun i d e => let ⟨v, h1, h2⟩ := h.get i d e; ⟨v, h1, h2.mono hp f⟩, fun a x fs cv dx e => (h.ex a x fs cv dx e).gr hp f⟩
theorem RepEnv.gr {kn : Kn} {ρ ρ' : List Addr} {H H' : Hp} {σd : Sl} {σ : L2.St} (h : RepEnv kn ρ H σd σ) (g : Gr ρ ρ' H H') : RepEnv kn ρ' H' σd σ := h.mono g.pre g.fix
theorem RepEnv.setX {kn : Kn} {ρ : List Addr} {H : Hp} {σd : Sl} {σ : L2.St} (h : RepEnv kn ρ H σd σ) {i : Nat} {d : D} {v : V} (r : RepX kn ρ H d v) : RepEnv kn ρ H (σd.set i (some d)) (σ.set i (some v)) := by
  refine ⟨by simp [h.len], fun j e hj => ?_, h.ex⟩
  by_cases hij : i = j
  · subst hij
    by_cases hi : i < σd.length
    · rw [List.getElem?_set_self hi] at hj
      cases hj
      exact ⟨v, by rw [List.getElem?_set_self (by rw [← h.len]; exact hi)], r⟩
    · rw [List.getElem?_eq_none (by simpa using hi)] at hj; cases hj
  · rw [List.getElem?_set_ne hij] at hj
    obtain ⟨w, h1, h2⟩ := h.get j e hj
    exact ⟨w, by rw [List.getElem?_set_ne hij]; exact h1, h2⟩
theorem RepEnv.set {kn : Kn} {ρ : List Addr} {H : Hp} {σd : Sl} {σ : L2.St} (h : RepEnv kn ρ H σd σ) {i : Nat} {d : D} {v : V} (r : Rep kn ρ H d v) : RepEnv kn ρ H (σd.set i (some d)) (σ.set i (some v)) := h.setX (.inl r)
/-- forgetting -/
theorem RepEnv.clear {kn : Kn} {ρ : List Addr} {H : Hp} {σd : Sl} {σ : L2.St} (h : RepEnv kn ρ H σd σ) (i : Nat) (x : Option V) : RepEnv kn ρ H (σd.set i none) (σ.set i x) := by
  refine ⟨by simp [h.len], fun j e hj => ?_, h.ex⟩
  by_cases hij : i = j
  · subst hij
    by_cases hi : i < σd.length
    · rw [List.getElem?_set_self hi] at hj; cases hj
    · rw [List.getElem?_eq_none (by simpa using hi)] at hj; cases hj
  · rw [List.getElem?_set_ne hij] at hj
    obtain ⟨w, h1, h2⟩ := h.get j e hj
    exact ⟨w, by rw [List.getElem?_set_ne hij]; exact h1, h2⟩

/-- what is asked behind an expression, a test, arguments, a statement -/
def PostE (kn : Kn) (W : WX) (σ : L2.St) (ρ : List Addr) (H : Hp) (r : R D) (Q : VK) : Prop := match r with
  | .no => False
  | .ok d S' => ∀ v H' ρ', Gr ρ ρ' H H' → Rel kn ρ' H' S' → Rep kn ρ' H' d v → Q v H'
  | .err x fs S' => ∀ cv dx H' ρ', Gr ρ ρ' H H' → Rel kn ρ' H' S' → XcR kn ρ' H' x fs cv dx → W cv dx σ H'
def PostA (kn : Kn) (W : WX) (σ : L2.St) (ρ : List Addr) (H : Hp) (r : R (List D)) (Q : List V → Hp → Prop) : Prop := match r with
  | .no => False
  | .ok d S' => ∀ v H' ρ', Gr ρ ρ' H H' → Rel kn ρ' H' S' → Reps kn ρ' H' d v → Q v H'
  | .err x fs S' => ∀ cv dx H' ρ', Gr ρ ρ' H H' → Rel kn ρ' H' S' → XcR kn ρ' H' x fs cv dx → W cv dx σ H'
def PostT (kn : Kn) (W : WX) (σ : L2.St) (ρ : List Addr) (H : Hp) (r : R Bool) (Q : Bool → Hp → Prop) : Prop := match r with
  | .no => False
  | .ok b S' => ∀ H' ρ', Gr ρ ρ' H H' → Rel kn ρ' H' S' → Q b H'
  | .err x fs S' => ∀ cv dx H' ρ', Gr ρ ρ' H H' → Rel kn ρ' H' S' → XcR kn ρ' H' x fs cv dx → W cv dx σ H'
/-- how a statement ends -/
inductive RS where
  | nx (σ : Sl) (S : Sto)
  | rt (d : D) (S : Sto)
  | bk (σ : Sl) (S : Sto)
  | ct (σ : Sl) (S : Sto)
  | err (x : Str) (fs : List D) (σ : Sl) (S : Sto)
  | no
def PostS (kn : Kn) (W : WX) (ρ : List Addr) (H : Hp) (r : RS) (N : Ends) : Prop := match r with
  | .no => False
  | .nx σd S' => ∀ σ' H' ρ', Gr ρ ρ' H H' → Rel kn ρ' H' S' → RepEnv kn ρ' H' σd σ' → N.nx σ' H'
  | .rt d S' => ∀ v H' ρ', Gr ρ ρ' H H' → Rel kn ρ' H' S' → Rep kn ρ' H' d v → N.rt v H'
  | .bk σd S' => ∀ σ' H' ρ', Gr ρ ρ' H H' → Rel kn ρ' H' S' → RepEnv kn ρ' H' σd σ' → N.bk σ' H'
  | .ct σd S' => ∀ σ' H' ρ', Gr ρ ρ' H H' → Rel kn ρ' H' S' → RepEnv kn ρ' H' σd σ' → N.ct σ' H'
  | .err x fs σd S' => ∀ cv dx σ' H' ρ', Gr ρ ρ' H H' → Rel kn ρ' H' S' → RepEnv kn ρ' H' σd σ' → XcR kn ρ' H' x fs cv dx → W cv dx σ' H'

def liftE (kn : Kn) (W : WX) (t : Sl → Sto → R D) : TE := fun σ H Q => ∃ ρ σd S, Rel kn ρ H S ∧ RepEnv kn ρ H σd σ ∧ PostE kn W σ ρ H (t σd S) Q
def liftA (kn : Kn) (W : WX) (t : Sl → Sto → R (List D)) : TA := fun σ H Q => ∃ ρ σd S, Rel kn ρ H S ∧ RepEnv kn ρ H σd σ ∧ PostA kn W σ ρ H (t σd S) Q
def liftT (kn : Kn) (W : WX) (t : Sl → Sto → R Bool) : TT := fun σ H Q => ∃ ρ σd S, Rel kn ρ H S ∧ RepEnv kn ρ H σd σ ∧ PostT kn W σ ρ H (t σd S) Q
def liftS (kn : Kn) (W : WX) (t : Sl → Sto → RS) : TS := fun N σ H => ∃ ρ σd S, Rel kn ρ H S ∧ RepEnv kn ρ H σd σ ∧ PostS kn W ρ H (t σd S) N

section
variable {kn : Kn} {W : WX} {σ : L2.St} {ρ ρ1 : List Addr} {H H1 : Hp}
theorem PostE.gr {r : R D} {Q : VK} (h : PostE kn W σ ρ H r Q) (g : Gr ρ ρ1 H H1) : PostE kn W σ ρ1 H1 r Q := by
  cases r with
  | no => exact h
  | ok d S => exact fun v H' ρ' k => h v H' ρ' (g.trans k)
  | err x fs S => exact fun v d H' ρ' k => h v d H' ρ' (g.trans k)
theorem PostA.gr {r : R (List D)} {Q : List V → Hp → Prop} (h : PostA kn W σ ρ H r Q) (g : Gr ρ ρ1 H H1) : PostA kn W σ ρ1 H1 r Q := by
  cases r with
  | no => exact h
  | ok d S => exact fun v H' ρ' k => h v H' ρ' (g.trans k)
  | err x fs S => exact fun v d H' ρ' k => h v d H' ρ' (g.trans k)
theorem PostT.gr {r : R Bool} {Q : Bool → Hp → Prop} (h : PostT kn W σ ρ H r Q) (g : Gr ρ ρ1 H H1) : PostT kn W σ ρ1 H1 r Q := by
  cases r with
  | no => exact h
  | ok d S => exact fun H' ρ' k => h H' ρ' (g.trans k)
  | err x fs S => exact fun v d H' ρ' k => h v d H' ρ' (g.trans k)
theorem PostS.gr {r : RS} {N : Ends} (h : PostS kn W ρ H r N) (g : Gr ρ ρ1 H H1) : PostS kn W ρ1 H1 r N := by
  cases r with
  | no => exact h
  | nx d S => exact fun v H' ρ' k => h v H' ρ' (g.trans k)
  | rt d S => exact fun v H' ρ' k => h v H' ρ' (g.trans k)
  | bk d S => exact fun v H' ρ' k => h v H' ρ' (g.trans k)
  | ct d S => exact fun v H' ρ' k => h v H' ρ' (g.trans k)
  | err x fs d S => exact fun v d H1 H' ρ' k => h v d H1 H' ρ' (g.trans k)
/-- an expression first, then what its value goes to -/
theorem PostE.bindE {r : R D} {k : D → Sto → R D} {Q : VK} (h : PostE kn W σ ρ H (r.bind k) Q) :
    PostE kn W σ ρ H r (fun v H1 => ∃ ρ1 d S1, Gr ρ ρ1 H H1 ∧ Rel kn ρ1 H1 S1 ∧ Rep kn ρ1 H1 d v ∧ PostE kn W σ ρ1 H1 (k d S1) Q) := by
  cases r with
  | no => exact h
  | ok d S => exact fun v H' ρ' g rl rp => ⟨ρ', d, S, g, rl, rp, h.gr g⟩
  | err x fs S => exact h
theorem PostA.bindE {r : R (List D)} {k : List D → Sto → R D} {Q : VK} (h : PostE kn W σ ρ H (r.bind k) Q) :
    PostA kn W σ ρ H r (fun v H1 => ∃ ρ1 d S1, Gr ρ ρ1 H H1 ∧ Rel kn ρ1 H1 S1 ∧ Reps kn ρ1 H1 d v ∧ PostE kn W σ ρ1 H1 (k d S1) Q) := by
  cases r with
  | no => exact h
  | ok d S => exact fun v H' ρ' g rl rp => ⟨ρ', d, S, g, rl, rp, h.gr g⟩
  | err x fs S => exact h
theorem PostE.bindA {r : R D} {k : D → Sto → R (List D)} {Q : List V → Hp → Prop} (h : PostA kn W σ ρ H (r.bind k) Q) :
    PostE kn W σ ρ H r (fun v H1 => ∃ ρ1 d S1, Gr ρ ρ1 H H1 ∧ Rel kn ρ1 H1 S1 ∧ Rep kn ρ1 H1 d v ∧ PostA kn W σ ρ1 H1 (k d S1) Q) := by
  cases r with
  | no => exact h
  | ok d S => exact fun v H' ρ' g rl rp => ⟨ρ', d, S, g, rl, rp, h.gr g⟩
  | err x fs S => exact h
theorem PostA.bindA {r : R (List D)} {k : List D → Sto → R (List D)} {Q : List V → Hp → Prop} (h : PostA kn W σ ρ H (r.bind k) Q) :
    PostA kn W σ ρ H r (fun v H1 => ∃ ρ1 d S1, Gr ρ ρ1 H H1 ∧ Rel kn ρ1 H1 S1 ∧ Reps kn ρ1 H1 d v ∧ PostA kn W σ ρ1 H1 (k d S1) Q) := by
  cases r with
  | no => exact h
  | ok d S => exact fun v H' ρ' g rl rp => ⟨ρ', d, S, g, rl, rp, h.gr g⟩
  | err x fs S => exact h
theorem PostE.bindT {r : R D} {k : D → Sto → R Bool} {Q : Bool → Hp → Prop} (h : PostT kn W σ ρ H (r.bind k) Q) :
    PostE kn W σ ρ H r (fun v H1 => ∃ ρ1 d S1, Gr ρ ρ1 H H1 ∧ Rel kn ρ1 H1 S1 ∧ Rep kn ρ1 H1 d v ∧ PostT kn W σ ρ1 H1 (k d S1) Q) := by
  cases r with
  | no => exact h
  | ok d S => exact fun v H' ρ' g rl rp => ⟨ρ', d, S, g, rl, rp, h.gr g⟩
  | err x fs S => exact h
theorem PostT.bindT {r : R Bool} {k : Bool → Sto → R Bool} {Q : Bool → Hp → Prop} (h : PostT kn W σ ρ H (r.bind k) Q) :
    PostT kn W σ ρ H r (fun b H1 => ∃ ρ1 S1, Gr ρ ρ1 H H1 ∧ Rel kn ρ1 H1 S1 ∧ PostT kn W σ ρ1 H1 (k b S1) Q) := by
  cases r with
  | no => exact h
  | ok d S => exact fun H' ρ' g rl => ⟨ρ', S, g, rl, h.gr g⟩
  | err x fs S => exact h
theorem PostT.bindE {r : R Bool} {k : Bool → Sto → R D} {Q : VK} (h : PostE kn W σ ρ H (r.bind k) Q) :
    PostT kn W σ ρ H r (fun b H1 => ∃ ρ1 S1, Gr ρ ρ1 H H1 ∧ Rel kn ρ1 H1 S1 ∧ PostE kn W σ ρ1 H1 (k b S1) Q) := by
  cases r with
  | no => exact h
  | ok d S => exact fun H' ρ' g rl => ⟨ρ', S, g, rl, h.gr g⟩
  | err x fs S => exact h
/-- an expression ahead of a statement's rest -/
def RS.of {α : Type} (r : R α) (σd : Sl) (k : α → Sto → RS) : RS := match r with
  | .ok a S => k a S
  | .err x fs S => .err x fs σd S
  | .no => .no
theorem PostE.bindS {r : R D} {k : D → Sto → RS} {σd : Sl} {N : Ends} (e : RepEnv kn ρ H σd σ) (h : PostS kn W ρ H (RS.of r σd k) N) :
    PostE kn W σ ρ H r (fun v H1 => ∃ ρ1 d S1, Gr ρ ρ1 H H1 ∧ Rel kn ρ1 H1 S1 ∧ Rep kn ρ1 H1 d v ∧ PostS kn W ρ1 H1 (k d S1) N) := by
  cases r with
  | no => exact h
  | ok d S => exact fun v H' ρ' g rl rp => ⟨ρ', d, S, g, rl, rp, h.gr g⟩
  | err x fs S => exact fun cv dx H' ρ' g rl xr => h cv dx σ H' ρ' g rl (e.gr g) xr
theorem PostA.bindS {r : R (List D)} {k : List D → Sto → RS} {σd : Sl} {N : Ends} (e : RepEnv kn ρ H σd σ) (h : PostS kn W ρ H (RS.of r σd k) N) :
    PostA kn W σ ρ H r (fun v H1 => ∃ ρ1 d S1, Gr ρ ρ1 H H1 ∧ Rel kn ρ1 H1 S1 ∧ Reps kn ρ1 H1 d v ∧ PostS kn W ρ1 H1 (k d S1) N) := by
  cases r with
  | no => exact h
  | ok d S => exact fun v H' ρ' g rl rp => ⟨ρ', d, S, g, rl, rp, h.gr g⟩
  | err x fs S => exact fun cv dx H' ρ' g rl xr => h cv dx σ H' ρ' g rl (e.gr g) xr
theorem PostT.bindS {r : R Bool} {k : Bool → Sto → RS} {σd : Sl} {N : Ends} (e : RepEnv kn ρ H σd σ) (h : PostS kn W ρ H (RS.of r σd k) N) :
    PostT kn W σ ρ H r (fun b H1 => ∃ ρ1 S1, Gr ρ ρ1 H H1 ∧ Rel kn ρ1 H1 S1 ∧ PostS kn W ρ1 H1 (k b S1) N) := by
  cases r with
  | no => exact h
  | ok d S => exact fun H' ρ' g rl => ⟨ρ', S, g, rl, h.gr g⟩
  | err x fs S => exact fun cv dx H' ρ' g rl xr => h cv dx σ H' ρ' g rl (e.gr g) xr
end

/-! ### weakening -/
theorem PE.imp {X : Cx} {e : Expr} {t t' : TE} (h : PE X e t) (i : ∀ σ H Q, t' σ H Q → t σ H Q) : PE X e t' := ⟨fun pins s σ H Q I q => h.run pins s σ H Q I (i σ H Q q)⟩
theorem PT.imp {X : Cx} {e : Expr} {t t' : TT} (h : PT X e t) (i : ∀ σ H Q, t' σ H Q → t σ H Q) : PT X e t' := ⟨fun pins s σ H Q I q => h.run pins s σ H Q I (i σ H Q q)⟩
theorem PW.imp {X : Cx} {e : Expr} {t t' : TT} (h : PW X e t) (i : ∀ σ H Q, t' σ H Q → t σ H Q) : PW X e t' := ⟨fun w pins s σ H Q I q => h.run w pins s σ H Q I (i σ H Q q)⟩
theorem PA.imp {X : Cx} {e : List Expr} {t t' : TA} (h : PA X e t) (i : ∀ σ H Q, t' σ H Q → t σ H Q) : PA X e t' := ⟨fun p pins s σ H Q I q => h.run p pins s σ H Q I (i σ H Q q)⟩
theorem PS.imp {X : Cx} {e : Stmt} {t t' : TS} (h : PS X e t) (i : ∀ N σ H, t' N σ H → t N σ H) : PS X e t' := ⟨fun pins s σ H N I q => h.run pins s σ H N I (i N σ H q)⟩
theorem PSs.imp {X : Cx} {e : List Stmt} {t t' : TS} (h : PSs X e t) (i : ∀ N σ H, t' N σ H → t N σ H) : PSs X e t' := ⟨fun pins s σ H N I q => h.run pins s σ H N I (i N σ H q)⟩
/-- a reading may ask more of what follows -/
theorem liftE.up {kn : Kn} {W : WX} {t : Sl → Sto → R D} {σ : L2.St} {ρ : List Addr} {H : Hp} {σd : Sl} {S : Sto} {Q : VK} (rl : Rel kn ρ H S) (re : RepEnv kn ρ H σd σ) (h : PostE kn W σ ρ H (t σd S) Q) : liftE kn W t σ H Q := ⟨ρ, σd, S, rl, re, h⟩
end Kq
set_option Elab.async false
set_option linter.all false
set_option maxRecDepth 100000
set_option maxHeartbeats 1000000
set_option autoImplicit false
/-! # The Q layer, part B: code of one's own and what it does to data -/
namespace Kq
open PySem PySem.Spec PyProof.Rows L2

inductive BO where
  | add | sub | mul | fdiv | mod | pow | shl | rev
  deriving DecidableEq
inductive CO where
  | eq | ne | lt | le | gt | ge | is | isn | inn | nin
  deriving DecidableEq
/-- built-in functions that are called by name -/
inductive Bi where
  | len | abs | int | str | tup | lst | gcd | lcm | max | min | all | any | sum | rng | repr | bool
  deriving DecidableEq
/-- methods of built-in types -/
inductive Bm where
  | append | extend | pop | partition | join | index | count | get | items | split
  deriving DecidableEq
mutual
inductive Tg where
  | nm (i : Nat)
  | tp (ts : Tgs)
inductive Tgs where
  | nil
  | cons (t : Tg) (r : Tgs)
end
mutual
inductive Ex where
  | con (d : D)
  | loc (i : Nat)
  | glo (x : Str)
  | bin (o : BO) (a b : Ex)
  | neg (a : Ex)
  | nt (a : Ex)
  | ands (a b : Ex)
  | ors (a b : Ex)
  | ite (t a b : Ex)
  | cmp (o : CO) (a b : Ex)
  | chn (o p : CO) (a b c : Ex)
  | tup (as : Exs)
  | lst (as : Exs)
  | idx (a i : Ex)
  | sl (a : Ex) (lo hi : Exs)
  | call (f : Str) (as : Exs)
  | cal (f : Str) (dfl : List D) (arr : List Nat) (as ks : Exs)
  | bi (b : Bi) (as : Exs)
  | bl (b : Bi) (a : Ex)
  | isi (a : Ex) (t : String)
  | lc (ow : List Nat) (t : Tg) (it : It) (c e : Ex)
  | fld (cs : List Str) (a : Ex) (f : Str)
  | mth (cs : List (Str × Str)) (m : Str) (a : Ex) (as : Exs)
  | bm (m : Bm) (a : Ex) (as : Exs)
  | mk (c key : Str) (as : Exs)
  | eis (i : Nat) (c : Str)
  | efl (i : Nat) (f : Str)
  | lrg (tu : Bool) (as : Exs)
  | rep (as : Exs)
  | dgt (kvs : List (Str × D)) (a : Ex)
inductive Exs where
  | nil
  | cons (a : Ex) (r : Exs)
inductive It where
  | tmp (a : Ex)
  | ex (a : Ex)
  | rng (as : Exs)
  | zip (a b : Ex)
  | zip3 (a b c : Ex)
  | enm (a : Ex)
end
mutual
inductive Cm where
  | ex (e : Ex)
  | asg (t : Tg) (e : Ex)
  | par (i j : Nat) (a b : Ex)
  | sub (a i e : Ex)
  | fst (cs : List Str) (a : Ex) (f : Str) (e : Ex)
  | aug (i : Nat) (o : BO) (e : Ex)
  | ite (t : Ex) (b c : Cms)
  | for_ (t : Tg) (it : It) (b : Cms)
  | whl (t : Ex) (b : Cms)
  | ret (e : Ex)
  | retN
  | pass
  | brk
  | cont
  | rse (x : Str) (as : Exs)
  | try_ (b : Cms) (hs : Hds)
inductive Cms where
  | nil
  | cons (a : Cm) (r : Cms)
inductive Hds where
  | nil
  | cons (x : Str) (i : Option Nat) (b : Cms) (r : Hds)
end

def Exs.length : Exs → Nat
  | .nil => 0
  | .cons _ r => r.length + 1

/-! ### operations on data -/
def big : Nat := 1000000
theorem big_le : big ≤ sizeLine := by rw [sizeLine_eq]; decide
def mulOk (i j : Int) : Bool := decide (i.natAbs.log2 + j.natAbs.log2 < 100000000)
def divOk (i j : Int) : Bool := decide (j ≠ 0) && !Builtin.divisionGoesByPylong i j
def powOk (i j : Int) : Bool := decide (0 ≤ j) && decide (j ≤ 100000) && decide (i.natAbs.log2 * j.toNat < 1000000)
def binD (o : BO) (a b : D) (S : Sto) : R D := match o with
  | .add => match a, b with
    | .int i, .int j => .ok (.int (i + j)) S
    | .str x, .str y => if x.length + y.length ≤ big then .ok (.str (x ++ y)) S else .no
    | .tup x, .tup y => if x.length + y.length ≤ big then .ok (.tup (x ++ y)) S else .no
    | .ref n, .ref m => match S[n]?, S[m]? with
      | some (.lst true x), some (.lst true y) => if x.length + y.length ≤ big then .ok (.ref S.length) (S ++ [.lst true (x ++ y)]) else .no
      | _, _ => .no
    | _, _ => .no
  | .sub => match a, b with
    | .int i, .int j => .ok (.int (i - j)) S
    | _, _ => .no
  | .mul => match a, b with
    | .int i, .int j => if mulOk i j = true then .ok (.int (i * j)) S else .no
    | .tup x, .int j => if -big < j ∧ j < big ∧ x.length * j.toNat ≤ big then .ok (.tup (List.replicate j.toNat x).flatten) S else .no
    | .ref n, .int j => match S[n]? with
      | some (.lst true x) => if -big < j ∧ j < big ∧ x.length * j.toNat ≤ big then .ok (.ref S.length) (S ++ [.lst true (List.replicate j.toNat x).flatten]) else .no
      | _ => .no
    | _, _ => .no
  | .fdiv => match a, b with
    | .int i, .int j => if divOk i j = true then .ok (.int (i.fdiv j)) S else .no
    | _, _ => .no
  | .mod => match a, b with
    | .int i, .int j => if j = 0 then .no else .ok (.int (i.fmod j)) S
    | _, _ => .no
  | .pow => match a, b with
    | .int i, .int j => if 0 ≤ j ∧ j ≤ 1000000 ∧ i.natAbs < 2 ^ 64 then .ok (.int (i ^ j.toNat)) S else .no
    | _, _ => .no
  | .shl => match a, b with
    | .int i, .int j => if 0 ≤ j ∧ j ≤ 1000000 ∧ i.natAbs < 2 ^ 64 then .ok (.int (i * 2 ^ j.toNat)) S else .no
    | _, _ => .no
  | .rev => match a, b with
    | .tup x, .non => .ok (.tup x.reverse) S
    | .ref n, .non => match S[n]? with
      | some (.lst _ x) => .ok (.ref S.length) (S ++ [.lst true x.reverse])
      | _ => .no
    | _, _ => .no
def negD (a : D) (S : Sto) : R D := match a with
  | .int i => .ok (.int (-i)) S
  | _ => .no
/-- truth -/
def truD (a : D) (S : Sto) : R Bool := match a with
  | .non => .ok false S
  | .bl b => .ok b S
  | .int i => .ok (i != 0) S
  | .str x => if x.length ≤ big then .ok (x.length != 0) S else .no
  | .tup ds => .ok (!ds.isEmpty) S
  | .ref n => match S[n]? with
    | some (.lst _ ds) => .ok (!ds.isEmpty) S
    | _ => .no
  | .exc => .no
mutual
def toP : D → Option PyData
  | .non => some .none
  | .bl b => some (.bool b)
  | .int i => some (.int i)
  | .str x => some (.str x)
  | .tup ds => (toPs ds).map .tuple
  | .ref _ => none
  | .exc => none
def toPs : List D → Option (List PyData)
  | [] => some []
  | d :: r => (toP d).bind fun p => (toPs r).map (p :: ·)
end
def toPS (S : Sto) : D → Option PyData
  | .ref n => match S[n]? with
    | some (.lst _ ds) => (toPs ds).map .list
    | _ => none
  | d => toP d
def mapO {α β : Type} (f : α → Option β) : List α → Option (List β)
  | [] => some []
  | x :: r => match f x, mapO f r with
    | some y, some s => some (y :: s)
    | _, _ => none
/-- data with lists at any depth -/
def toPk (S : Sto) : Nat → D → Option PyData
  | 0, _ => none
  | k + 1, d => match d with
    | .non => some .none
    | .bl b => some (.bool b)
    | .int i => some (.int i)
    | .str x => some (.str x)
    | .tup ds => match mapO (toPk S k) ds with
      | some ps => some (.tuple ps)
      | none => none
    | .ref n => match S[n]? with
      | some (.lst _ ds) => match mapO (toPk S k) ds with
        | some ps => some (.list ps)
        | none => none
      | _ => none
    | .exc => none
def eqP (p q : Option PyData) : Option Bool := match p, q with
  | some p, some q => if SeqAt.shaped p = true ∧ SeqAt.shaped q = true then some (PyData.eqv p q) else none
  | _, _ => none
def eqD (S : Sto) (a b : D) : Option Bool := match toPS S a, toPS S b with
  | some p, some q => if SeqAt.shaped p = true ∧ SeqAt.shaped q = true then some (PyData.eqv p q) else none
  | _, _ => eqP (toPk S 12 a) (toPk S 12 b)
/-- in, over a list of any data -/
def inD (S : Sto) (a b : D) : Option Bool := match b with
  | .ref _ => match toPk S 12 a, toPk S 12 b with
    | some p, some (.list ds) => if SeqAt.shaped p = true ∧ SeqAt.shaped (.list ds) = true then some (ds.any fun z => PyData.eqv z p) else none
    | _, _ => none
  | _ => none
def flatD : D → Bool
  | .non | .bl _ | .int _ | .str _ => true
  | _ => false
/-- == of flat data as `in` asks it -/
def eqF : D → D → Bool
  | .non, .non => true
  | .bl a, .bl b => a == b
  | .int a, .int b => a == b
  | .str a, .str b => a == b
  | .bl a, .int j => (if a then 1 else 0) == j
  | .int i, .bl b => i == (if b then 1 else 0)
  | _, _ => false
def itemsD (S : Sto) : D → Option (List D)
  | .tup ds => some ds
  | .ref n => match S[n]? with
    | some (.lst _ ds) => some ds
    | _ => none
  | _ => none
/-- one sign in a text -/
def signIn (a b : D) : Option Bool := match b with
  | .str z => (match a with
    | .str c => (match c.cps.toList with
      | [k] => some (decide (k ∈ z.cps.toList))
      | _ => none)
    | _ => none)
  | _ => none
def cmpD (o : CO) (a b : D) (S : Sto) : R D := match o with
  | .eq => match eqD S a b with
    | some k => .ok (.bl k) S
    | none => .no
  | .ne => match eqD S a b with
    | some k => .ok (.bl (!k)) S
    | none => .no
  | .lt => match a, b with
    | .int i, .int j => .ok (.bl (decide (i < j))) S
    | _, _ => .no
  | .le => match a, b with
    | .int i, .int j => .ok (.bl (decide (i ≤ j))) S
    | _, _ => .no
  | .gt => match a, b with
    | .int i, .int j => .ok (.bl (decide (j < i))) S
    | _, _ => .no
  | .ge => match a, b with
    | .int i, .int j => .ok (.bl (decide (j ≤ i))) S
    | _, _ => .no
  | .is => match b with
    | .non => (match a with
      | .exc => .no
      | .non => .ok (.bl true) S
      | _ => .ok (.bl false) S)
    | .bl j => (match a with
      | .bl i => .ok (.bl (decide (i = j))) S
      | .non => .ok (.bl false) S
      | _ => .no)
    | _ => .no
  | .isn => match b with
    | .non => (match a with
      | .exc => .no
      | .non => .ok (.bl false) S
      | _ => .ok (.bl true) S)
    | .bl j => (match a with
      | .bl i => .ok (.bl (!decide (i = j))) S
      | .non => .ok (.bl true) S
      | _ => .no)
    | _ => .no
  | .inn => match signIn a b with
    | some k => .ok (.bl k) S
    | none => match itemsD S b with
      | some ds => if flatD a = true ∧ ds.all flatD = true then .ok (.bl (ds.any fun y => eqF y a)) S else match inD S a b with
        | some k => .ok (.bl k) S
        | none => .no
      | none => .no
  | .nin => match signIn a b with
    | some k => .ok (.bl (!k)) S
    | none => match itemsD S b with
      | some ds => if flatD a = true ∧ ds.all flatD = true then .ok (.bl (!ds.any fun y => eqF y a)) S else match inD S a b with
        | some k => .ok (.bl (!k)) S
        | none => .no
      | none => .no
/-- a[i] -/
def atD {α : Type} (xs : List α) (i : Int) : Option α := atI xs i
def idxD (a i : D) (S : Sto) : R D := match i with
  | .int k => match a with
    | .tup ds => match atI ds k with
      | some d => .ok d S
      | none => .no
    | .ref n => match S[n]? with
      | some (.lst _ ds) => match atI ds k with
        | some d => .ok d S
        | none => .no
      | _ => .no
    | .str x => if x.length ≤ big then match atI x.cps.toList k with
        | some c => .ok (.str ⟨#[c]⟩) S
        | none => .no
      else .no
    | _ => .no
  | _ => .no
def partR (ds : List D) (S : Sto) : R (Option Int) := match ds with
  | [] => .ok none S
  | [.int i] => .ok (some i) S
  | _ => .no
def cutD {α : Type} (xs : List α) (lo hi : Option Int) : List α := (xs.drop (HT.sIx xs.length 0 lo)).take (HT.sIx xs.length xs.length hi - HT.sIx xs.length 0 lo)
def slD (a : D) (l h : Option Int) (S : Sto) : R D := match a with
    | .tup ds => .ok (.tup (cutD ds l h)) S
    | .ref n => match S[n]? with
      | some (.lst _ ds) => .ok (.ref S.length) (S ++ [.lst true (cutD ds l h)])
      | _ => .no
    | .str x => if x.length ≤ big then .ok (.str ⟨(cutD x.cps.toList l h).toArray⟩) S else .no
    | _ => .no
def lEqB : List Nat → List Nat → Bool
  | [], [] => true
  | a :: r, b :: s => Nat.beq a b && lEqB r s
  | [], _ :: _ => false
  | _ :: _, [] => false
def memS (x : Str) : List Str → Bool
  | [] => false
  | y :: r => lEqB x.cps.toList y.cps.toList || memS x r
def fldD (cs : List Str) (a : D) (f : Str) (S : Sto) : R D := match a with
  | .ref n => match S[n]? with
    | some (.ins c fs) => match memS c cs, fs.lookup f with
      | true, some d => .ok d S
      | _, _ => .no
    | _ => .no
  | _ => .no
def allB : List D → Option (List Bool)
  | [] => some []
  | .bl b :: r => (allB r).map (b :: ·)
  | _ :: _ => none
def allI : List D → Option (List Int)
  | [] => some []
  | .int b :: r => (allI r).map (b :: ·)
  | _ :: _ => none
def tyOf : D → String
  | .non => "NoneType" | .bl _ => "bool" | .int _ => "int" | .str _ => "str" | .tup _ => "tuple" | .ref _ => "list" | .exc => ""
def kitTab (a b : String) : Bool := a == b || (a == "bool" && b == "int")
def isiT (d : D) (t : String) (S : Sto) : R D := match d with
  | .exc => .no
  | .ref n => match S[n]? with
    | some (.lst _ _) => .ok (.bl (kitTab "list" t)) S
    | _ => .no
  | d => .ok (.bl (kitTab (tyOf d) t)) S
/-- range(i, j, c), c positive: how many, which -/
def rgN (i j c : Int) : Nat := (if i < j then (j - i - 1) / c + 1 else 0).toNat
def rgL (i j c : Int) : List D := (List.range (rgN i j c)).map fun k => .int (i + Int.ofNat k * c)
def rgO (x : D) (S : Sto) : Option (Int × Int × Int) := match x with
  | .ref n => match S[n]? with
    | some (.rng i j c) => some (i, j, c)
    | _ => none
  | _ => none
def biD (b : Bi) (as : List D) (S : Sto) : R D := match b, as with
  | .len, [.str x] => if x.length ≤ big then .ok (.int x.length) S else .no
  | .len, [a] => match itemsD S a with
    | some ds => .ok (.int ds.length) S
    | none => match rgO a S with
      | some r => .ok (.int (rgN r.1 r.2.1 r.2.2)) S
      | none => .no
  | .abs, [.int i] => .ok (.int i.natAbs) S
  | .int, [.int i] => .ok (.int i) S
  | .int, [.bl b] => .ok (.int (if b then 1 else 0)) S
  | .gcd, [.int i, .int j] => .ok (.int (Nat.gcd i.natAbs j.natAbs : Nat)) S
  | .lcm, [.int i, .int j] => if i.natAbs.log2 < 6000 ∧ j.natAbs.log2 < 6000 then .ok (.int (Nat.lcm i.natAbs j.natAbs : Nat)) S else .no
  | .max, [.int i, .int j] => .ok (.int (if j > i then j else i)) S
  | .min, [.int i, .int j] => .ok (.int (if j < i then j else i)) S
  | .all, [.ref n] => match S[n]? with
    | some (.lst _ ds) => match allB ds with
      | some bs => .ok (.bl (bs.all id)) S
      | none => .no
    | _ => .no
  | .any, [.ref n] => match S[n]? with
    | some (.lst _ ds) => match allB ds with
      | some bs => .ok (.bl (bs.any id)) S
      | none => .no
    | _ => .no
  | .sum, [.ref n] => match S[n]? with
    | some (.lst _ ds) => match allI ds with
      | some is => .ok (.int is.sum) S
      | none => .no
    | _ => .no
  | .str, [.int i] => if i.natAbs.log2 < 1920 then .ok (.str (toString i)) S else .no
  | .rng, [.int i, .int j, .int c] => if rgOk i j c = true then .ok (.ref S.length) (S ++ [.rng i j c]) else .no
  | _, _ => .no
/-- repr of a tuple of plain data -/
def repOk (p : PyData) : Bool := p.showable && Nat.ble p.shown.length 16000000 && Nat.ble p.depth 60 && !p.hasDict
def repD (ds : List D) (S : Sto) : R D := match ds with
  | [.tup xs] => match toP (.tup xs) with
    | some p => if repOk p = true then .ok (.str p.shown) S else .no
    | none => .no
  | _ => .no
/-- what a table with texts as keys has at a text -/
def lkS (z : Str) : List (Str × D) → D
  | [] => .non
  | (k, d) :: r => if lEqB z.cps.toList k.cps.toList = true then d else lkS z r
def dgtD (kvs : List (Str × D)) (x : D) (S : Sto) : R D := match x with
  | .str z => .ok (lkS z kvs) S
  | _ => .no
/-- a slot's content as a value: the exception in hand is none -/
def locD (o : Option (Option D)) (S : Sto) : R D := match o with
  | some (some .exc) => .no
  | some (some d) => .ok d S
  | _ => .no
/-- built-ins over the items of a list or tuple -/
def biL (b : Bi) (ds : List D) (S : Sto) : R D := match b with
  | .tup => .ok (.tup ds) S
  | .all => match allB ds with
    | some bs => .ok (.bl (bs.all id)) S
    | none => .no
  | .any => match allB ds with
    | some bs => .ok (.bl (bs.any id)) S
    | none => .no
  | .len => .ok (.int ds.length) S
  | .lst => .ok (.ref S.length) (S ++ [.lst true ds])
  | _ => .no
/-- does this built-in take its argument item by item -/
def Bi.items : Bi → Bool
  | .tup | .all | .any | .lst => true
  | _ => false

/-! ### targets -/
mutual
def asgT : Tg → D → Sl → Option Sl
  | .nm i, d, σ => some (σ.set i (some d))
  | .tp ts, .tup ds, σ => asgTs ts ds σ
  | .tp _, _, _ => none
def asgTs : Tgs → List D → Sl → Option Sl
  | .nil, [], σ => some σ
  | .cons t r, d :: ds, σ => (asgT t d σ).bind fun σ' => asgTs r ds σ'
  | .nil, _ :: _, _ => none
  | .cons _ _, [], _ => none
end
def wipeD (σ : Sl) : List Nat → Sl
  | [] => σ
  | v :: vs => (wipeD σ vs).set v none

/-- what a loop walks over must stand: the objects of the store that are listed are as they are told -/
abbrev Gd := List (Nat × Ob)
def stands (g : Gd) (S : Sto) : Prop := ∀ p ∈ g, S[p.1]? = some p.2
def R.quiet {α : Type} : R α → R α
  | .err _ _ _ => .no
  | r => r

open Classical in
noncomputable def lcL (g : Gd) (f : D → Sto → R (Option D)) : List D → Sto → R (List D)
  | [], S => .ok [] S
  | d :: r, S => (f d S).bind fun o S1 => if stands g S1 then (lcL g f r S1).bind fun ds S2 => .ok (o.toList ++ ds) S2 else .no
open Classical in
noncomputable def forL (g : Gd) (f : D → Sl → Sto → RS) : List D → Sl → Sto → RS
  | [], σ, S => .nx σ S
  | d :: r, σ, S => match f d σ S with
    | .nx σ1 S1 | .ct σ1 S1 => if stands g S1 then forL g f r σ1 S1 else .no
    | .bk σ1 S1 => .nx σ1 S1
    | .rt d S1 => .rt d S1
    | .err x fs σ1 S1 => .err x fs σ1 S1
    | .no => .no
def whlL (t : Sl → Sto → R Bool) (f : Sl → Sto → RS) : Nat → Sl → Sto → RS
  | 0, _, _ => .no
  | n + 1, σ, S => RS.of (t σ S) σ fun b S1 => if b = true then (match f σ S1 with
    | .nx σ2 S2 | .ct σ2 S2 => whlL t f n σ2 S2
    | .bk σ2 S2 => .nx σ2 S2
    | .rt d S2 => .rt d S2
    | .err x fs σ2 S2 => .err x fs σ2 S2
    | .no => .no) else .nx σ S1
/-- the world of a body: what called defs do, what the module's constants are, which class is a kind of which; turns of a while -/
structure Wd where
  fn : Str → List D → Sto → R D
  glo : Str → Option D
  kin : Str → Str → Bool
  fld : Str → List Str
  fuel : Nat
  ec : Option (Str × List D)

/-- a value, its truth, its items -/
structure Ev3 where
  v : Sl → Sto → R D
  t : Sl → Sto → R Bool
  l : Sl → Sto → R (List D)
def itemsR (x : D) (S1 : Sto) : R (List D) := match itemsD S1 x with
    | some ds => .ok ds S1
    | none => .no
def Ev3.of (v : Sl → Sto → R D) : Ev3 := ⟨v, fun σ S => (v σ S).bind truD, fun σ S => (v σ S).bind itemsR⟩
/-- items that are not named -/
def nameL (l : R (List D)) : R D := l.bind fun ds S => .ok (.ref S.length) (S ++ [.lst true ds])
def Ev3.ofL (l : Sl → Sto → R (List D)) : Ev3 := ⟨fun σ S => nameL (l σ S), fun σ S => (nameL (l σ S)).bind truD, l⟩
noncomputable def lcE (g : Gd) (ow : List Nat) (t : Tg) (c : Sl → Sto → R Bool) (e : Sl → Sto → R D) (σ : Sl) (ds : List D) (S : Sto) : R (List D) :=
  (lcL g (fun d S2 => match asgT t d (wipeD σ ow) with
        | some σ1 => ((c σ1 S2).quiet).bind fun b S3 => if b = true then ((e σ1 S3).quiet).bind fun x S4 => .ok (some x) S4 else .ok none S3
        | none => .no) ds S).bind fun ds S2 => if ds.length ≤ big then .ok ds S2 else .no
/-- the items of a tuple or a list, with what must stand while they are walked -/
def srcD (x : D) (S1 : Sto) : Option (Gd × List D) := match x with
    | .tup ds => some ([], ds)
    | .ref n => (match S1[n]? with
      | some (.lst mu ds) => some ([(n, .lst mu ds)], ds)
      | _ => none)
    | _ => none
def itG (x : D) (S1 : Sto) : R (Gd × List D) := match srcD x S1 with
  | some p => .ok p S1
  | none => match rgO x S1 with
    | some r => .ok ([], rgL r.1 r.2.1 r.2.2) S1
    | none => .no
/-- list(range(..)), tuple(range(..)) -/
def lrgM (tu : Bool) (ds : List D) (S : Sto) : R D := if tu = true then .ok (.tup ds) S else .ok (.ref S.length) (S ++ [.lst true ds])
def lrgD (tu : Bool) (ds : List D) (S : Sto) : R D := match ds with
  | [.int j] => if -big < j ∧ j < big then lrgM tu ((List.range j.toNat).map fun i => .int (Int.ofNat i)) S else .no
  | [.int i, .int j] => if (-big < i ∧ i < big) ∧ -big < j ∧ j < big then lrgM tu ((List.range (j - i).toNat).map fun k => .int (i + Int.ofNat k)) S else .no
  | _ => .no
def rngD (ds : List D) (S1 : Sto) : R (Gd × List D) := match ds with
    | [.int n] => if n < big ∧ -big < n then .ok ([], (List.range n.toNat).map fun i => .int (Int.ofNat i)) S1 else .no
    | [.int m, .int n, .int c] => if rgOk m n c = true then .ok ([], rgL m n c) S1 else .no
    | [.int m, .int n] => if -big < m ∧ m < big ∧ n < big ∧ -big < n then .ok ([], (List.range (n - m).toNat).map fun i => .int (m + Int.ofNat i)) S1 else .no
    | _ => .no
def zipD (x y : D) (S2 : Sto) : R (Gd × List D) := match srcD x S2, srcD y S2 with
    | some p, some q => .ok (p.1 ++ q.1, (p.2.zip q.2).map fun p => .tup [p.1, p.2]) S2
    | _, _ => .no
def zip3D (x y z : D) (S2 : Sto) : R (Gd × List D) := match srcD x S2, srcD y S2, srcD z S2 with
    | some p, some q, some r => .ok (p.1 ++ q.1 ++ r.1, ((p.2.zip q.2).zip r.2).map fun p => .tup [p.1.1, p.1.2, p.2]) S2
    | _, _, _ => .no
def enmD (x : D) (S1 : Sto) : R (Gd × List D) := match srcD x S1 with
    | some p => .ok (p.1, (p.2.zipIdx).map fun p => .tup [.int (Int.ofNat p.2), p.1]) S1
    | none => .no
/-- is it an object that has the method -/
def bmChk (m : Bm) (x : D) (S : Sto) : Bool := match m with
  | .append | .extend | .pop => (match x with
    | .ref n => (match S[n]? with
      | some (.lst true _) => true
      | _ => false)
    | _ => false)
  | .partition | .join | .split => (match x with
    | .str _ => true
    | _ => false)
  | _ => false
def bmD (m : Bm) (x : D) (ds : List D) (S2 : Sto) : R D := match m, x, ds with
    | .append, .ref n, [d] => (match S2[n]? with
      | some (.lst true xs) => if xs.length < big then .ok .non (S2.set n (.lst true (xs ++ [d]))) else .no
      | _ => .no)
    | .extend, .ref n, [.ref m] => (match S2[n]?, S2[m]? with
      | some (.lst true xs), some (.lst true ys) => if xs.length + ys.length ≤ big then .ok .non (S2.set n (.lst true (xs ++ ys))) else .no
      | _, _ => .no)
    | _, _, _ => .no
/-- a class's key for a method -/
def mkOf (c : Str) : List (Str × Str) → Option Str
  | [] => none
  | (d, k) :: r => if lEqB c.cps.toList d.cps.toList = true then some k else mkOf c r
/-- the key of the method m of an object -/
def mthK (cs : List (Str × Str)) (m : Str) (x : D) (S : Sto) : Option Str := match x with
  | .ref n => (match S[n]? with
    | some (.ins c fs) => (match fs.lookup m with
      | none => mkOf c cs
      | some _ => none)
    | _ => none)
  | _ => none
def mthR (F : Wd) (o : Option Str) (x : D) (ds : List D) (S2 : Sto) : R D := match o with
  | some k => F.fn k (x :: ds) S2
  | none => .no
/-- an object that was made -/
def mkR (n : Nat) (r : R D) : R D := match r with
  | .ok .non S => .ok (.ref n) S
  | .err x fs S => .err x fs S
  | _ => .no
/-- isinstance of the exception in hand; its field -/
def eisD (ec : Option (Str × List D)) (kin : Str → Str → Bool) (c : Str) (o : Option (Option D)) (S : Sto) : R D := match o, ec with
  | some (some .exc), some (x, _) => .ok (.bl (kin x c)) S
  | _, _ => .no
def eflD (ec : Option (Str × List D)) (fld : Str → List Str) (f : Str) (o : Option (Option D)) (S : Sto) : R D := match o, ec with
  | some (some .exc), some (x, fs) => match ((fld x).zip fs).lookup f with
    | some d => .ok d S
    | none => .no
  | _, _ => .no
/-- written arguments and defaults, in the parameters' order -/
def pickD (arr : List Nat) (xs : List D) : List D := arr.map fun i => xs.getD i .non
mutual
noncomputable def evA (F : Wd) : Ex → Ev3
  | .con d => .of fun _ S => .ok d S
  | .loc i => .of fun σ S => locD (σ[i]?) S
  | .glo x => .of fun _ S => match F.glo x with
    | some d => .ok d S
    | none => .no
  | .bin o a b => .of fun σ S => ((evA F a).v σ S).bind fun x S1 => ((evA F b).v σ S1).bind fun y S2 => binD o x y S2
  | .neg a => .of fun σ S => ((evA F a).v σ S).bind negD
  | .nt a => ⟨fun σ S => ((evA F a).v σ S).bind fun x S1 => (match x with
      | .bl b => .ok (.bl (!b)) S1
      | _ => .no), fun σ S => ((evA F a).t σ S).bind fun k S1 => .ok (!k) S1, fun _ _ => .no⟩
  | .ands a b => ⟨fun σ S => ((evA F a).v σ S).bind fun x S1 => (match x with
      | .bl true => (evA F b).v σ S1
      | .bl false => .ok (.bl false) S1
      | _ => .no), fun σ S => ((evA F a).t σ S).bind fun k S1 => if k = true then (evA F b).t σ S1 else .ok false S1, fun _ _ => .no⟩
  | .ors a b => ⟨fun σ S => ((evA F a).v σ S).bind fun x S1 => (match x with
      | .bl true => .ok (.bl true) S1
      | .bl false => (evA F b).v σ S1
      | _ => .no), fun σ S => ((evA F a).t σ S).bind fun k S1 => if k = true then .ok true S1 else (evA F b).t σ S1, fun _ _ => .no⟩
  | .ite t a b => ⟨fun σ S => ((evA F t).t σ S).bind fun k S1 => if k = true then (evA F a).v σ S1 else (evA F b).v σ S1,
      fun σ S => ((evA F t).t σ S).bind fun k S1 => if k = true then (evA F a).t σ S1 else (evA F b).t σ S1,
      fun σ S => (((evA F t).t σ S).bind fun k S1 => if k = true then (evA F a).v σ S1 else (evA F b).v σ S1).bind itemsR⟩
  | .cmp o a b => .of fun σ S => ((evA F a).v σ S).bind fun x S1 => ((evA F b).v σ S1).bind fun y S2 => cmpD o x y S2
  | .chn o p a b c => .of fun σ S => ((evA F a).v σ S).bind fun x S1 => ((evA F b).v σ S1).bind fun y S2 => (cmpD o x y S2).bind fun k S3 => match k with
    | .bl true => ((evA F c).v σ S3).bind fun z S4 => cmpD p y z S4
    | .bl false => .ok (.bl false) S3
    | _ => .no
  | .tup as => .of fun σ S => (evs F as σ S).bind fun ds S1 => .ok (.tup ds) S1
  | .lst as => .ofL fun σ S => evs F as σ S
  | .idx a i => .of fun σ S => ((evA F a).v σ S).bind fun x S1 => ((evA F i).v σ S1).bind fun y S2 => idxD x y S2
  | .sl a lo hi => .of fun σ S => ((evA F a).v σ S).bind fun x S1 => ((evs F lo σ S1).bind partR).bind fun y S2 => ((evs F hi σ S2).bind partR).bind fun z S3 => slD x y z S3
  | .call f as => .of fun σ S => (evs F as σ S).bind fun ds S1 => F.fn f ds S1
  | .cal f dfl arr as ks => .of fun σ S => (evs F as σ S).bind fun ds S1 => (evs F ks σ S1).bind fun es S2 => F.fn f (pickD arr (ds ++ es ++ dfl)) S2
  | .bi b as => .of fun σ S => (evs F as σ S).bind fun ds S1 => biD b ds S1
  | .bl b a => .of fun σ S => ((evA F a).l σ S).bind fun ds S1 => biL b ds S1
  | .isi a t => .of fun σ S => ((evA F a).v σ S).bind fun x S1 => isiT x t S1
  | .lc ow t it c e => .ofL fun σ S => (evI F it σ S).bind fun gi S1 => lcE gi.1 ow t (evA F c).t (evA F e).v σ gi.2 S1
  | .fld cs a f => .of fun σ S => ((evA F a).v σ S).bind fun x S1 => fldD cs x f S1
  | .mth cs m a as => .of fun σ S => ((evA F a).v σ S).bind fun x S1 => if (mthK cs m x S1).isSome = true then (evs F as σ S1).bind fun ds S2 => mthR F (mthK cs m x S1) x ds S2 else .no
  | .bm m a as => .of fun σ S => ((evA F a).v σ S).bind fun x S1 => if bmChk m x S1 = true then (evs F as σ S1).bind fun ds S2 => bmD m x ds S2 else .no
  | .mk c key as => .of fun σ S => (evs F as σ S).bind fun ds S1 => mkR S1.length (F.fn key (.ref S1.length :: ds) (S1 ++ [.ins c []]))
  | .eis i c => .of fun σ S => eisD F.ec F.kin c (σ[i]?) S
  | .efl i f => .of fun σ S => eflD F.ec F.fld f (σ[i]?) S
  | .lrg tu as => .of fun σ S => (evs F as σ S).bind fun ds S1 => lrgD tu ds S1
  | .rep as => .of fun σ S => (evs F as σ S).bind fun ds S1 => repD ds S1
  | .dgt kvs a => .of fun σ S => ((evA F a).v σ S).bind fun x S1 => dgtD kvs x S1
noncomputable def evs (F : Wd) : Exs → Sl → Sto → R (List D)
  | .nil, _, S => .ok [] S
  | .cons a r, σ, S => ((evA F a).v σ S).bind fun d S1 => (evs F r σ S1).bind fun ds S2 => .ok (d :: ds) S2
noncomputable def evI (F : Wd) : It → Sl → Sto → R (Gd × List D)
  | .tmp a, σ, S => ((evA F a).l σ S).bind fun ds S1 => .ok ([], ds) S1
  | .ex a, σ, S => ((evA F a).v σ S).bind itG
  | .rng as, σ, S => (evs F as σ S).bind rngD
  | .zip a b, σ, S => ((evA F a).v σ S).bind fun x S1 => ((evA F b).v σ S1).bind fun y S2 => zipD x y S2
  | .zip3 a b c, σ, S => ((evA F a).v σ S).bind fun x S1 => ((evA F b).v σ S1).bind fun y S2 => ((evA F c).v σ S2).bind fun z S3 => zip3D x y z S3
  | .enm a, σ, S => ((evA F a).v σ S).bind enmD
end
noncomputable def ev (F : Wd) (e : Ex) (σ : Sl) (S : Sto) : R D := (evA F e).v σ S
noncomputable def tst (F : Wd) (e : Ex) (σ : Sl) (S : Sto) : R Bool := (evA F e).t σ S
noncomputable def evL (F : Wd) (e : Ex) (σ : Sl) (S : Sto) : R (List D) := (evA F e).l σ S

/-! ### statements -/
/-- a turn's data: the target stored, then the body -/
def turnD (t : Tg) (f : Sl → Sto → RS) (d : D) (σ : Sl) (S : Sto) : RS := match asgT t d σ with
  | some σ1 => f σ1 S
  | none => .no
/-- one statement, then the rest -/
def RS.seq (r : RS) (k : Sl → Sto → RS) : RS := match r with
  | .nx σ S => k σ S
  | r => r
/-- x[k] = d -/
def setD (x k d : D) (S : Sto) : Option Sto := match x, k with
  | .ref n, .int i => match S[n]? with
    | some (.lst true ds) => match ixN ds.length i with
      | some j => some (S.set n (.lst true (ds.set j d)))
      | none => none
    | _ => none
  | _, _ => none
/-- a field stored -/
def putD (f : Str) (d : D) : List (Str × D) → List (Str × D)
  | [] => [(f, d)]
  | (g, e) :: r => if g = f then (g, d) :: r else (g, e) :: putD f d r
def setF (cs : List Str) (x : D) (f : Str) (d : D) (S : Sto) : Option Sto := match x with
  | .ref n => match S[n]? with
    | some (.ins c fs) => if memS c cs = true ∧ fs.length < 900 then some (S.set n (.ins c (putD f d fs))) else none
    | _ => none
  | _ => none
/-- an in-place operator at a name -/
def augD (o : BO) (x y : D) (S : Sto) : R D := match x, y with
  | .int i, .int j => binD o (.int i) (.int j) S
  | _, _ => .no
def RS.opt (o : Option Sto) (σ : Sl) : RS := match o with
  | some S => .nx σ S
  | none => .no
def noX (σ : Sl) : Bool := σ.all fun o => match o with
  | some .exc => false
  | _ => true
def clr (i : Option Nat) (σ : Sl) : Sl := match i with
  | some i => σ.set i none
  | none => σ
def inX (i : Option Nat) (σ : Sl) : Sl := match i with
  | some i => σ.set i (some .exc)
  | none => σ
/-- behind an except suite -/
def outX (i : Option Nat) (r : RS) : RS := match r with
  | .nx σ S => if noX (clr i σ) = true then .nx (clr i σ) S else .no
  | .bk σ S => if noX (clr i σ) = true then .bk (clr i σ) S else .no
  | .ct σ S => if noX (clr i σ) = true then .ct (clr i σ) S else .no
  | .rt d S => .rt d S
  | .err _ _ _ _ => .no
  | .no => .no
def tryD (r : RS) (h : Str → List D → Sl → Sto → RS) : RS := match r with
  | .err x fs σ S => h x fs σ S
  | r => r
mutual
noncomputable def evS : Cm → Wd → Sl → Sto → RS
  | .ex e, F, σ, S => RS.of ((evA F e).v σ S) σ fun _ S1 => .nx σ S1
  | .asg t e, F, σ, S => RS.of ((evA F e).v σ S) σ fun d S1 => match asgT t d σ with
    | some σ1 => .nx σ1 S1
    | none => .no
  | .par i j a b, F, σ, S => RS.of ((evA F a).v σ S) σ fun x S1 => RS.of ((evA F b).v σ S1) σ fun y S2 => .nx ((σ.set i (some x)).set j (some y)) S2
  | .sub a i e, F, σ, S => RS.of ((evA F e).v σ S) σ fun d S1 => RS.of ((evA F a).v σ S1) σ fun x S2 => RS.of ((evA F i).v σ S2) σ fun k S3 => RS.opt (setD x k d S3) σ
  | .fst cs a f e, F, σ, S => RS.of ((evA F e).v σ S) σ fun d S1 => RS.of ((evA F a).v σ S1) σ fun x S2 => RS.opt (setF cs x f d S2) σ
  | .aug i o e, F, σ, S => RS.of (locD (σ[i]?) S) σ fun x S1 => RS.of ((evA F e).v σ S1) σ fun y S2 => RS.of (augD o x y S2) σ fun z S3 => .nx (σ.set i (some z)) S3
  | .ite t b c, F, σ, S => RS.of ((evA F t).t σ S) σ fun k S1 => if k = true then evSs b F σ S1 else evSs c F σ S1
  | .for_ t it b, F, σ, S => RS.of (evI F it σ S) σ fun gi S1 => forL gi.1 (turnD t fun σ S => evSs b F σ S) gi.2 σ S1
  | .whl t b, F, σ, S => whlL (evA F t).t (fun σ S => evSs b F σ S) F.fuel σ S
  | .ret e, F, σ, S => RS.of ((evA F e).v σ S) σ fun d S1 => .rt d S1
  | .retN, _, _, S => .rt .non S
  | .pass, _, σ, S => .nx σ S
  | .brk, _, σ, S => .bk σ S
  | .cont, _, σ, S => .ct σ S
  | .rse x as, F, σ, S => RS.of (evs F as σ S) σ fun ds S1 => .err x ds σ S1
  | .try_ b hs, F, σ, S => tryD (evSs b F σ S) fun x fs σ1 S1 => evH hs F x fs σ1 S1
noncomputable def evSs : Cms → Wd → Sl → Sto → RS
  | .nil, _, σ, S => .nx σ S
  | .cons a r, F, σ, S => (evS a F σ S).seq fun σ S => evSs r F σ S
noncomputable def evH : Hds → Wd → Str → List D → Sl → Sto → RS
  | .nil, _, x, fs, σ, S => .err x fs σ S
  | .cons c i b r, F, x, fs, σ, S => if F.kin x c = true then outX i (evSs b { F with ec := some (x, fs) } (inX i σ) S) else evH r F x fs σ S
end
/-- a whole body, called with data -/
noncomputable def callD (F : Wd) (n : Nat) (b : Cms) (ds : List D) (S : Sto) : R D := match evSs b F (ds.map some ++ List.replicate (n - ds.length) none) S with
  | .nx _ S => .ok .non S
  | .rt d S => .ok d S
  | .err x fs _ S => .err x fs S
  | _ => .no
end Kq
set_option Elab.async false
set_option linter.all false
set_option maxRecDepth 100000
set_option maxHeartbeats 2000000
set_option autoImplicit false
/-! # The Q layer, part C: operators -/
namespace Kq
open PySem PySem.Spec PyProof.Rows L2

/-! ### tuple * int, the cases that the layer leaves -/
theorem tuple_mulS (l : Addr) (items : Array Value) (n : Nat) (dd : Option Addr) (sl : Array (Option Value)) (x : Int) (u : Tok) (c0 : (decide (x < -(2 ^ 63)) || decide (x ≥ 2 ^ 63)) = false) (c1 : (items.isEmpty || x == 1) = true) :
    Meets (Builtin.«tuple.__mul__» ⟨[.ref l, .int x u], []⟩) (fun _ R s => s.heap.get? l = some { cls := .type "tuple", dict := dd, data := .seq items n, slots := sl } ∧
      R (.ok (.ret (Value.ref l))) s) :=
  .of_wp fun prog w A R s h => by
    obtain ⟨hp, g, d, tk, os⟩ := s
    obtain ⟨hl, h⟩ := h
    have f1 := AutoSeq1.idx_int
    wp_walk using wpAny_loadPart' hl
    repeat (first
      | (refine wpAny_ite_false (decide_eq_false (by rw [c0]; exact Bool.false_ne_true)) ?_; wp_walk using wpAny_loadPart' hl)
      | (refine wpAny_ite_true (decide_eq_true (by rw [c1])) ?_; wp_walk using wpAny_loadPart' hl))
    exact ⟨_, rfl, h⟩
theorem tuple_mulZ (l : Addr) (items : Array Value) (n : Nat) (dd : Option Addr) (sl : Array (Option Value)) (x : Int) (u : Tok) (c0 : (decide (x < -(2 ^ 63)) || decide (x ≥ 2 ^ 63)) = false) (c1 : (items.isEmpty || x == 1) = false) (c2 : (decide (x ≤ 0) || items.isEmpty) = true) :
    Meets (Builtin.«tuple.__mul__» ⟨[.ref l, .int x u], []⟩) (fun _ R s => s.heap.get? l = some { cls := .type "tuple", dict := dd, data := .seq items n, slots := sl } ∧
      R (.ok (.ret (Value.ref s.heap.objs.size))) { s with heap := s.heap.push { cls := Value.type "tuple", data := Data.seq #[] }, toks := s.toks }) :=
  .of_wp fun prog w A R s h => by
    obtain ⟨hp, g, d, tk, os⟩ := s
    obtain ⟨hl, h⟩ := h
    have f1 := AutoSeq1.idx_int
    wp_walk using wpAny_loadPart' hl
    repeat (first
      | (refine wpAny_ite_false (decide_eq_false (by rw [c0]; exact Bool.false_ne_true)) ?_; wp_walk using wpAny_loadPart' hl)
      | (refine wpAny_ite_false (decide_eq_false (by rw [c1]; exact Bool.false_ne_true)) ?_; wp_walk using wpAny_loadPart' hl)
      | (refine wpAny_ite_true (decide_eq_true (by rw [c2])) ?_; wp_walk using wpAny_loadPart' hl))
    exact ⟨_, rfl, h⟩
/-- t * k, any k of moderate size -/
def rRepA (K : PySem.W.Frag) : R2 := fun x y H Q => ∃ l k xs, x = .ref l ∧ y = .int k ∧ SqT K H l xs ∧ -(2 ^ 62) < k ∧ k < 2 ^ 62 ∧ xs.length * k.toNat ≤ 1000000 ∧
  ((xs = [] ∨ k = 1) → Q (.ref l) H) ∧ (¬ (xs = [] ∨ k = 1) → ∀ p, H p = none → Q (.ref p) (upd H p (.tup (List.replicate k.toNat xs).flatten)))
theorem op_repA {X : Cx} : OpR X (binaryOp .Mult) (rRepA X.K) := by
  intro pins s σ H x y v u Q I rx ry h
  obtain ⟨l, k, xs, rfl, rfl, hT, h1, h2, hz, q1, q2⟩ := h
  cases rx
  obtain ⟨t, rfl⟩ := ry
  obtain ⟨its, r, ⟨⟨cls, dd, data, sl⟩, ho, hc, n, hd⟩, hs⟩ := I.tuple hT
  simp only at hc hd
  subst hc hd
  have hle : its.length = xs.length := r.length.symm
  have c0 : (decide (k < -(2 ^ 63)) || decide (k ≥ 2 ^ 63)) = false := by
    rw [decide_eq_false (by omega), decide_eq_false (by omega)] <;> rfl
  have flen : (List.replicate k.toNat its).flatten.length ≤ sizeLine := by
    rw [PyProof.Rows.lm_len_rep_flat, hle, sizeLine_eq, Nat.mul_comm]
    omega
  by_cases hse : xs = [] ∨ k = 1
  · have c1 : (its.toArray.isEmpty || k == 1) = true := by
      rcases hse with e | e
      · subst e
        have : its = [] := List.eq_nil_of_length_eq_zero hle
        subst this; rfl
      · subst e; simp
    exact wpAny_binaryOp_repeat_ref (T := "tuple") (U := "int") (by decide) ⟨_, ho, rfl⟩ (fun s' => typeIs_int s' k t) noFill_tuple_mul F.fills_int_mul F.slot_int_rmul repeat_tuple F.slot_int_index.lookup
      (call_meets F.slot_int_rmul (typeIs_int s k t) F.entry_int_rmul (F.args_int_rmul_2 _ _) (int_rmul_tuple k t l its.toArray n dd sl)
        ⟨ho, rfl, ⟨_, ho, rfl⟩, call_meets F.slot_tuple_mul ⟨_, ho, rfl⟩ F.entry_tuple_mul (F.args_tuple_mul_2 _ _) (tuple_mulS l its.toArray n dd sl k t c0 c1) ⟨ho, ⟨.ref l, H, I, rfl, q1 hse⟩⟩⟩)
  · have hne : xs ≠ [] := fun e => hse (.inl e)
    have hk1 : k ≠ 1 := fun e => hse (.inr e)
    have hn : its ≠ [] := fun e => hne (by
      rw [e] at hle
      exact List.eq_nil_of_length_eq_zero hle.symm)
    have hi : its.toArray.isEmpty = false := by
      cases its with
      | nil => exact absurd rfl hn
      | cons a b => rfl
    have c1 : (its.toArray.isEmpty || k == 1) = false := by
      rw [hi, Bool.false_or]
      exact beq_eq_false_iff_ne.mpr hk1
    have fin : EP X pins σ Q (.ref s.heap.objs.size) { s with heap := s.heap.push { cls := Value.type "tuple", data := Data.seq (List.replicate k.toNat its).flatten.toArray }, toks := s.toks } := by
      refine ⟨.ref s.heap.objs.size, _, I.laid (t' := s.toks) (o := .tup (List.replicate k.toNat xs).flatten) (fun b ob q => Heap.get?_push_of_some _ q) (Nat.le_refl _) ?_, rfl, q2 hse _ (I.hok.fresh (Nat.le_refl _))⟩
      exact ⟨by rw [PyProof.Rows.lm_len_rep_flat, sizeLine_eq, Nat.mul_comm]; omega, _, r.rep k.toNat, IsTup.new _ _⟩
    by_cases hk0 : k ≤ 0
    · have c2 : (decide (k ≤ 0) || its.toArray.isEmpty) = true := by rw [decide_eq_true hk0]; rfl
      refine wpAny_binaryOp_repeat_ref (T := "tuple") (U := "int") (by decide) ⟨_, ho, rfl⟩ (fun s' => typeIs_int s' k t) noFill_tuple_mul F.fills_int_mul F.slot_int_rmul repeat_tuple F.slot_int_index.lookup
        (call_meets F.slot_int_rmul (typeIs_int s k t) F.entry_int_rmul (F.args_int_rmul_2 _ _) (int_rmul_tuple k t l its.toArray n dd sl)
          ⟨ho, rfl, ⟨_, ho, rfl⟩, call_meets F.slot_tuple_mul ⟨_, ho, rfl⟩ F.entry_tuple_mul (F.args_tuple_mul_2 _ _) (tuple_mulZ l its.toArray n dd sl k t c0 c1 c2) ⟨ho, ?_⟩⟩)
      have e0 : k.toNat = 0 := by omega
      rw [e0] at fin
      exact fin
    · have c2 : (decide (k ≤ 0) || its.toArray.isEmpty) = false := by
        rw [hi, Bool.or_false]
        exact decide_eq_false hk0
      have hm : ((its.toArray.size : Nat) : Int) * k ≤ 1000000 := by
        rw [List.size_toArray, hle]
        have e : ((xs.length * k.toNat : Nat) : Int) = (xs.length : Int) * k := by rw [Int.natCast_mul, Int.toNat_of_nonneg (by omega)]
        rw [← e]; omega
      have c4 : Builtin.Tuple.tupleTooMany (((its.toArray.size : Nat) : Int) * k) = false := by
        unfold Builtin.Tuple.tupleTooMany
        rw [sizeLine_eq]
        exact decide_eq_false (by omega)
      refine wpAny_binaryOp_repeat_ref (T := "tuple") (U := "int") (by decide) ⟨_, ho, rfl⟩ (fun s' => typeIs_int s' k t) noFill_tuple_mul F.fills_int_mul F.slot_int_rmul repeat_tuple F.slot_int_index.lookup
        (call_meets F.slot_int_rmul (typeIs_int s k t) F.entry_int_rmul (F.args_int_rmul_2 _ _) (int_rmul_tuple k t l its.toArray n dd sl)
          ⟨ho, rfl, ⟨_, ho, rfl⟩, call_meets F.slot_tuple_mul ⟨_, ho, rfl⟩ F.entry_tuple_mul (F.args_tuple_mul_2 _ _) (tuple_mulW l its.toArray n dd sl k t c0 c1 c2 (by omega) c4 (by rw [size_rep, List.size_toArray]; exact flen)) ⟨ho, ?_⟩⟩)
      rw [size_rep]
      exact fin

/-! ### the operators' readings joined -/
theorem OpR.or {X : Cx} {f : Value → Value → Sem Value} {r r' : R2} (h : OpR X f r) (h' : OpR X f r') : OpR X f (fun x y H Q => r x y H Q ∨ r' x y H Q) := by
  intro pins s σ H x y v u Q I rx ry q
  rcases q with q | q
  · exact h pins s σ H x y v u Q I rx ry q
  · exact h' pins s σ H x y v u Q I rx ry q
def rAddA (K : PySem.W.Frag) : R2 := fun x y H Q => rI0 (fun i j => .int (i + j)) x y H Q ∨ (∃ i j, x = .str i ∧ y = .str j ∧ i.length + j.length ≤ sizeLine ∧ Q (.str (i ++ j)) H) ∨ rCatA K x y H Q ∨ rCat x y H Q
theorem op_addA {X : Cx} : OpR X (binaryOp .Add) (rAddA X.K) := op_add.or (op_add_str.or (op_catA.or op_cat))
def rMulA (K : PySem.W.Frag) : R2 := fun x y H Q => rI (fun i j => IntMulOk i j) (fun i j => .int (i * j)) x y H Q ∨ rRepA K x y H Q ∨ rRep x y H Q
theorem op_mulI {X : Cx} : OpR X (binaryOp .Mult) (rI (fun i j => IntMulOk i j) fun i j => .int (i * j)) := opI fun _ _ _ _ _ _ _ hc q => mul_int q hc
theorem op_mulA {X : Cx} : OpR X (binaryOp .Mult) (rMulA X.K) := op_mulI.or (op_repA.or op_rep)
theorem op_fdivA {X : Cx} : OpR X (binaryOp .FloorDiv) (rI (fun i j => j ≠ 0 ∧ Builtin.divisionGoesByPylong i j = false) fun i j => .int (i.fdiv j)) := opI fun _ _ _ _ _ _ _ hc q => floordiv_int hc.1 q (.inl hc.2)
theorem mulOk_ok {i j : Int} (h : mulOk i j = true) : IntMulOk i j := by
  have b : ∀ x : Int, Builtin.Int.intBits x ≤ x.natAbs.log2 + 1 := fun x => by
    unfold Builtin.Int.intBits
    split <;> omega
  have h1 := b i
  have h2 := b j
  have h3 : i.natAbs.log2 + j.natAbs.log2 < 100000000 := of_decide_eq_true h
  have e : bitsLine = 134217728 := by decide
  unfold IntMulOk
  intro z
  rw [Bool.and_eq_true] at z
  have z2 := z.2
  unfold Builtin.Int.intTooBig at z2
  have z3 := of_decide_eq_true z2
  rw [e] at z3
  omega

/-! ### what a value is, by its data -/
section
variable {kn : Kn} {ρ : List Addr} {H : Hp} {S : Sto} {v : V}
theorem Rep.int_inv {i : Int} (h : Rep kn ρ H (.int i) v) : v = .int i := by cases h; rfl
theorem Rep.bl_inv {i : Bool} (h : Rep kn ρ H (.bl i) v) : v = .bl i := by cases h; rfl
theorem Rep.str_inv {i : Str} (h : Rep kn ρ H (.str i) v) : v = .str i := by cases h; rfl
theorem Rep.non_inv (h : Rep kn ρ H .non v) : v = .non := by cases h; rfl
theorem Rep.tup_inv {ds : List D} (h : Rep kn ρ H (.tup ds) v) : ∃ a xs, v = .ref a ∧ SqT kn.K H a xs ∧ Reps kn ρ H ds xs := by cases h with | tup h r => exact ⟨_, _, rfl, h, r⟩
theorem Rep.ref_inv {n : Nat} (h : Rep kn ρ H (.ref n) v) : ∃ a, v = .ref a ∧ ρ[n]? = some a := by cases h with | ref h => exact ⟨_, rfl, h⟩
/-- a list of the store -/
theorem Rel.isLst {n : Nat} {mu : Bool} {ds : List D} (rl : Rel kn ρ H S) (h : Rep kn ρ H (.ref n) v) (e : S[n]? = some (.lst mu ds)) : ∃ a xs, v = .ref a ∧ ρ[n]? = some a ∧ SqL kn.K H a xs ∧ Reps kn ρ H ds xs ∧ (mu = true → H a = some (.lst xs)) := by
  obtain ⟨a, rfl, ha⟩ := h.ref_inv
  have o := rl.obj n a _ ha e
  cases mu with
  | true => obtain ⟨xs, h1, h2⟩ := o; exact ⟨a, xs, rfl, ha, SqL.of h1, h2, fun _ => h1⟩
  | false => obtain ⟨xs, h1, h2⟩ := o; exact ⟨a, xs, rfl, ha, .inl h1, h2, fun z => by cases z⟩
theorem Reps.flatten {ds : List D} {xs : List V} (h : Reps kn ρ H ds xs) : ∀ n : Nat, Reps kn ρ H (List.replicate n ds).flatten (List.replicate n xs).flatten
  | 0 => .nil
  | n + 1 => by rw [List.replicate_succ, List.replicate_succ, List.flatten_cons, List.flatten_cons]; exact h.append (Reps.flatten h n)
theorem Reps.nil_iff {ds : List D} {xs : List V} (h : Reps kn ρ H ds xs) : xs = [] ↔ ds = [] := by cases h <;> simp
/-- a new list is named -/
theorem Rel.name {p : Addr} {ds : List D} {xs : List V} (rl : Rel kn ρ H S) (hp : H p = none) (h : Reps kn ρ H ds xs) : Rel kn (ρ ++ [p]) (upd H p (.lst xs)) (S ++ [.lst true ds]) := by
  have g := Gr.name (ρ := ρ) (o := .lst xs) hp
  refine ⟨by simp [rl.len], ?_, fun i a o e1 e2 => ?_⟩
  · rw [List.nodup_append]
    exact ⟨rl.nd, by simp, fun a ha b hb => by simp at hb; subst hb; exact fun z => rl.fresh hp (z ▸ ha)⟩
  · by_cases hi : i < ρ.length
    · rw [List.getElem?_append_left hi] at e1
      rw [List.getElem?_append_left (by rw [← rl.len]; exact hi)] at e2
      exact (rl.obj i a o e1 e2).mono g.pre g.fix fun u e => by rw [upd_ne (fun z => by rw [z, hp] at e; cases e)]; exact e
    · have hl : i = ρ.length := by
        have := (List.getElem?_eq_some_iff.mp e1).1
        simp at this; omega
      subst hl
      rw [List.getElem?_append_right (Nat.le_refl _)] at e1
      rw [rl.len, List.getElem?_append_right (Nat.le_refl _)] at e2
      simp at e1 e2
      subst e1 e2
      exact ⟨xs, upd_same, h.mono g.pre g.fix⟩
end

/-- any new object is named -/
theorem Rel.nameO {kn : Kn} {ρ : List Addr} {H : Hp} {S : Sto} {p : Addr} {o : HO} {b : Ob} (rl : Rel kn ρ H S) (hp : H p = none) (h : ObR kn (ρ ++ [p]) (upd H p o) p b) : Rel kn (ρ ++ [p]) (upd H p o) (S ++ [b]) := by
  have g := Gr.name (ρ := ρ) (o := o) hp
  refine ⟨by simp [rl.len], ?_, fun i a u e1 e2 => ?_⟩
  · rw [List.nodup_append]
    exact ⟨rl.nd, by simp, fun a ha b hb => by simp at hb; subst hb; exact fun z => rl.fresh hp (z ▸ ha)⟩
  · by_cases hi : i < ρ.length
    · rw [List.getElem?_append_left hi] at e1
      rw [List.getElem?_append_left (by rw [← rl.len]; exact hi)] at e2
      exact (rl.obj i a u e1 e2).mono g.pre g.fix fun u e => by rw [upd_ne (fun z => by rw [z, hp] at e; cases e)]; exact e
    · have hl : i = ρ.length := by
        have := (List.getElem?_eq_some_iff.mp e1).1
        simp at this; omega
      subst hl
      rw [List.getElem?_append_right (Nat.le_refl _)] at e1
      rw [rl.len, List.getElem?_append_right (Nat.le_refl _)] at e2
      simp at e1 e2
      subst e1 e2
      exact h
/-! ### two operands -/
section
variable {X : Cx} {kn : Kn} {W : WX} {a b e : Expr} {ta tb : Sl → Sto → R D} {k : D → D → Sto → R D} {r : R2}
theorem PostE.mono {σ : L2.St} {ρ : List Addr} {H : Hp} {t : R D} {Q Q' : VK} (h : PostE kn W σ ρ H t Q) (i : ∀ v H', Q v H' → Q' v H') : PostE kn W σ ρ H t Q' := by
  cases t with
  | no => exact h
  | ok d S => exact fun v H' ρ' g rl rp => i _ _ (h v H' ρ' g rl rp)
  | err x fs S => exact h
theorem PostA.mono {σ : L2.St} {ρ : List Addr} {H : Hp} {t : R (List D)} {Q Q' : List V → Hp → Prop} (h : PostA kn W σ ρ H t Q) (i : ∀ v H', Q v H' → Q' v H') : PostA kn W σ ρ H t Q' := by
  cases t with
  | no => exact h
  | ok d S => exact fun v H' ρ' g rl rp => i _ _ (h v H' ρ' g rl rp)
  | err x fs S => exact h
theorem PostT.mono {σ : L2.St} {ρ : List Addr} {H : Hp} {t : R Bool} {Q Q' : Bool → Hp → Prop} (h : PostT kn W σ ρ H t Q) (i : ∀ v H', Q v H' → Q' v H') : PostT kn W σ ρ H t Q' := by
  cases t with
  | no => exact h
  | ok d S => exact fun H' ρ' g rl => i _ _ (h H' ρ' g rl)
  | err x fs S => exact h
theorem q_bin (ha : PE X a (liftE kn W ta)) (hb : PE X b (liftE kn W tb)) (hop : PE X e (tOp r (liftE kn W ta) (liftE kn W tb)))
    (hr : ∀ σ ρ H S d1 d2 v1 v2 Q, Rel kn ρ H S → Rep kn ρ H d1 v1 → Rep kn ρ H d2 v2 → PostE kn W σ ρ H (k d1 d2 S) Q → r v1 v2 H Q) :
    PE X e (liftE kn W fun σ S => (ta σ S).bind fun x S1 => (tb σ S1).bind fun y S2 => k x y S2) := by
  refine PE.imp hop fun σ H Q ⟨ρ, σd, S, rl, re, h⟩ => ⟨ρ, σd, S, rl, re, (PostE.bindE h).mono fun v1 H1 ⟨ρ1, d1, S1, g1, rl1, r1, h1⟩ => ?_⟩
  refine ⟨ρ1, σd, S1, rl1, re.gr g1, (PostE.bindE h1).mono fun v2 H2 ⟨ρ2, d2, S2, g2, rl2, r2, h2⟩ => ?_⟩
  exact hr σ ρ2 H2 S2 d1 d2 v1 v2 Q rl2 (r1.gr g2) r2 h2
theorem q_un {r : V → Hp → VK → Prop} {k : D → Sto → R D} (ha : PE X a (liftE kn W ta)) (hop : PE X e (tUn r (liftE kn W ta)))
    (hr : ∀ σ ρ H S d1 v1 Q, Rel kn ρ H S → Rep kn ρ H d1 v1 → PostE kn W σ ρ H (k d1 S) Q → r v1 H Q) :
    PE X e (liftE kn W fun σ S => (ta σ S).bind fun x S1 => k x S1) := by
  refine PE.imp hop fun σ H Q ⟨ρ, σd, S, rl, re, h⟩ => ⟨ρ, σd, S, rl, re, (PostE.bindE h).mono fun v1 H1 ⟨ρ1, d1, S1, g1, rl1, r1, h1⟩ => ?_⟩
  exact hr σ ρ1 H1 S1 d1 v1 Q rl1 r1 h1
/-- a value, nothing new -/
theorem PostE.now {σ : L2.St} {ρ : List Addr} {H : Hp} {S : Sto} {d : D} {v : V} {Q : VK} (h : PostE kn W σ ρ H (.ok d S) Q) (rl : Rel kn ρ H S) (r : Rep kn ρ H d v) : Q v H := h v H ρ .refl rl r
/-- a new tuple -/
theorem PostE.tup {σ : L2.St} {ρ : List Addr} {H : Hp} {S : Sto} {ds : List D} {xs : List V} {p : Addr} {Q : VK} (h : PostE kn W σ ρ H (.ok (.tup ds) S) Q) (rl : Rel kn ρ H S) (r : Reps kn ρ H ds xs) (hp : H p = none) : Q (.ref p) (upd H p (.tup xs)) :=
  h _ _ ρ (Gr.lay hp) (rl.lay hp) (.tup (SqT.of upd_same) (r.gr (Gr.lay hp)))
/-- a new list, named -/
theorem PostE.lst {σ : L2.St} {ρ : List Addr} {H : Hp} {S : Sto} {ds : List D} {xs : List V} {p : Addr} {Q : VK} (h : PostE kn W σ ρ H (.ok (.ref S.length) (S ++ [.lst true ds])) Q) (rl : Rel kn ρ H S) (r : Reps kn ρ H ds xs) (hp : H p = none) : Q (.ref p) (upd H p (.lst xs)) := by
  refine h _ _ (ρ ++ [p]) (Gr.name hp) (rl.name hp r) (.ref ?_)
  rw [← rl.len, List.getElem?_append_right (Nat.le_refl _)]
  simp
end
end Kq
set_option Elab.async false
set_option linter.all false
set_option maxRecDepth 100000
set_option maxHeartbeats 2000000
set_option autoImplicit false
/-! # The Q layer, part D: expressions -/
namespace Kq
open PySem PySem.Spec PyProof.Rows L2

/-- items somewhere: of a list or a tuple; of a new list that nobody names -/
def PostL (kn : Kn) (W : WX) (σ : L2.St) (ρ : List Addr) (H : Hp) (r : R (List D)) (Q : VK) : Prop := match r with
  | .no => False
  | .ok ds S' => ∀ a xs H' ρ', Gr ρ ρ' H H' → Rel kn ρ' H' S' → (SqL kn.K H' a xs ∨ SqT kn.K H' a xs) → Reps kn ρ' H' ds xs → Q (.ref a) H'
  | .err x fs S' => ∀ cv dx H' ρ', Gr ρ ρ' H H' → Rel kn ρ' H' S' → XcR kn ρ' H' x fs cv dx → W cv dx σ H'
def PostN (kn : Kn) (W : WX) (σ : L2.St) (ρ : List Addr) (H : Hp) (r : R (List D)) (Q : VK) : Prop := match r with
  | .no => False
  | .ok ds S' => ∀ a xs H' ρ', Gr ρ ρ' H H' → Rel kn ρ' H' S' → H' a = some (.lst xs) → a ∉ ρ' → H a = none → Reps kn ρ' H' ds xs → Q (.ref a) H'
  | .err x fs S' => ∀ cv dx H' ρ', Gr ρ ρ' H H' → Rel kn ρ' H' S' → XcR kn ρ' H' x fs cv dx → W cv dx σ H'
def liftL (kn : Kn) (W : WX) (t : Sl → Sto → R (List D)) : TE := fun σ H Q => ∃ ρ σd S, Rel kn ρ H S ∧ RepEnv kn ρ H σd σ ∧ PostL kn W σ ρ H (t σd S) Q
def liftN (kn : Kn) (W : WX) (t : Sl → Sto → R (List D)) : TE := fun σ H Q => ∃ ρ σd S, Rel kn ρ H S ∧ RepEnv kn ρ H σd σ ∧ PostN kn W σ ρ H (t σd S) Q

structure Q3 (X : Cx) (kn : Kn) (W : WX) (e : Expr) (t : Ev3) : Prop where
  hv : PE X e (liftE kn W t.v)
  ht : PT X e (liftT kn W t.t)
  hl : PE X e (liftL kn W t.l)
abbrev QA (X : Cx) (kn : Kn) (W : WX) (es : List Expr) (t : Sl → Sto → R (List D)) : Prop := PA X es (liftA kn W t)
abbrev QN (X : Cx) (kn : Kn) (W : WX) (e : Expr) (t : Sl → Sto → R (List D)) : Prop := PE X e (liftN kn W t)
/-- a test that is the value's truth -/
def PlainT (X : Cx) (e : Expr) : Prop := ∀ whole, isTrue e X.env whole = (do let v ← whole; standAt e.pos; holding [v] (truthy v))

section
variable {X : Cx} {kn : Kn} {W : WX} {e a b c : Expr} {ta tb tc : Ev3}
theorem int_ne {n : Nat} : ((n : Int) != 0) = (n != 0) := by
  by_cases h : n = 0
  · subst h; rfl
  · have h1 : (n != 0) = true := by simpa using h
    have h2 : ((n : Int) != 0) = true := by simp; omega
    rw [h1, h2]
theorem itemsD_sq {ρ : List Addr} {H : Hp} {S : Sto} {d : D} {v : V} {ds : List D} (rl : Rel kn ρ H S) (r : Rep kn ρ H d v) (h : itemsD S d = some ds) : ∃ a xs, v = .ref a ∧ (SqL kn.K H a xs ∨ SqT kn.K H a xs) ∧ Reps kn ρ H ds xs := by
  cases d with
  | tup es =>
    obtain ⟨a, xs, rfl, h1, h2⟩ := r.tup_inv
    have e : es = ds := by simpa [itemsD] using h
    subst e
    exact ⟨a, xs, rfl, .inr h1, h2⟩
  | ref n =>
    cases e : S[n]? with
    | none => simp [itemsD, e] at h
    | some o =>
      cases o with
      | lst mu es =>
        have e' : es = ds := by simpa [itemsD, e] using h
        subst e'
        obtain ⟨a, xs, rfl, _, h1, h2, _⟩ := rl.isLst r e
        exact ⟨a, xs, rfl, .inl h1, h2⟩
      | ins c fs => simp [itemsD, e] at h
      | rng i j c => simp [itemsD, e] at h
  | _ => simp [itemsD] at h
theorem Reps.isEmpty {ρ : List Addr} {H : Hp} {ds : List D} {xs : List V} (h : Reps kn ρ H ds xs) : xs.isEmpty = ds.isEmpty := by cases h <;> rfl
theorem truD_V {σ : L2.St} {ρ : List Addr} {H : Hp} {S : Sto} {d : D} {v : V} {Q : Bool → Hp → Prop} (rl : Rel kn ρ H S) (r : Rep kn ρ H d v) (h : PostT kn W σ ρ H (truD d S) Q) : ∃ k, TruV kn.K v H k ∧ Q k H := by
  cases d with
  | non => cases r; exact ⟨false, rfl, h H ρ .refl rl⟩
  | bl b => cases r; exact ⟨b, rfl, h H ρ .refl rl⟩
  | int i => cases r; exact ⟨_, rfl, h H ρ .refl rl⟩
  | str x =>
    cases r
    unfold truD at h
    by_cases hx : x.length ≤ big
    · simp only [hx, if_true] at h
      exact ⟨_, ⟨Nat.le_trans hx big_le, int_ne.symm⟩, h H ρ .refl rl⟩
    · simp only [hx, if_false] at h; exact h.elim
  | tup ds =>
    obtain ⟨a, xs, rfl, h1, h2⟩ := r.tup_inv
    exact ⟨_, .inr (.inl ⟨xs, h1, by rw [h2.isEmpty]⟩), h H ρ .refl rl⟩
  | ref n =>
    unfold truD at h
    cases e : S[n]? with
    | none => simp only [e] at h; exact h.elim
    | some o =>
      cases o with
      | lst mu es =>
        simp only [e] at h
        obtain ⟨a, xs, rfl, _, h1, h2, _⟩ := rl.isLst r e
        exact ⟨_, .inl ⟨xs, h1, by rw [h2.isEmpty]⟩, h H ρ .refl rl⟩
      | ins c fs => simp only [e] at h; exact h.elim
      | rng i j c => simp only [e] at h; exact h.elim
  | exc => exact h.elim
theorem PostL.bindE {σ : L2.St} {ρ : List Addr} {H : Hp} {r : R D} {Q : VK} (h : PostL kn W σ ρ H (r.bind itemsR) Q) : PostE kn W σ ρ H r Q := by
  cases r with
  | no => exact h
  | ok d S =>
    intro v H' ρ' g rl rp
    simp only [R.bind_ok, itemsR] at h
    cases e : itemsD S d with
    | none => rw [e] at h; exact h.elim
    | some ds =>
      rw [e] at h
      obtain ⟨a, xs, rfl, h1, h2⟩ := itemsD_sq rl rp e
      exact h a xs H' ρ' g rl h1 h2
  | err x fs S => exact h
theorem PT_of {v : Sl → Sto → R D} (hK : kn.K = X.K) (hv : PE X e (liftE kn W v)) (he : PlainT X e) : PT X e (liftT kn W fun σ S => (v σ S).bind truD) := by
  refine PT.imp (pt_truth hv he) fun σ H Q ⟨ρ, σd, S, rl, re, h⟩ => ⟨ρ, σd, S, rl, re, (PostE.bindT h).mono fun v1 H1 ⟨ρ1, d1, S1, g1, rl1, r1, h1⟩ => ?_⟩
  rw [← hK]
  exact truD_V rl1 r1 h1
theorem PL_of {v : Sl → Sto → R D} (hv : PE X e (liftE kn W v)) : PE X e (liftL kn W fun σ S => (v σ S).bind itemsR) :=
  PE.imp hv fun σ H Q ⟨ρ, σd, S, rl, re, h⟩ => ⟨ρ, σd, S, rl, re, PostL.bindE h⟩
theorem Q3.of {v : Sl → Sto → R D} (hK : kn.K = X.K) (hv : PE X e (liftE kn W v)) (he : PlainT X e) : Q3 X kn W e (Ev3.of v) := ⟨hv, PT_of hK hv he, PL_of hv⟩

/-! ### names and constants -/
theorem q_con {d : D} {v : V} (h : PE X e (tC v)) (hr : ∀ ρ H, Rep kn ρ H d v) : PE X e (liftE kn W fun _ S => .ok d S) :=
  PE.imp h fun σ H Q ⟨ρ, σd, S, rl, re, h⟩ => PostE.now h rl (hr ρ H)
theorem q_loc {i : Nat} {x : Str} {pos : Pos} (hN : X.N[i]? = some x) (hv : Vis X.env.scope x) (hd : (x == ("__debug__" : Str)) = false) (hcd : (x == ("__classdict__" : Str)) = false) :
    PE X (.Name x pos) (liftE kn W fun σ S => locD (σ[i]?) S) := by
  refine PE.imp (pe_var (i := i) hN hv hd hcd) fun σ H Q ⟨ρ, σd, S, rl, re, h⟩ => ?_
  cases e : σd[i]? with
  | none => simp only [e] at h; exact h.elim
  | some o =>
    cases o with
    | none => simp only [e] at h; exact h.elim
    | some d =>
      simp only [e] at h
      obtain ⟨v, h1, h2⟩ := re.get i d e
      rcases h2 with h2 | ⟨rfl, _⟩
      · refine ⟨v, h1, PostE.now (S := S) (d := d) (W := W) (σ := σ) (ρ := ρ) ?_ rl h2⟩
        cases d <;> first | exact h | exact h.elim
      · exact h.elim

/-! ### operators -/
theorem q_binop {o : BO} {op : Operator} {ta tb : Sl → Sto → R D} {pos : Pos} (hK : kn.K = X.K) (hop : (o, op) ∈ [(BO.add, Operator.Add), (.sub, .Sub), (.mul, .Mult), (.fdiv, .FloorDiv), (.mod, .Mod), (.pow, .Pow), (.shl, .LShift)])
    (ha : PE X a (liftE kn W ta)) (hb : PE X b (liftE kn W tb)) : PE X (.BinOp a op b pos) (liftE kn W fun σ S => (ta σ S).bind fun x S1 => (tb σ S1).bind fun y S2 => binD o x y S2) := by
  have bl := big_le
  simp only [List.mem_cons, List.not_mem_nil, or_false, Prod.mk.injEq] at hop
  rcases hop with ⟨rfl, rfl⟩ | ⟨rfl, rfl⟩ | ⟨rfl, rfl⟩ | ⟨rfl, rfl⟩ | ⟨rfl, rfl⟩ | ⟨rfl, rfl⟩ | ⟨rfl, rfl⟩
  · refine q_bin ha hb (pe_op op_addA ha hb) fun σ ρ H S d1 d2 v1 v2 Q rl r1 r2 h => ?_
    rw [← hK]
    unfold binD at h
    simp only at h
    split at h
    · cases r1; cases r2; exact .inl ⟨_, _, rfl, rfl, PostE.now h rl .int⟩
    · cases r1; cases r2
      split at h
      · rename_i hz
        exact .inr (.inl ⟨_, _, rfl, rfl, Nat.le_trans hz bl, PostE.now h rl .str⟩)
      · exact h.elim
    · split at h
      · rename_i x y hz
        obtain ⟨p, xs, rfl, h1, h2⟩ := r1.tup_inv
        obtain ⟨q, ys, rfl, h3, h4⟩ := r2.tup_inv
        refine .inr (.inr (.inl ⟨p, q, xs, ys, rfl, rfl, h1, h3, by rw [← h2.length, ← h4.length]; exact Nat.le_trans hz bl, fun e => ?_, fun _ e => ?_, fun _ _ p' hp => PostE.tup h rl (h2.append h4) hp⟩))
        · have e' := h2.nil_iff.mp e
          subst e'
          exact PostE.now h rl (by simpa using r2)
        · have e' := h4.nil_iff.mp e
          subst e'
          exact PostE.now h rl (by simpa using r1)
      · exact h.elim
    · split at h
      · split at h
        · rename_i x y hx hy hz
          obtain ⟨p, xs, rfl, _, _, h2, h1⟩ := rl.isLst r1 hx
          obtain ⟨q, ys, rfl, _, _, h4, h3⟩ := rl.isLst r2 hy
          refine .inr (.inr (.inr ⟨p, q, xs, ys, rfl, rfl, h1 rfl, h3 rfl, by rw [← h2.length, ← h4.length]; exact Nat.le_trans hz bl, fun p' hp => PostE.lst h rl (h2.append h4) hp⟩))
        · exact h.elim
      · exact h.elim
    · exact h.elim
  · refine q_bin ha hb (pe_op op_sub ha hb) fun σ ρ H S d1 d2 v1 v2 Q rl r1 r2 h => ?_
    unfold binD at h
    simp only at h
    split at h
    · cases r1; cases r2; exact ⟨_, _, rfl, rfl, PostE.now h rl .int⟩
    · exact h.elim
  · refine q_bin ha hb (pe_op op_mulA ha hb) fun σ ρ H S d1 d2 v1 v2 Q rl r1 r2 h => ?_
    rw [← hK]
    unfold binD at h
    simp only at h
    split at h
    · cases r1; cases r2
      split at h
      · rename_i hm
        exact .inl ⟨_, _, rfl, rfl, mulOk_ok hm, PostE.now h rl .int⟩
      · exact h.elim
    · cases r2
      split at h
      · rename_i x j hz
        obtain ⟨p, xs, rfl, h1, h2⟩ := r1.tup_inv
        have hb : (big : Int) = 1000000 := rfl
        obtain ⟨z1, z2, z3⟩ := hz
        rw [hb] at z1 z2
        refine .inr (.inl ⟨p, j, xs, rfl, rfl, h1, by omega, by omega, by rw [← h2.length]; exact z3, fun e => ?_, fun e p' hp => PostE.tup h rl (h2.flatten _) hp⟩)
        refine PostE.now h rl ?_
        rcases e with e | e
        · have e' := h2.nil_iff.mp e
          subst e'
          have : (List.replicate j.toNat ([] : List D)).flatten = [] := by simp
          rw [this]; exact r1
        · subst e
          have : (List.replicate (1 : Int).toNat x).flatten = x := by simp
          rw [this]; exact r1
      · exact h.elim
    · cases r2
      split at h
      · split at h
        · rename_i x hx hz
          obtain ⟨p, xs, rfl, _, _, h2, h1⟩ := rl.isLst r1 hx
          have hb : (big : Int) = 1000000 := rfl
          obtain ⟨z1, z2, z3⟩ := hz
          rw [hb] at z1 z2
          exact .inr (.inr ⟨p, _, xs, rfl, rfl, h1 rfl, by omega, by omega, by rw [← h2.length]; exact Nat.le_trans z3 bl, fun p' hp => PostE.lst h rl (h2.flatten _) hp⟩)
        · exact h.elim
      · exact h.elim
    · exact h.elim
  · refine q_bin ha hb (pe_op op_fdivA ha hb) fun σ ρ H S d1 d2 v1 v2 Q rl r1 r2 h => ?_
    unfold binD at h
    simp only at h
    split at h
    · cases r1; cases r2
      split at h
      · rename_i hm
        have hm' : _ ∧ _ := (Bool.and_eq_true_iff.mp hm)
        exact ⟨_, _, rfl, rfl, ⟨of_decide_eq_true hm'.1, by simpa using hm'.2⟩, PostE.now h rl .int⟩
      · exact h.elim
    · exact h.elim
  · refine q_bin ha hb (pe_op op_modN ha hb) fun σ ρ H S d1 d2 v1 v2 Q rl r1 r2 h => ?_
    unfold binD at h
    simp only at h
    split at h
    · cases r1; cases r2
      split at h
      · exact h.elim
      · rename_i hm
        exact ⟨_, _, rfl, rfl, hm, PostE.now h rl .int⟩
    · exact h.elim
  · refine q_bin ha hb (pe_op op_pow ha hb) fun σ ρ H S d1 d2 v1 v2 Q rl r1 r2 h => ?_
    unfold binD at h
    simp only at h
    split at h
    · cases r1; cases r2
      split at h
      · rename_i hm
        exact ⟨_, _, rfl, rfl, hm, PostE.now h rl .int⟩
      · exact h.elim
    · exact h.elim
  · refine q_bin ha hb (pe_op op_shl ha hb) fun σ ρ H S d1 d2 v1 v2 Q rl r1 r2 h => ?_
    unfold binD at h
    simp only at h
    split at h
    · cases r1; cases r2
      split at h
      · rename_i hm
        exact ⟨_, _, rfl, rfl, hm, PostE.now h rl .int⟩
      · exact h.elim
    · exact h.elim
theorem q_neg {ta : Sl → Sto → R D} {pos : Pos} (ha : PE X a (liftE kn W ta)) : PE X (.UnaryOp .USub a pos) (liftE kn W fun σ S => (ta σ S).bind negD) := by
  refine q_un (k := negD) ha (pe_un un_neg ha) fun σ ρ H S d1 v1 Q rl r1 h => ?_
  unfold negD at h
  split at h
  · cases r1; exact ⟨_, rfl, PostE.now h rl .int⟩
  · exact h.elim
end
end Kq
set_option Elab.async false
set_option linter.all false
set_option maxRecDepth 100000
set_option maxHeartbeats 2000000
set_option autoImplicit false
/-! # The Q layer, part E: comparisons, displays, items, built-ins -/
namespace Kq
open PySem PySem.Spec PyProof.Rows L2

section
variable {X : Cx} {kn : Kn} {W : WX} {e a b c : Expr}
/-! ### data as the library's comparison sees them -/
mutual
theorem toP_Dp {ρ : List Addr} {H : Hp} : ∀ (d : D) (v : V) (p : PyData), Rep kn ρ H d v → toP d = some p → Dp kn.K H v p
  | .non, _, _, r, h => by cases r; simp [toP] at h; subst h; exact .non
  | .bl b, _, _, r, h => by cases r; simp [toP] at h; subst h; exact .bl b
  | .int i, _, _, r, h => by cases r; simp [toP] at h; subst h; exact .int i
  | .str x, _, _, r, h => by cases r; simp [toP] at h; subst h; exact .str x
  | .tup ds, v, p, r, h => by
    obtain ⟨a, xs, rfl, h1, h2⟩ := r.tup_inv
    unfold toP at h
    cases e : toPs ds with
    | none => rw [e] at h; simp at h
    | some ps =>
      rw [e] at h
      simp at h
      subst h
      exact .tup h1 (toPs_Dp ds xs ps h2 e)
  | .ref _, _, _, _, h => by simp [toP] at h
  | .exc, _, _, _, h => by simp [toP] at h
theorem toPs_Dp {ρ : List Addr} {H : Hp} : ∀ (ds : List D) (vs : List V) (ps : List PyData), Reps kn ρ H ds vs → toPs ds = some ps → DpAll kn.K H vs ps
  | [], _, _, r, h => by cases r; simp [toPs] at h; subst h; exact .nil
  | d :: ds, _, _, r, h => by
    cases r with
    | cons r1 r2 =>
      unfold toPs at h
      cases e : toP d with
      | none => rw [e] at h; simp at h
      | some p =>
        rw [e] at h
        cases e2 : toPs ds with
        | none => rw [e2] at h; simp at h
        | some ps =>
          rw [e2] at h
          simp at h
          subst h
          exact .cons (toP_Dp d _ p r1 e) (toPs_Dp ds _ ps r2 e2)
end
theorem toPS_Dp {ρ : List Addr} {H : Hp} {S : Sto} {d : D} {v : V} {p : PyData} (rl : Rel kn ρ H S) (r : Rep kn ρ H d v) (h : toPS S d = some p) : Dp kn.K H v p := by
  cases d with
  | ref n =>
    unfold toPS at h
    simp only at h
    cases e : S[n]? with
    | none => simp [e] at h
    | some o =>
      cases o with
      | ins c fs => simp [e] at h
      | rng i j c => simp [e] at h
      | lst mu ds =>
        simp only [e] at h
        cases e2 : toPs ds with
        | none => simp [e2] at h
        | some ps =>
          simp [e2] at h
          subst h
          obtain ⟨a, xs, rfl, _, h1, h2, _⟩ := rl.isLst r e
          exact .lst h1 (toPs_Dp ds xs ps h2 e2)
  | _ => exact toP_Dp _ _ _ r h
mutual
theorem toPk_Dp {ρ : List Addr} {H : Hp} {S : Sto} (rl : Rel kn ρ H S) : ∀ (k : Nat) {d : D} {v : V} {p : PyData}, Rep kn ρ H d v → toPk S k d = some p → Dp kn.K H v p
  | 0, _, _, _, _, h => by cases h
  | k + 1, d, v, p, r, h => by
    unfold toPk at h
    cases d with
    | non => cases r; cases h; exact .non
    | bl b => cases r; cases h; exact .bl _
    | int i => cases r; cases h; exact .int _
    | str x => cases r; cases h; exact .str _
    | exc => cases h
    | tup ds =>
      simp only at h
      cases r with
      | tup h1 h2 =>
        split at h
        · rename_i ps e
          cases h
          exact .tup h1 (toPks_Dp rl k h2 e)
        · cases h
    | ref n =>
      simp only at h
      split at h
      · rename_i mu ds e0
        split at h
        · rename_i ps e
          cases h
          obtain ⟨a, xs, rfl, _, h1, h2, _⟩ := rl.isLst r e0
          exact .lst h1 (toPks_Dp rl k h2 e)
        · cases h
      · cases h
theorem toPks_Dp {ρ : List Addr} {H : Hp} {S : Sto} (rl : Rel kn ρ H S) : ∀ (k : Nat) {ds : List D} {vs : List V} {ps : List PyData}, Reps kn ρ H ds vs → mapO (toPk S k) ds = some ps → DpAll kn.K H vs ps
  | k, [], _, _, r, h => by cases r; cases h; exact .nil
  | k, d :: ds, _, _, r, h => by
    cases r with
    | cons r1 r2 =>
      unfold mapO at h
      split at h
      · rename_i y s e1 e2
        cases h
        exact .cons (toPk_Dp rl k r1 e1) (toPks_Dp rl k r2 e2)
      · cases h
end
theorem flatV_of {ρ : List Addr} {H : Hp} {d : D} {v : V} (r : Rep kn ρ H d v) (h : flatD d = true) : flatV v = true := by
  cases r <;> first | rfl | simp [flatD] at h
theorem eqV_of {ρ : List Addr} {H : Hp} {d e : D} {v w : V} (r : Rep kn ρ H d v) (q : Rep kn ρ H e w) (h : flatD d = true) (h2 : flatD e = true) : eqV v w = eqF d e := by
  cases r <;> cases q <;> first | rfl | (simp [flatD] at h; done) | (simp [flatD] at h2; done)
theorem flats_of {ρ : List Addr} {H : Hp} : ∀ {ds : List D} {vs : List V}, Reps kn ρ H ds vs → ds.all flatD = true → vs.all flatV = true
  | _, _, .nil, _ => rfl
  | _, _, .cons r t, h => by
    rw [List.all_cons, Bool.and_eq_true] at h ⊢
    exact ⟨flatV_of r h.1, flats_of t h.2⟩
theorem inV_of {ρ : List Addr} {H : Hp} {d : D} {v : V} (r : Rep kn ρ H d v) (hd : flatD d = true) : ∀ {ds : List D} {vs : List V}, Reps kn ρ H ds vs → ds.all flatD = true → inV v vs = ds.any fun y => eqF y d
  | _, _, .nil, _ => rfl
  | _, _, .cons q t, h => by
    rw [List.all_cons, Bool.and_eq_true] at h
    have ih := inV_of r hd t h.2
    unfold inV at ih ⊢
    rw [List.any_cons, List.any_cons, ih, eqV_of q r h.1 hd]

def isNon : D → Bool
  | .non => true
  | _ => false
/-- one comparison -/
def rCmp (K : PySem.W.Frag) : CO → R2
  | .eq => rEqD K
  | .ne => rNeD K
  | .lt => rI0 fun i j => .bl (decide (i < j))
  | .le => rI0 fun i j => .bl (decide (i ≤ j))
  | .gt => rI0 fun i j => .bl (decide (j < i))
  | .ge => rI0 fun i j => .bl (decide (j ≤ i))
  | .is => fun x y H Q => (y = .non ∧ Q (.bl (decide (x = .non))) H) ∨ (∃ a b, x = .bl a ∧ y = .bl b ∧ Q (.bl (decide (a = b))) H) ∨ ∃ b, x = .non ∧ y = .bl b ∧ Q (.bl false) H
  | .isn => fun x y H Q => (y = .non ∧ Q (.bl (!decide (x = .non))) H) ∨ (∃ a b, x = .bl a ∧ y = .bl b ∧ Q (.bl (!decide (a = b))) H) ∨ ∃ b, x = .non ∧ y = .bl b ∧ Q (.bl true) H
  | .inn => fun x y H Q => (∃ (c : Nat) (z : Str), x = .str ⟨#[c]⟩ ∧ y = .str z ∧ Q (.bl (decide (c ∈ z.cps.toList))) H) ∨ rIn K false x y H Q ∨ rInD K x y H Q
  | .nin => fun x y H Q => (∃ (c : Nat) (z : Str), x = .str ⟨#[c]⟩ ∧ y = .str z ∧ Q (.bl (!decide (c ∈ z.cps.toList))) H) ∨ rIn K true x y H Q ∨ rNotInD K x y H Q
def coOp : CmpOp → CO
  | .Eq => .eq | .NotEq => .ne | .Lt => .lt | .LtE => .le | .Gt => .gt | .GtE => .ge | .Is => .is | .IsNot => .isn | .In => .inn | .NotIn => .nin
theorem op_is_nb {X : Cx} : OpR X (compareOp .Is) (fun x y H Q => ∃ b, x = .non ∧ y = .bl b ∧ Q (.bl false) H) := by
  intro pins s σ H x y v u Q I rx ry h
  obtain ⟨b, rfl, rfl, q⟩ := h
  cases (show v = Value.none from rx)
  cases (show u = Value.bool b from ry)
  exact wpAny_is_other rfl (fun z => by cases z) ⟨.bl false, H, I, rfl, q⟩
theorem op_isnot_nb {X : Cx} : OpR X (compareOp .IsNot) (fun x y H Q => ∃ b, x = .non ∧ y = .bl b ∧ Q (.bl true) H) := by
  intro pins s σ H x y v u Q I rx ry h
  obtain ⟨b, rfl, rfl, q⟩ := h
  cases (show v = Value.none from rx)
  cases (show u = Value.bool b from ry)
  exact wpAny_isNot_other rfl (fun z => by cases z) ⟨.bl true, H, I, rfl, q⟩
theorem op_cmp (hu : X.A.units + 66 < cLine) : ∀ o : CmpOp, OpR X (compareOp o) (rCmp X.K (coOp o))
  | .Eq => op_eqD (by omega)
  | .NotEq => op_neD (by omega)
  | .Lt => op_lt
  | .LtE => op_le
  | .Gt => op_gt
  | .GtE => op_ge
  | .Is => op_isN.or (op_is_bl.or op_is_nb)
  | .IsNot => op_notN.or (op_isnot_bl.or op_isnot_nb)
  | .In => op_in_sign.or (op_in_seq.or (op_inD (by omega)))
  | .NotIn => op_notIn_sign.or (op_notIn_seq.or (op_notInD (by omega)))
theorem sign_one {c : Str} {k : Nat} (h : c.cps.toList = [k]) : c = ⟨#[k]⟩ := by
  obtain ⟨a⟩ := c
  simp at h
  have : a = #[k] := by rw [← Array.toList_inj]; simpa using h
  rw [this]
theorem cmp_r {o : CO} {σ : L2.St} {ρ : List Addr} {H : Hp} {S : Sto} {d1 d2 : D} {v1 v2 : V} {Q : VK} (rl : Rel kn ρ H S) (r1 : Rep kn ρ H d1 v1) (r2 : Rep kn ρ H d2 v2) (h : PostE kn W σ ρ H (cmpD o d1 d2 S) Q) : rCmp kn.K o v1 v2 H Q := by
  have eqc : ∀ {k : Bool}, eqD S d1 d2 = some k → ∃ p q, Dp kn.K H v1 p ∧ Dp kn.K H v2 q ∧ SeqAt.shaped p = true ∧ SeqAt.shaped q = true ∧ PyData.eqv p q = k := fun {k} e => by
    unfold eqD at e
    split at e
    · rename_i p q e1 e2
      split at e
      · rename_i hs
        cases e
        exact ⟨p, q, toPS_Dp rl r1 e1, toPS_Dp rl r2 e2, hs.1, hs.2, rfl⟩
      · cases e
    · unfold eqP at e
      split at e
      · rename_i p q e1 e2
        split at e
        · rename_i hs
          cases e
          exact ⟨p, q, toPk_Dp rl _ r1 e1, toPk_Dp rl _ r2 e2, hs.1, hs.2, rfl⟩
        · cases e
      · cases e
  have inc : ∀ {k : Bool}, inD S d1 d2 = some k → ∃ p ds, Dp kn.K H v1 p ∧ Dp kn.K H v2 (.list ds) ∧ SeqAt.shaped p = true ∧ SeqAt.shaped (.list ds) = true ∧ (ds.any fun z => PyData.eqv z p) = k := fun {k} e => by
    unfold inD at e
    split at e
    · split at e
      · rename_i p ds e1 e2
        split at e
        · rename_i hs
          cases e
          exact ⟨p, ds, toPk_Dp rl _ r1 e1, toPk_Dp rl _ r2 e2, hs.1, hs.2, rfl⟩
        · cases e
      · cases e
    · cases e
  have isc : ∀ {σ : L2.St} {d : D} {v : V}, Rep kn ρ H d v → (d ≠ .exc) → decide (v = V.non) = isNon d := fun r hn => by
    cases r <;> first | rfl | (rename_i h; exact absurd rfl hn)
  cases o with
  | eq =>
    unfold cmpD at h
    simp only at h
    cases e : eqD S d1 d2 with
    | none => simp only [e] at h; exact h.elim
    | some k =>
      simp only [e] at h
      obtain ⟨p, q, h1, h2, h3, h4, rfl⟩ := eqc e
      exact ⟨p, q, h1, h2, h3, h4, PostE.now h rl .bl⟩
  | ne =>
    unfold cmpD at h
    simp only at h
    cases e : eqD S d1 d2 with
    | none => simp only [e] at h; exact h.elim
    | some k =>
      simp only [e] at h
      obtain ⟨p, q, h1, h2, h3, h4, rfl⟩ := eqc e
      exact ⟨p, q, h1, h2, h3, h4, PostE.now h rl .bl⟩
  | lt => unfold cmpD at h; simp only at h; split at h; · cases r1; cases r2; exact ⟨_, _, rfl, rfl, PostE.now h rl .bl⟩
          · exact h.elim
  | le => unfold cmpD at h; simp only at h; split at h; · cases r1; cases r2; exact ⟨_, _, rfl, rfl, PostE.now h rl .bl⟩
          · exact h.elim
  | gt => unfold cmpD at h; simp only at h; split at h; · cases r1; cases r2; exact ⟨_, _, rfl, rfl, PostE.now h rl .bl⟩
          · exact h.elim
  | ge => unfold cmpD at h; simp only at h; split at h; · cases r1; cases r2; exact ⟨_, _, rfl, rfl, PostE.now h rl .bl⟩
          · exact h.elim
  | is =>
    unfold cmpD at h
    simp only at h
    split at h
    · cases r2
      split at h
      · exact h.elim
      · cases r1; exact .inl ⟨rfl, PostE.now h rl .bl⟩
      · rename_i h1 h2
        refine .inl ⟨rfl, ?_⟩
        rw [isc (σ := σ) r1 (fun z => h1 z)]
        have e : isNon d1 = false := by cases d1 <;> first | rfl | exact absurd rfl h2
        rw [e]
        exact PostE.now h rl .bl
    · cases r2
      split at h
      · cases r1; exact .inr (.inl ⟨_, _, rfl, rfl, PostE.now h rl .bl⟩)
      · cases r1; exact .inr (.inr ⟨_, rfl, rfl, PostE.now h rl .bl⟩)
      · exact h.elim
    · exact h.elim
  | isn =>
    unfold cmpD at h
    simp only at h
    split at h
    · cases r2
      split at h
      · exact h.elim
      · cases r1; exact .inl ⟨rfl, PostE.now h rl .bl⟩
      · rename_i h1 h2
        refine .inl ⟨rfl, ?_⟩
        rw [isc (σ := σ) r1 (fun z => h1 z)]
        have e : isNon d1 = false := by cases d1 <;> first | rfl | exact absurd rfl h2
        rw [e]
        exact PostE.now h rl .bl
    · cases r2
      split at h
      · cases r1; exact .inr (.inl ⟨_, _, rfl, rfl, PostE.now h rl .bl⟩)
      · cases r1; exact .inr (.inr ⟨_, rfl, rfl, PostE.now h rl .bl⟩)
      · exact h.elim
    · exact h.elim
  | inn =>
    unfold cmpD at h
    simp only at h
    split at h
    · rename_i k hk
      unfold signIn at hk
      split at hk
      · rename_i z
        split at hk
        · rename_i cc
          split at hk
          · rename_i c' hc
            cases hk
            cases r1; cases r2
            exact .inl ⟨c', z, by rw [sign_one hc], rfl, PostE.now h rl .bl⟩
          · cases hk
        · cases hk
      · cases hk
    · split at h
      · rename_i ds hds
        split at h
        · rename_i hf
          obtain ⟨a, xs, rfl, h1, h2⟩ := itemsD_sq rl r2 hds
          refine .inr (.inl ⟨a, xs, rfl, h1, flatV_of r1 hf.1, flats_of h2 hf.2, ?_⟩)
          rw [inV_of r1 hf.1 h2 hf.2]
          exact PostE.now h rl .bl
        · split at h
          · rename_i k hk
            obtain ⟨p, ps, h1, h2, h3, h4, rfl⟩ := inc hk
            exact .inr (.inr ⟨p, ps, h1, h2, h3, h4, PostE.now h rl .bl⟩)
          · exact h.elim
      · exact h.elim
  | nin =>
    unfold cmpD at h
    simp only at h
    split at h
    · rename_i k hk
      unfold signIn at hk
      split at hk
      · rename_i z
        split at hk
        · rename_i cc
          split at hk
          · rename_i c' hc
            cases hk
            cases r1; cases r2
            exact .inl ⟨c', z, by rw [sign_one hc], rfl, PostE.now h rl .bl⟩
          · cases hk
        · cases hk
      · cases hk
    · split at h
      · rename_i ds hds
        split at h
        · rename_i hf
          obtain ⟨a, xs, rfl, h1, h2⟩ := itemsD_sq rl r2 hds
          refine .inr (.inl ⟨a, xs, rfl, h1, flatV_of r1 hf.1, flats_of h2 hf.2, ?_⟩)
          rw [inV_of r1 hf.1 h2 hf.2]
          exact PostE.now h rl .bl
        · split at h
          · rename_i k hk
            obtain ⟨p, ps, h1, h2, h3, h4, rfl⟩ := inc hk
            exact .inr (.inr ⟨p, ps, h1, h2, h3, h4, PostE.now h rl .bl⟩)
          · exact h.elim
      · exact h.elim
/-- a comparison is a truth value -/
theorem cmpD_bl {o : CO} {x y : D} {S : Sto} : (∃ k, cmpD o x y S = .ok (.bl k) S) ∨ cmpD o x y S = .no := by
  unfold cmpD
  repeat (first | exact .inr rfl | exact .inl ⟨_, rfl⟩ | split)
theorem q_cmp {o : CmpOp} {ta tb : Sl → Sto → R D} {pos : Pos} (hK : kn.K = X.K) (hu : X.A.units + 66 < cLine) (hm : behindInMarks o b = false)
    (ha : PE X a (liftE kn W ta)) (hb : PE X b (liftE kn W tb)) : PE X (.Compare a [o] [b] pos) (liftE kn W fun σ S => (ta σ S).bind fun x S1 => (tb σ S1).bind fun y S2 => cmpD (coOp o) x y S2) :=
  q_bin ha hb (pe_cmpR (op_cmp hu o) ha hb hm) fun σ ρ H S d1 d2 v1 v2 Q rl r1 r2 h => by rw [← hK]; exact cmp_r rl r1 r2 h
/-- a test of a truth value -/
theorem PT_bl {v : Sl → Sto → R D} (ht : PT X e (fun σ H Q => liftE kn W v σ H fun x H' => ∃ k, x = .bl k ∧ Q k H')) (hv : ∀ σ S d S', v σ S = .ok d S' → ∃ k, d = .bl k) : PT X e (liftT kn W fun σ S => (v σ S).bind truD) := by
  refine PT.imp ht fun σ H Q ⟨ρ, σd, S, rl, re, h⟩ => ⟨ρ, σd, S, rl, re, ?_⟩
  try dsimp only at h
  cases e1 : v σd S with
  | no => rw [e1] at h; exact h
  | ok d S' =>
    rw [e1] at h
    obtain ⟨k, rfl⟩ := hv _ _ _ _ e1
    intro w H' ρ' g rl' r
    cases r
    exact ⟨k, rfl, h H' ρ' g rl'⟩
  | err x fs S' => rw [e1] at h; exact h
theorem bind_bl {r : R D} {f : D → Sto → R D} (h : ∀ x S d S', f x S = .ok d S' → ∃ k, d = .bl k) : ∀ d S', r.bind f = .ok d S' → ∃ k, d = .bl k := by
  intro d S' e
  cases r with
  | no => cases e
  | ok x S => exact h x S d S' e
  | err x fs S => cases e
theorem cmpD_isbl {o : CO} {x y : D} {S : Sto} : ∀ d S', cmpD o x y S = .ok d S' → ∃ k, d = .bl k := by
  intro d S' e
  rcases cmpD_bl (o := o) (x := x) (y := y) (S := S) with ⟨k, h⟩ | h
  · rw [h] at e; cases e; exact ⟨k, rfl⟩
  · rw [h] at e; cases e
theorem Q3.cmp {o : CmpOp} {ta tb : Ev3} {pos : Pos} (hK : kn.K = X.K) (hu : X.A.units + 66 < cLine) (hm : behindInMarks o b = false) (ha : Q3 X kn W a ta) (hb : Q3 X kn W b tb) :
    Q3 X kn W (.Compare a [o] [b] pos) (.of fun σ S => (ta.v σ S).bind fun x S1 => (tb.v σ S1).bind fun y S2 => cmpD (coOp o) x y S2) := by
  have hv : PE X (.Compare a [o] [b] pos) (liftE kn W fun σ S => (ta.v σ S).bind fun x S1 => (tb.v σ S1).bind fun y S2 => cmpD (coOp o) x y S2) := q_cmp hK hu hm ha.hv hb.hv
  refine ⟨hv, PT_bl (PT.imp (pt_cmpR (op_cmp hu o) ha.hv hb.hv hm) fun σ H Q ⟨ρ, σd, S, rl, re, h⟩ => ?_) (fun σ S => bind_bl fun x S1 => bind_bl fun y S2 => cmpD_isbl), PL_of hv⟩
  refine ⟨ρ, σd, S, rl, re, (PostE.bindE h).mono fun v1 H1 ⟨ρ1, d1, S1, g1, rl1, r1, h1⟩ => ?_⟩
  refine ⟨ρ1, σd, S1, rl1, re.gr g1, (PostE.bindE h1).mono fun v2 H2 ⟨ρ2, d2, S2, g2, rl2, r2, h2⟩ => ?_⟩
  rw [← hK]
  exact cmp_r rl2 (r1.gr g2) r2 h2
theorem Q3.chain {o p : CmpOp} {ta tb tc : Ev3} {pos : Pos} (hK : kn.K = X.K) (hu : X.A.units + 66 < cLine) (hm : lastMarks [o, p] [b, c] = false) (ha : Q3 X kn W a ta) (hb : Q3 X kn W b tb) (hc : Q3 X kn W c tc) :
    Q3 X kn W (.Compare a [o, p] [b, c] pos) (.of fun σ S => (ta.v σ S).bind fun x S1 => (tb.v σ S1).bind fun y S2 => (cmpD (coOp o) x y S2).bind fun k S3 => match k with
      | .bl true => (tc.v σ S3).bind fun z S4 => cmpD (coOp p) y z S4
      | .bl false => .ok (.bl false) S3
      | _ => .no) := by
  have main : ∀ {σ : L2.St} {H : Hp} {Q : VK}, liftE kn W (fun σ S => (ta.v σ S).bind fun x S1 => (tb.v σ S1).bind fun y S2 => (cmpD (coOp o) x y S2).bind fun k S3 => match k with
      | .bl true => (tc.v σ S3).bind fun z S4 => cmpD (coOp p) y z S4
      | .bl false => .ok (.bl false) S3
      | _ => .no) σ H Q → tChain (rCmp X.K (coOp o)) (rCmp X.K (coOp p)) (liftE kn W ta.v) (liftE kn W tb.v) (liftE kn W tc.v) σ H Q := fun {σ H Q} ⟨ρ, σd, S, rl, re, h⟩ => by
    refine ⟨ρ, σd, S, rl, re, (PostE.bindE h).mono fun v1 H1 ⟨ρ1, d1, S1, g1, rl1, r1, h1⟩ => ?_⟩
    refine ⟨ρ1, σd, S1, rl1, re.gr g1, (PostE.bindE h1).mono fun v2 H2 ⟨ρ2, d2, S2, g2, rl2, r2, h2⟩ => ?_⟩
    rw [← hK]
    refine cmp_r rl2 (r1.gr g2) r2 ((PostE.bindE h2).mono fun v3 H3 ⟨ρ3, d3, S3, g3, rl3, r3, h3⟩ => ?_)
    split at h3
    · cases r3
      refine ⟨true, rfl, ?_⟩
      rw [if_pos rfl]
      refine ⟨ρ3, σd, S3, rl3, ((re.gr g1).gr g2).gr g3, (PostE.bindE h3).mono fun v4 H4 ⟨ρ4, d4, S4, g4, rl4, r4, h4⟩ => ?_⟩
      exact cmp_r rl4 ((r2.gr g3).gr g4) r4 h4
    · cases r3
      refine ⟨false, rfl, ?_⟩
      rw [if_neg Bool.false_ne_true]
      exact PostE.now h3 rl3 .bl
    · exact h3.elim
  have hv : PE X (.Compare a [o, p] [b, c] pos) _ := PE.imp (pe_chain (op_cmp hu o) (op_cmp hu p) ha.hv hb.hv hc.hv hm) fun σ H Q h => main h
  refine ⟨hv, PT_bl (PT.imp (pt_chain (op_cmp hu o) (op_cmp hu p) ha.hv hb.hv hc.hv hm) fun σ H Q h => main h) (fun σ S => bind_bl fun x S1 => bind_bl fun y S2 => bind_bl fun k S3 d S' e => ?_), PL_of hv⟩
  split at e
  · exact bind_bl (fun z S4 => cmpD_isbl) d S' e
  · cases e; exact ⟨_, rfl⟩
  · cases e

/-! ### and, or, not, if -/
theorem Q3.nt {ta : Ev3} {pos : Pos} (ha : Q3 X kn W a ta) : Q3 X kn W (.UnaryOp .Not a pos) ⟨fun σ S => (ta.v σ S).bind fun x S1 => (match x with
      | .bl b => .ok (.bl (!b)) S1
      | _ => .no), fun σ S => (ta.t σ S).bind fun k S1 => .ok (!k) S1, fun _ _ => .no⟩ := by
  refine ⟨PE.imp (pe_not ha.hv) fun σ H Q ⟨ρ, σd, S, rl, re, h⟩ => ?_, PT.imp (pt_not ha.ht) fun σ H Q ⟨ρ, σd, S, rl, re, h⟩ => ?_, ⟨fun pins s σ H Q I ⟨_, _, _, _, _, h⟩ => h.elim⟩⟩
  · refine ⟨ρ, σd, S, rl, re, (PostE.bindE h).mono fun v1 H1 ⟨ρ1, d1, S1, g1, rl1, r1, h1⟩ => ?_⟩
    split at h1
    · cases r1; exact ⟨_, rfl, PostE.now h1 rl1 .bl⟩
    · exact h1.elim
  · exact ⟨ρ, σd, S, rl, re, (PostT.bindT h).mono fun k H1 ⟨ρ1, S1, g1, rl1, h1⟩ => h1 H1 ρ1 .refl rl1⟩
theorem Q3.ite {t : Expr} {tt ta tb : Ev3} {pos : Pos} (ht : Q3 X kn W t tt) (ha : Q3 X kn W a ta) (hb : Q3 X kn W b tb) : Q3 X kn W (.IfExp t a b pos) ⟨fun σ S => (tt.t σ S).bind fun k S1 => if k = true then ta.v σ S1 else tb.v σ S1,
      fun σ S => (tt.t σ S).bind fun k S1 => if k = true then ta.t σ S1 else tb.t σ S1,
      fun σ S => ((tt.t σ S).bind fun k S1 => if k = true then ta.v σ S1 else tb.v σ S1).bind itemsR⟩ := by
  have hv : PE X (.IfExp t a b pos) (liftE kn W fun σ S => (tt.t σ S).bind fun k S1 => if k = true then ta.v σ S1 else tb.v σ S1) := PE.imp (pe_ifExp ht.ht ha.hv hb.hv) fun σ H Q ⟨ρ, σd, S, rl, re, h⟩ => by
    refine ⟨ρ, σd, S, rl, re, (PostT.bindE h).mono fun k H1 ⟨ρ1, S1, g1, rl1, h1⟩ => ?_⟩
    cases k with
    | true => exact ⟨ρ1, σd, S1, rl1, re.gr g1, h1⟩
    | false => exact ⟨ρ1, σd, S1, rl1, re.gr g1, h1⟩
  refine ⟨hv, ⟨fun pins s σ H Q I ⟨ρ, σd, S, rl, re, h⟩ => ?_⟩, PL_of hv⟩
  refine isTrue_IfExp (thn (ht.ht.run pins s σ H _ I ⟨ρ, σd, S, rl, re, PostT.bindT h⟩) fun k s1 ⟨H1, I1, ρ1, S1, g1, rl1, h1⟩ => ?_)
  cases k with
  | true => exact ha.ht.run pins s1 σ H1 Q I1 ⟨ρ1, σd, S1, rl1, re.gr g1, h1⟩
  | false => exact hb.ht.run pins s1 σ H1 Q I1 ⟨ρ1, σd, S1, rl1, re.gr g1, h1⟩
/-- and, or: folded from the right; one operand: itself -/
structure QB (X : Cx) (kn : Kn) (W : WX) (e : Expr) (t : Ev3) : Prop where
  hv : PE X e (liftE kn W t.v)
  ht : PW X e (liftT kn W t.t)
def and3 (ta tb : Ev3) : Ev3 := ⟨fun σ S => (ta.v σ S).bind fun x S1 => (match x with
      | .bl true => tb.v σ S1
      | .bl false => .ok (.bl false) S1
      | _ => .no), fun σ S => (ta.t σ S).bind fun k S1 => if k = true then tb.t σ S1 else .ok false S1, fun _ _ => .no⟩
def or3 (ta tb : Ev3) : Ev3 := ⟨fun σ S => (ta.v σ S).bind fun x S1 => (match x with
      | .bl true => .ok (.bl true) S1
      | .bl false => tb.v σ S1
      | _ => .no), fun σ S => (ta.t σ S).bind fun k S1 => if k = true then .ok true S1 else tb.t σ S1, fun _ _ => .no⟩
theorem QB.and1 {ta : Ev3} {pos : Pos} (ha : Q3 X kn W a ta) : QB X kn W (.BoolOp .And [a] pos) ta := ⟨pe_one ha.hv, pw_and1 ha.ht⟩
theorem QB.or1 {ta : Ev3} {pos : Pos} (ha : Q3 X kn W a ta) : QB X kn W (.BoolOp .Or [a] pos) ta := ⟨pe_one ha.hv, pw_or1 ha.ht⟩
theorem QB.and {ta tb : Ev3} {pos : Pos} {r : List Expr} (ha : Q3 X kn W a ta) (hb : QB X kn W (.BoolOp .And (b :: r) pos) tb) : QB X kn W (.BoolOp .And (a :: b :: r) pos) (and3 ta tb) := by
  refine ⟨PE.imp (pe_and ha.hv hb.hv) fun σ H Q ⟨ρ, σd, S, rl, re, h⟩ => ?_, PW.imp (pw_and ha.ht hb.ht) fun σ H Q ⟨ρ, σd, S, rl, re, h⟩ => ?_⟩
  · refine ⟨ρ, σd, S, rl, re, (PostE.bindE h).mono fun v1 H1 ⟨ρ1, d1, S1, g1, rl1, r1, h1⟩ => ?_⟩
    split at h1
    · cases r1; refine ⟨true, rfl, ?_⟩; rw [if_pos rfl]; exact ⟨ρ1, σd, S1, rl1, re.gr g1, h1⟩
    · cases r1; refine ⟨false, rfl, ?_⟩; rw [if_neg Bool.false_ne_true]; exact PostE.now h1 rl1 .bl
    · exact h1.elim
  · refine ⟨ρ, σd, S, rl, re, (PostT.bindT h).mono fun k H1 ⟨ρ1, S1, g1, rl1, h1⟩ => ?_⟩
    cases k with
    | true => exact ⟨ρ1, σd, S1, rl1, re.gr g1, h1⟩
    | false => exact h1 H1 ρ1 .refl rl1
theorem QB.or {ta tb : Ev3} {pos : Pos} {r : List Expr} (ha : Q3 X kn W a ta) (hb : QB X kn W (.BoolOp .Or (b :: r) pos) tb) : QB X kn W (.BoolOp .Or (a :: b :: r) pos) (or3 ta tb) := by
  refine ⟨PE.imp (pe_or ha.hv hb.hv) fun σ H Q ⟨ρ, σd, S, rl, re, h⟩ => ?_, PW.imp (pw_or ha.ht hb.ht) fun σ H Q ⟨ρ, σd, S, rl, re, h⟩ => ?_⟩
  · refine ⟨ρ, σd, S, rl, re, (PostE.bindE h).mono fun v1 H1 ⟨ρ1, d1, S1, g1, rl1, r1, h1⟩ => ?_⟩
    split at h1
    · cases r1; refine ⟨true, rfl, ?_⟩; rw [if_pos rfl]; exact PostE.now h1 rl1 .bl
    · cases r1; refine ⟨false, rfl, ?_⟩; rw [if_neg Bool.false_ne_true]; exact ⟨ρ1, σd, S1, rl1, re.gr g1, h1⟩
    · exact h1.elim
  · refine ⟨ρ, σd, S, rl, re, (PostT.bindT h).mono fun k H1 ⟨ρ1, S1, g1, rl1, h1⟩ => ?_⟩
    cases k with
    | true => exact h1 H1 ρ1 .refl rl1
    | false => exact ⟨ρ1, σd, S1, rl1, re.gr g1, h1⟩
theorem QB.q3 {t : Ev3} (h : QB X kn W e t) : Q3 X kn W e ⟨t.v, t.t, fun _ _ => .no⟩ := ⟨h.hv, h.ht.pt, ⟨fun pins s σ H Q I ⟨_, _, _, _, _, h⟩ => h.elim⟩⟩

/-! ### arguments, displays -/
theorem starEach_plain {r : List Expr} {env : Env} (h : ∀ x p, a ≠ .Starred x p) : starEach (a :: r) env = (false, eval a env) :: starEach r env := by
  cases a <;> first | rfl | exact absurd rfl (h _ _)
theorem QA.nil : QA X kn W [] fun _ S => .ok [] S := PA.imp pa_nil fun σ H Q ⟨ρ, σd, S, rl, re, h⟩ => h [] H ρ .refl rl .nil
theorem QA.cons {ta : Sl → Sto → R D} {r : List Expr} {tr : Sl → Sto → R (List D)} (hn : ∀ x p, a ≠ .Starred x p) (ha : PE X a (liftE kn W ta)) (hr : QA X kn W r tr) :
    QA X kn W (a :: r) fun σ S => (ta σ S).bind fun d S1 => (tr σ S1).bind fun ds S2 => .ok (d :: ds) S2 := by
  refine PA.imp (pa_cons ha hr (starEach_plain hn)) fun σ H Q ⟨ρ, σd, S, rl, re, h⟩ => ⟨ρ, σd, S, rl, re, (PostE.bindA h).mono fun v1 H1 ⟨ρ1, d1, S1, g1, rl1, r1, h1⟩ => ?_⟩
  refine ⟨ρ1, σd, S1, rl1, re.gr g1, (PostA.bindA h1).mono fun v2 H2 ⟨ρ2, d2, S2, g2, rl2, r2, h2⟩ => ?_⟩
  exact h2 (v1 :: v2) H2 ρ2 .refl rl2 (.cons (r1.gr g2) r2)
/-- how many there are -/
def Long (t : Sl → Sto → R (List D)) (n : Nat) : Prop := ∀ σ S ds S', t σ S = .ok ds S' → ds.length = n
theorem Q3.tup {es : List Expr} {k : Nat} {t : Sl → Sto → R (List D)} {pos : Pos} {n : Nat} (hK : kn.K = X.K) (h : QA X kn W es t) (hl : Long t n) (hn : n ≤ big) : Q3 X kn W (.Tuple es k pos) (.of fun σ S => (t σ S).bind fun ds S1 => .ok (.tup ds) S1) := by
  refine Q3.of hK (PE.imp (pe_tup h) fun σ H Q ⟨ρ, σd, S, rl, re, h⟩ => ⟨ρ, σd, S, rl, re, ?_⟩) fun _ => rfl
  try dsimp only at h
  cases e : t σd S with
  | no => rw [e] at h; exact h
  | err x fs S' => rw [e] at h; exact h
  | ok ds S' =>
    rw [e] at h
    intro xs H1 ρ1 g1 rl1 r1
    exact ⟨by rw [← r1.length, hl _ _ _ _ e]; exact Nat.le_trans hn big_le, fun p hp => PostE.tup (PostE.gr h g1) rl1 r1 hp⟩
theorem QN.lst {es : List Expr} {t : Sl → Sto → R (List D)} {pos : Pos} {n : Nat} (h : QA X kn W es t) (hl : Long t n) (hn : n ≤ big) : QN X kn W (.List es pos) t := by
  refine PE.imp (pe_lst h) fun σ H Q ⟨ρ, σd, S, rl, re, h⟩ => ⟨ρ, σd, S, rl, re, ?_⟩
  try dsimp only at h
  cases e : t σd S with
  | no => rw [e] at h; exact h
  | err x fs S' => rw [e] at h; exact h
  | ok ds S' =>
    rw [e] at h
    intro xs H1 ρ1 g1 rl1 r1
    refine ⟨by rw [← r1.length, hl _ _ _ _ e]; exact Nat.le_trans hn big_le, fun p hp => ?_⟩
    have np : p ∉ ρ1 := rl1.fresh hp
    refine h p xs _ ρ1 (g1.trans (Gr.lay hp)) (rl1.lay hp) upd_same np ?_ (r1.gr (Gr.lay hp))
    cases e0 : H p with
    | none => rfl
    | some o =>
      have hnp : p ∉ ρ := fun z => np (g1.pre.subset z)
      rw [g1.oth p o e0 hnp] at hp; cases hp
/-- a list that nobody names, as a value: it is named -/
theorem nameN {r : R (List D)} {σ : L2.St} {ρ : List Addr} {H : Hp} {Q : VK} (h : PostE kn W σ ρ H (nameL r) Q) : PostN kn W σ ρ H r Q := by
  cases r with
  | no => exact h
  | err x fs S' => exact h
  | ok ds S' =>
    intro a xs H' ρ' g rl' ha np hn r
    refine h (.ref a) H' (ρ' ++ [a]) ⟨g.pre.trans ⟨[a], rfl⟩, fun b hb nb => ?_, g.fix, g.oth⟩ ⟨by simp [rl'.len], ?_, fun i b o e1 e2 => ?_⟩ (.ref ?_)
    · rcases List.mem_append.mp hb with hb | hb
      · exact g.new b hb nb
      · simp at hb; subst hb; exact hn
    · rw [List.nodup_append]
      exact ⟨rl'.nd, by simp, fun x hx y hy => by simp at hy; subst hy; exact fun z => np (z ▸ hx)⟩
    · by_cases hi : i < ρ'.length
      · rw [List.getElem?_append_left hi] at e1
        rw [List.getElem?_append_left (by rw [← rl'.len]; exact hi)] at e2
        exact (rl'.obj i b o e1 e2).mono ⟨[a], rfl⟩ (fun _ _ e _ => e) fun u e => e
      · have hl : i = ρ'.length := by
          have := (List.getElem?_eq_some_iff.mp e1).1
          simp at this; omega
        subst hl
        rw [List.getElem?_append_right (Nat.le_refl _)] at e1
        rw [rl'.len, List.getElem?_append_right (Nat.le_refl _)] at e2
        simp at e1 e2
        subst e1 e2
        exact ⟨xs, ha, r.mono ⟨[_], rfl⟩ (fun _ _ e _ => e)⟩
    · rw [← rl'.len, List.getElem?_append_right (Nat.le_refl _)]
      simp
theorem QN.v {t : Sl → Sto → R (List D)} (h : QN X kn W e t) : PE X e (liftE kn W fun σ S => nameL (t σ S)) :=
  PE.imp h fun σ H Q ⟨ρ, σd, S, rl, re, h⟩ => ⟨ρ, σd, S, rl, re, nameN h⟩
theorem QN.l {t : Sl → Sto → R (List D)} (h : QN X kn W e t) : PE X e (liftL kn W t) := by
  refine PE.imp h fun σ H Q ⟨ρ, σd, S, rl, re, h⟩ => ⟨ρ, σd, S, rl, re, ?_⟩
  try dsimp only at h
  cases e : t σd S with
  | no => rw [e] at h; exact h
  | err x fs S' => rw [e] at h; exact h
  | ok ds S' =>
    rw [e] at h
    exact fun a xs H' ρ' g rl' ha np hn r => h a xs H' ρ' g rl' (.inl (SqL.of ha)) r
theorem QN.q3 {t : Sl → Sto → R (List D)} (hK : kn.K = X.K) (h : QN X kn W e t) (he : PlainT X e) : Q3 X kn W e (.ofL t) := ⟨h.v, PT_of hK h.v he, h.l⟩
end
end Kq
set_option Elab.async false
set_option linter.all false
set_option maxRecDepth 100000
set_option maxHeartbeats 2000000
set_option autoImplicit false
/-! # The Q layer, part F: items, slices, built-ins, calls -/
namespace Kq
open PySem PySem.Spec PyProof.Rows L2

section
variable {X : Cx} {kn : Kn} {W : WX} {e a b c : Expr}
/-! ### items -/
theorem Reps.atI {ρ : List Addr} {H : Hp} {ds : List D} {vs : List V} {k : Int} {d : D} (r : Reps kn ρ H ds vs) (h : L2.atI ds k = some d) : ∃ v, L2.atI vs k = some v ∧ Rep kn ρ H d v := by
  unfold L2.atI at h ⊢
  rw [← r.length]
  cases e : ixN ds.length k with
  | none => rw [e] at h; simp at h
  | some j =>
    rw [e] at h
    simp only [Option.bind_some] at h ⊢
    exact r.get h
theorem plainIx {b : Expr} (h : ∀ l u s p, b ≠ .Slice l u s p) : PlainIx b := by
  cases b <;> first | exact fun _ _ => rfl | exact absurd rfl (h _ _ _ _)
theorem ix_any : IxR X (rIx X.K) := by
  intro value slice pins s σ H x y v u Q I rx ry h hs
  rcases h with h | h | h
  · exact ix_list value slice pins s σ H x y v u Q I rx ry h hs
  · exact ix_tup value slice pins s σ H x y v u Q I rx ry h hs
  · exact ix_str value slice pins s σ H x y v u Q I rx ry h hs
theorem q_idx {ta tb : Sl → Sto → R D} {pos : Pos} (hK : kn.K = X.K) (ha : PE X a (liftE kn W ta)) (hb : PE X b (liftE kn W tb)) (hs : ∀ l u s p, b ≠ .Slice l u s p) :
    PE X (.Subscript a b pos) (liftE kn W fun σ S => (ta σ S).bind fun x S1 => (tb σ S1).bind fun y S2 => idxD x y S2) := by
  refine q_bin ha hb (pe_ix ix_any ha hb (plainIx hs)) fun σ ρ H S d1 d2 v1 v2 Q rl r1 r2 h => ?_
  rw [← hK]
  unfold idxD at h
  split at h
  · rename_i k
    cases r2
    split at h
    · rename_i ds
      split at h
      · rename_i d hd
        obtain ⟨p, xs, rfl, h1, h2⟩ := r1.tup_inv
        obtain ⟨v, hv, rv⟩ := h2.atI hd
        exact .inr (.inl ⟨p, xs, k, v, rfl, rfl, h1, hv, PostE.now h rl rv⟩)
      · exact h.elim
    · rename_i n
      split at h
      · rename_i mu ds hn
        split at h
        · rename_i d hd
          obtain ⟨p, xs, rfl, _, h1, h2, _⟩ := rl.isLst r1 hn
          obtain ⟨v, hv, rv⟩ := h2.atI hd
          exact .inl ⟨p, xs, k, v, rfl, rfl, h1, hv, PostE.now h rl rv⟩
        · exact h.elim
      · exact h.elim
    · rename_i x
      cases r1
      split at h
      · rename_i hz
        split at h
        · rename_i cc hc
          exact .inr (.inr ⟨x, k, cc, rfl, rfl, Nat.le_trans hz big_le, hc, PostE.now h rl .str⟩)
        · exact h.elim
      · exact h.elim
    · exact h.elim
  · exact h.elim

/-! ### slices -/
/-- a part of a slice: left out, or an expression -/
def QPart (X : Cx) (kn : Kn) (W : WX) (o : Option Expr) (t : Sl → Sto → R (List D)) : Prop := match o with
  | none => ∀ σ S, t σ S = .ok [] S
  | some e => ∃ t', PE X e (liftE kn W t') ∧ ∀ σ S, t σ S = (t' σ S).bind fun d S1 => .ok [d] S1
def PostP (kn : Kn) (W : WX) (σ : L2.St) (ρ : List Addr) (H : Hp) (r : R (Option Int)) (Q : Option Int → Hp → Prop) : Prop := match r with
  | .no => False
  | .ok o S' => ∀ H' ρ', Gr ρ ρ' H H' → Rel kn ρ' H' S' → Q o H'
  | .err x fs S' => ∀ cv dx H' ρ', Gr ρ ρ' H H' → Rel kn ρ' H' S' → XcR kn ρ' H' x fs cv dx → W cv dx σ H'
def liftP (kn : Kn) (W : WX) (t : Sl → Sto → R (Option Int)) : TO := fun σ H Q => ∃ ρ σd S, Rel kn ρ H S ∧ RepEnv kn ρ H σd σ ∧ PostP kn W σ ρ H (t σd S) Q
theorem PostP.bindE {σ : L2.St} {ρ : List Addr} {H : Hp} {r : R (Option Int)} {k : Option Int → Sto → R D} {Q : VK} (h : PostE kn W σ ρ H (r.bind k) Q) :
    PostP kn W σ ρ H r (fun o H1 => ∃ ρ1 S1, Gr ρ ρ1 H H1 ∧ Rel kn ρ1 H1 S1 ∧ PostE kn W σ ρ1 H1 (k o S1) Q) := by
  cases r with
  | no => exact h
  | ok d S => exact fun H' ρ' g rl => ⟨ρ', S, g, rl, h.gr g⟩
  | err x fs S => exact h
theorem PostP.mono {σ : L2.St} {ρ : List Addr} {H : Hp} {t : R (Option Int)} {Q Q' : Option Int → Hp → Prop} (h : PostP kn W σ ρ H t Q) (i : ∀ v H', Q v H' → Q' v H') : PostP kn W σ ρ H t Q' := by
  cases t with
  | no => exact h
  | ok d S => exact fun H' ρ' g rl => i _ _ (h H' ρ' g rl)
  | err x fs S => exact h
theorem QPart.po {o : Option Expr} {t : Sl → Sto → R (List D)} (h : QPart X kn W o t) : PO X o (liftP kn W fun σ S => (t σ S).bind partR) := by
  cases o with
  | none =>
    refine ⟨fun pins s σ H Q I ⟨ρ, σd, S, rl, re, q⟩ => po_none.run pins s σ H Q I ?_⟩
    dsimp only at q
    rw [show t σd S = _ from h σd S] at q
    exact q H ρ .refl rl
  | some e =>
    obtain ⟨t', ht, he⟩ := h
    refine ⟨fun pins s σ H Q I ⟨ρ, σd, S, rl, re, q⟩ => (po_some ht).run pins s σ H Q I ⟨ρ, σd, S, rl, re, ?_⟩⟩
    dsimp only at q
    rw [he σd S] at q
    cases e1 : t' σd S with
    | no => rw [e1] at q; exact q
    | err x fs S' => rw [e1] at q; exact q
    | ok d S' =>
      rw [e1] at q
      intro v H' ρ' g rl' r
      cases d with
      | int i => cases r; exact ⟨i, rfl, q H' ρ' g rl'⟩
      | _ => exact q.elim
theorem Reps.cut {ρ : List Addr} {H : Hp} {ds : List D} {vs : List V} (r : Reps kn ρ H ds vs) (lo hi : Option Int) : Reps kn ρ H (cutD ds lo hi) (cutV vs lo hi) := by
  unfold cutD cutV
  rw [← r.length]
  exact (r.drop _).take _
theorem cutD_whole {α : Type} {ds : List α} {lo hi : Option Int} (h1 : HT.sIx ds.length 0 lo = 0) (h2 : HT.sIx ds.length ds.length hi = ds.length) : cutD ds lo hi = ds := by
  unfold cutD
  rw [h1, h2]
  simp
theorem cutS_eq {x : Str} {l u : Option Int} : cutS x l u = ⟨(cutD x.cps.toList l u).toArray⟩ := by
  unfold cutS cutD Str.length
  rw [Array.length_toList]
theorem q_slice {ta : Sl → Sto → R D} {lo hi : Option Expr} {tl th : Sl → Sto → R (List D)} {p2 pos : Pos} (hK : kn.K = X.K) (ha : PE X a (liftE kn W ta)) (hl : QPart X kn W lo tl) (hh : QPart X kn W hi th) :
    PE X (.Subscript a (.Slice lo hi none p2) pos) (liftE kn W fun σ S => (ta σ S).bind fun x S1 => ((tl σ S1).bind partR).bind fun y S2 => ((th σ S2).bind partR).bind fun z S3 => slD x y z S3) := by
  have sl3 : SlR X (fun x lo hi H Q => rSlA X.K x lo hi H Q ∨ rSlL X.K x lo hi H Q ∨ rSlS x lo hi H Q) := SlR.or sl_tupA (SlR.or sl_list sl_str)
  refine PE.imp (pe_slice sl3 ha hl.po hh.po) fun σ H Q ⟨ρ, σd, S, rl, re, h⟩ => ⟨ρ, σd, S, rl, re, (PostE.bindE h).mono fun v1 H1 ⟨ρ1, d1, S1, g1, rl1, r1, h1⟩ => ?_⟩
  refine ⟨ρ1, σd, S1, rl1, re.gr g1, (PostP.bindE h1).mono fun l H2 ⟨ρ2, S2, g2, rl2, h2⟩ => ?_⟩
  refine ⟨ρ2, σd, S2, rl2, (re.gr g1).gr g2, (PostP.bindE h2).mono fun u H3 ⟨ρ3, S3, g3, rl3, h3⟩ => ?_⟩
  have r := (r1.gr g2).gr g3
  rw [← hK]
  unfold slD at h3
  split at h3
  · rename_i ds
    obtain ⟨p, xs, rfl, q1, q2⟩ := r.tup_inv
    refine .inl ⟨p, xs, rfl, q1, fun e => ?_, fun _ p' hp => PostE.tup h3 rl3 (q2.cut l u) hp⟩
    rw [← q2.length] at e
    rw [cutD_whole e.1 e.2] at h3
    exact PostE.now h3 rl3 r
  · split at h3
    · rename_i n mu ds hn
      obtain ⟨p, xs, rfl, _, q1, q2, _⟩ := rl3.isLst r hn
      exact .inr (.inl ⟨p, xs, rfl, q1, fun p' hp => PostE.lst h3 rl3 (q2.cut l u) hp⟩)
    · exact h3.elim
  · cases r
    split at h3
    · rename_i hz
      exact .inr (.inr ⟨_, rfl, Nat.le_trans hz big_le, by
        rw [cutS_eq]
        exact PostE.now h3 rl3 .str⟩)
    · exact h3.elim
  · exact h3.elim

/-! ### built-ins by name -/
theorem star_none {es : List Expr} {env : Env} {pos : Pos} (h : ∀ e ∈ es, ∀ x p, e ≠ .Starred x p) : (backTo pos (starEach es env)).any (·.1) = false := by
  induction es with
  | nil => rfl
  | cons a r ih =>
    rw [starEach_plain (h a List.mem_cons_self)]
    have := ih fun e he => h e (List.mem_cons_of_mem _ he)
    unfold backTo at this ⊢
    rw [List.map_cons, List.any_cons, this]
    rfl
/-- a name of the interpreter's own -/
structure Blt (X : Cx) (x : Str) (u : Value) : Prop where
  gl : Gl X x
  mg : X.mg x = none
  bo : bootBuiltins x = some u
  hn : x ≠ "__name__"
  hd : (x == ("__debug__" : Str)) = false
theorem q_callr {r : List V → Hp → VK → Prop} {t : Sl → Sto → R (List D)} {k : List D → Sto → R D} (he : PE X e (tCB r (liftA kn W t)))
    (hr : ∀ σ ρ H S ds vs Q, Rel kn ρ H S → Reps kn ρ H ds vs → PostE kn W σ ρ H (k ds S) Q → r vs H Q) : PE X e (liftE kn W fun σ S => (t σ S).bind k) :=
  PE.imp he fun σ H Q ⟨ρ, σd, S, rl, re, h⟩ => ⟨ρ, σd, S, rl, re, (PostA.bindE h).mono fun vs H1 ⟨ρ1, ds, S1, g1, rl1, r1, h1⟩ => hr σ ρ1 H1 S1 ds vs Q rl1 r1 h1⟩
theorem Reps.one {ρ : List Addr} {H : Hp} {d : D} {vs : List V} (r : Reps kn ρ H [d] vs) : ∃ v, vs = [v] ∧ Rep kn ρ H d v := by
  cases r with | cons r t => cases t; exact ⟨_, rfl, r⟩
theorem Reps.two {ρ : List Addr} {H : Hp} {d e : D} {vs : List V} (r : Reps kn ρ H [d, e] vs) : ∃ v w, vs = [v, w] ∧ Rep kn ρ H d v ∧ Rep kn ρ H e w := by
  cases r with | cons r t => cases t with | cons q u => cases u; exact ⟨_, _, rfl, r, q⟩
/-- which value a built-in's name is -/
def Bi.val : Bi → Value
  | .len => .builtin "len"
  | .abs => .builtin "abs"
  | .int => .type "int"
  | .str => .type "str"
  | .tup => .type "tuple"
  | .lst => .type "list"
  | .gcd => .builtin "math.gcd"
  | .lcm => .builtin "math.lcm"
  | .max => .builtin "max"
  | .min => .builtin "min"
  | .all => .builtin "all"
  | .any => .builtin "any"
  | .sum => .builtin "sum"
  | .rng => .type "range"
  | .repr => .builtin "repr"
  | .bool => .type "bool"
def rLcm : List V → Hp → VK → Prop := fun vs H Q => ∃ a b : Int, vs = [.int a, .int b] ∧ a.natAbs.log2 < 6000 ∧ b.natAbs.log2 < 6000 ∧ Q (.int ((Nat.lcm a.natAbs b.natAbs : Nat) : Int)) H
theorem cr_lcm : CallR X (.builtin "math.lcm") rLcm := by
  intro pins s σ H vs us Q I r h
  obtain ⟨a, b, rfl, ha, hb, q⟩ := h
  obtain ⟨t, u, rfl⟩ := Vals.int2 r
  have e : Nat.lcm 1 a.natAbs = a.natAbs := Nat.lcm_one_left _
  have lt : ∀ {x : Nat}, x.log2 < 6000 → x < 2 ^ 6000 := fun {x} hx => by
    by_cases h0 : x = 0
    · rw [h0]; exact Nat.two_pow_pos _
    · exact (Nat.log2_lt h0).mp hx
  have m1 : (max 1 a.natAbs).log2 < 6000 := by
    rcases Nat.le_total 1 a.natAbs with h | h
    · rw [Nat.max_eq_right h]; exact ha
    · rw [Nat.max_eq_left h]; decide
  have m2 : (max a.natAbs b.natAbs).log2 < 6000 := by
    rcases Nat.le_total a.natAbs b.natAbs with h | h
    · rw [Nat.max_eq_right h]; exact hb
    · rw [Nat.max_eq_left h]; exact ha
  have sz : ((((Nat.lcm 1 a.natAbs).lcm b.natAbs : Nat) : Int)).natAbs.log2 < bitsLine := by
    rw [Int.natAbs_natCast, e]
    have hl : a.natAbs.lcm b.natAbs ≤ a.natAbs * b.natAbs := Nat.div_le_self _ _
    have h2 : a.natAbs * b.natAbs < 2 ^ 6000 * 2 ^ 6000 := Nat.mul_lt_mul'' (lt ha) (lt hb)
    rw [← Nat.pow_add] at h2
    have hB : 12000 ≤ bitsLine := by unfold bitsLine; decide
    by_cases h0 : a.natAbs.lcm b.natAbs = 0
    · rw [h0]
      have : (0 : Nat).log2 = 0 := by decide
      omega
    · have := (Nat.log2_lt h0).mpr (Nat.lt_of_le_of_lt hl h2)
      omega
  have g := PySem.W.mg_run_lcm a t b u (by omega) (by omega) sz
  rw [e] at g
  exact call_function_meets PySem.W.MGF.kind_lcm PySem.W.MGF.plain_lcm PySem.W.MGF.entry_lcm (PySem.W.MGF.args_lcm _ _) g.meets ⟨.int _, H, I.tok _, ⟨_, rfl⟩, q⟩
/-! ### ranges as values -/
theorem rgOk_ok {i j c : Int} (h : rgOk i j c = true) : 0 < c ∧ c < 1000000 ∧ -1000000 < i ∧ i < 1000000 ∧ -1000000 < j ∧ j < 1000000 := by
  unfold rgOk at h
  simp only [Bool.and_eq_true, decide_eq_true_eq] at h
  omega
theorem rgN_size {i j c : Int} (h : rgOk i j c = true) : Builtin.Range.rangeSize i j c = rgN i j c ∧ rgN i j c < 2000001 := by
  obtain ⟨h1, h2, h3, h4, h5, h6⟩ := rgOk_ok h
  unfold Builtin.Range.rangeSize rgN
  rw [if_pos (show c > 0 from h1)]
  by_cases hij : i < j
  · rw [if_pos hij]
    have h0 : 0 ≤ (j - i - 1) / c := Int.ediv_nonneg (by omega) (by omega)
    have h7 : (j - i - 1) / c ≤ j - i - 1 := Int.ediv_le_self _ (by omega)
    omega
  · rw [if_neg hij]
    decide
theorem small_of {i j c : Int} (h : rgOk i j c = true) : Builtin.Range.small i j c = true := by
  obtain ⟨h1, h2, h3, h4, h5, h6⟩ := rgOk_ok h
  obtain ⟨e, hn⟩ := rgN_size h
  unfold Builtin.Range.small
  rw [e]
  have hm : 0 ≤ (rgN i j c : Int) * c := Int.mul_nonneg (by omega) (by omega)
  have hm2 : (rgN i j c : Int) * c ≤ 2000001 * 1000000 := Int.mul_le_mul (by omega) (by omega) (by omega) (by omega)
  simp only [Builtin.Range.rangeFitsLong, Bool.and_eq_true, Bool.or_eq_true, decide_eq_true_eq, beq_iff_eq, show c > 0 from h1, if_true]
  omega
theorem rngO_at {P : Program} {w : World} {H : Hp} {h : Heap} {p : Addr} {i j c : Int} (hok : HOk P w H h) (he : H p = some (rngO p i j c)) : ∃ t u v, IsRange h p i j c t u v := by
  have x : ObjOk P w H h p (.ext fun h => ∃ t u v, IsRange h p i j c t u v) := hok p _ he
  exact x.1
def rLenR : List V → Hp → VK → Prop := fun vs H Q => ∃ (p : Addr) (i j c : Int), vs = [.ref p] ∧ H p = some (rngO p i j c) ∧ rgOk i j c = true ∧ Q (.int (rgN i j c)) H
theorem cr_lenR : CallR X (.builtin "len") rLenR := by
  intro pins s σ H vs us Q I r h
  obtain ⟨p, i, j, c, rfl, hp, ok, q⟩ := h
  rw [Vals.ref1 r]
  obtain ⟨t, u, v, hr⟩ := rngO_at I.hok hp
  obtain ⟨e, hn⟩ := rgN_size ok
  exact call_len_range hr e (by omega) ⟨.int _, H, I.tok _, ⟨_, rfl⟩, q⟩
def rRng3 : List V → Hp → VK → Prop := fun vs H Q => ∃ i j c : Int, vs = [.int i, .int j, .int c] ∧ rgOk i j c = true ∧ ∀ p, H p = none → Q (.ref p) (upd H p (rngO p i j c))
theorem cr_rng3 : CallR X (.type "range") rRng3 := by
  intro pins s σ H vs us Q I r h
  obtain ⟨i, j, c, rfl, ok, q⟩ := h
  obtain ⟨h1, h2, h3, h4, h5, h6⟩ := rgOk_ok ok
  cases r with
  | cons r rr =>
    cases rr with
    | cons r' rr =>
      cases rr with
      | cons r'' rr =>
        cases rr
        obtain ⟨t, rfl⟩ := r
        obtain ⟨t', rfl⟩ := r'
        obtain ⟨t'', rfl⟩ := r''
        refine call_range_3 (by omega) ⟨.ref s.heap.objs.size, upd H s.heap.objs.size (rngO s.heap.objs.size i j c), I.laid (t' := s.toks) (fun b o e => Heap.get?_push_of_some _ e) (Nat.le_refl _) ?_, rfl, q _ (I.hok.fresh (Nat.le_refl _))⟩ (.inl (PyProof.noPylong_small (by omega)))
        exact ⟨⟨t, t', t'', Heap.get?_push_size _ rfl⟩, ⟨_, Heap.get?_push_size _ rfl⟩, fun a b z k => by
          obtain ⟨t, u, v, q⟩ := z
          exact ⟨t, u, v, k _ q⟩⟩
theorem CallR.or {f : Value} {r r' : List V → Hp → VK → Prop} (h : CallR X f r) (h' : CallR X f r') : CallR X f fun vs H Q => r vs H Q ∨ r' vs H Q := by
  intro pins s σ H vs us Q I rv q
  rcases q with q | q
  · exact h pins s σ H vs us Q I rv q
  · exact h' pins s σ H vs us Q I rv q
def rBi (X : Cx) : Bi → List V → Hp → VK → Prop
  | .len => fun xs H Q => (∃ x n, xs = [x] ∧ LenV X.K x H n ∧ Q (.int n) H) ∨ rLenR xs H Q
  | .all => rAll X.K
  | .any => rAny X.K
  | .sum => rSum X.K
  | .rng => rRng3
  | .abs => fun xs H Q => ∃ i, xs = [.int i] ∧ Q (.int (if i < 0 then -i else i)) H
  | .int => fun xs H Q => (∃ i, xs = [.int i] ∧ Q (.int i) H) ∨ ∃ k, xs = [.bl k] ∧ Q (.int (if k then 1 else 0)) H
  | .gcd => rGcd
  | .lcm => rLcm
  | .max => fun xs H Q => ∃ i j, xs = [.int i, .int j] ∧ Q (.int (if j > i then j else i)) H
  | .min => fun xs H Q => ∃ i j, xs = [.int i, .int j] ∧ Q (.int (if j < i then j else i)) H
  | .str => fun xs H Q => ∃ i, xs = [.int i] ∧ i.natAbs.log2 < 1920 ∧ Q (.str (toString i)) H
  | _ => fun _ _ _ => False
def Bi.hot : Bi → Bool
  | .max | .min | .all | .any | .sum => false
  | _ => true
theorem hotN {c : Bool} (h : (c || false) = true) : c = true := by cases c <;> simp_all
theorem biR : ∀ b : Bi, (X.calm || b.hot) = true → CallR X b.val (rBi X b)
  | .len => fun _ => call_len.or cr_lenR
  | .abs => fun _ => call_abs
  | .int => fun _ => call_int1
  | .gcd => fun _ => cr_gcd
  | .lcm => fun _ => cr_lcm
  | .max => fun hc => call_max2 (hotN hc)
  | .min => fun hc => call_min2 (hotN hc)
  | .str => fun _ => call_str_int
  | .all => fun hc => cr_all (hotN hc)
  | .any => fun hc => cr_any (hotN hc)
  | .sum => fun hc => cr_sum (hotN hc)
  | .rng => fun _ => cr_rng3
  | .tup | .lst | .repr | .bool => fun _ _ _ _ _ _ _ _ _ _ h => h.elim
theorem Reps.allB {ρ : List Addr} {H : Hp} : ∀ {ds : List D} {vs : List V} {bs : List Bool}, Reps kn ρ H ds vs → allB ds = some bs → vs = bs.map V.bl
  | [], _, _, r, h => by cases r; simp [Kq.allB] at h; subst h; rfl
  | d :: ds, _, bs, r, h => by
    cases r with
    | cons q t =>
      cases d with
      | bl b =>
        cases q
        unfold Kq.allB at h
        cases e : Kq.allB ds with
        | none => rw [e] at h; simp at h
        | some cs =>
          rw [e] at h
          simp at h
          subst h
          rw [Reps.allB t e]
          rfl
      | _ => simp [Kq.allB] at h
theorem Reps.allI {ρ : List Addr} {H : Hp} : ∀ {ds : List D} {vs : List V} {bs : List Int}, Reps kn ρ H ds vs → allI ds = some bs → vs = bs.map V.int
  | [], _, _, r, h => by cases r; simp [Kq.allI] at h; subst h; rfl
  | d :: ds, _, bs, r, h => by
    cases r with
    | cons q t =>
      cases d with
      | int b =>
        cases q
        unfold Kq.allI at h
        cases e : Kq.allI ds with
        | none => rw [e] at h; simp at h
        | some cs =>
          rw [e] at h
          simp at h
          subst h
          rw [Reps.allI t e]
          rfl
      | _ => simp [Kq.allI] at h
theorem bi_r {bi : Bi} {σ : L2.St} {ρ : List Addr} {H : Hp} {S : Sto} {ds : List D} {vs : List V} {Q : VK} (hK : kn.K = X.K) (rl : Rel kn ρ H S) (r : Reps kn ρ H ds vs) (h : PostE kn W σ ρ H (biD bi ds S) Q) : rBi X bi vs H Q := by
  unfold biD at h
  split at h
  · obtain ⟨v, rfl, q⟩ := r.one
    cases q
    split at h
    · rename_i hz
      exact .inl ⟨_, _, rfl, ⟨Nat.le_trans hz big_le, rfl⟩, PostE.now h rl .int⟩
    · exact h.elim
  · split at h
    · rename_i es he
      obtain ⟨v, rfl, q⟩ := r.one
      obtain ⟨p, xs, rfl, h1, h2⟩ := itemsD_sq rl q he
      rw [hK] at h1
      refine .inl ⟨_, _, rfl, ?_, PostE.now h rl .int⟩
      rcases h1 with h1 | h1
      · exact .inl ⟨xs, h1, h2.length⟩
      · exact .inr ⟨xs, h1, h2.length⟩
    · split at h
      · rename_i z hz
        obtain ⟨i, j, c⟩ := z
        obtain ⟨v, rfl, q⟩ := r.one
        unfold rgO at hz
        split at hz
        · split at hz
          · rename_i i' j' c' hn
            cases hz
            obtain ⟨p, rfl, hp⟩ := q.ref_inv
            obtain ⟨o1, o2⟩ := rl.obj _ p _ hp hn
            exact .inr ⟨p, i, j, c, rfl, o1, o2, PostE.now h rl .int⟩
          · cases hz
        · cases hz
      · exact h.elim
  · obtain ⟨v, rfl, q⟩ := r.one
    cases q
    rename_i i
    have e : (i.natAbs : Int) = if i < 0 then -i else i := by split <;> omega
    refine ⟨i, rfl, ?_⟩
    rw [← e]
    exact PostE.now h rl .int
  · obtain ⟨v, rfl, q⟩ := r.one
    cases q
    exact .inl ⟨_, rfl, PostE.now h rl .int⟩
  · obtain ⟨v, rfl, q⟩ := r.one
    cases q
    exact .inr ⟨_, rfl, PostE.now h rl .int⟩
  · obtain ⟨v, w, rfl, q, q'⟩ := r.two
    cases q; cases q'
    exact ⟨_, _, rfl, PostE.now h rl .int⟩
  · obtain ⟨v, w, rfl, q, q'⟩ := r.two
    cases q; cases q'
    split at h
    · rename_i hl
      exact ⟨_, _, rfl, hl.1, hl.2, PostE.now h rl .int⟩
    · exact h.elim
  · obtain ⟨v, w, rfl, q, q'⟩ := r.two
    cases q; cases q'
    exact ⟨_, _, rfl, PostE.now h rl .int⟩
  · obtain ⟨v, w, rfl, q, q'⟩ := r.two
    cases q; cases q'
    exact ⟨_, _, rfl, PostE.now h rl .int⟩
  · obtain ⟨v, rfl, q⟩ := r.one
    split at h
    · rename_i mu es hn
      obtain ⟨p, xs, rfl, _, h1, h2, _⟩ := rl.isLst q hn
      split at h
      · rename_i bs hb
        exact ⟨p, bs, rfl, hK ▸ (h2.allB hb ▸ h1), PostE.now h rl .bl⟩
      · exact h.elim
    · exact h.elim
  · obtain ⟨v, rfl, q⟩ := r.one
    split at h
    · rename_i mu es hn
      obtain ⟨p, xs, rfl, _, h1, h2, _⟩ := rl.isLst q hn
      split at h
      · rename_i bs hb
        exact ⟨p, bs, rfl, hK ▸ (h2.allB hb ▸ h1), PostE.now h rl .bl⟩
      · exact h.elim
    · exact h.elim
  · obtain ⟨v, rfl, q⟩ := r.one
    split at h
    · rename_i mu es hn
      obtain ⟨p, xs, rfl, _, h1, h2, _⟩ := rl.isLst q hn
      split at h
      · rename_i is hb
        exact ⟨p, is, rfl, hK ▸ (h2.allI hb ▸ h1), PostE.now h rl .int⟩
      · exact h.elim
    · exact h.elim
  · obtain ⟨v, rfl, q⟩ := r.one
    cases q
    split at h
    · rename_i hl
      exact ⟨_, rfl, hl, PostE.now h rl .str⟩
    · exact h.elim
  · match vs, r with
    | [_, _, _], .cons q1 (.cons q2 (.cons q3 .nil)) =>
      cases q1; cases q2; cases q3
      split at h
      · rename_i ok
        refine ⟨_, _, _, rfl, ok, fun p hp => ?_⟩
        refine h _ _ (ρ ++ [p]) (Gr.name hp) (rl.nameO hp ⟨upd_same, ok⟩) (.ref ?_)
        rw [← rl.len, List.getElem?_append_right (Nat.le_refl _)]
        simp
      · exact h.elim
  · exact h.elim
theorem pe_callV {x : Str} {u : Value} {es : List Expr} {r : List V → Hp → VK → Prop} {t : TA} {p pos : Pos} (hc : CallR X u r) (hu : (∃ id, u = .builtin id) ∨ ∃ T, u = .type T) (bl : Blt X x u) (ha : PA X (a :: es) t)
    (hs : ∀ e ∈ a :: es, ∀ x p, e ≠ .Starred x p) : PE X (.Call (.Name x p) (a :: es) [] pos) (tCB r t) := by
  have h1 := starEach_plain (r := es) (env := X.env) (hs a List.mem_cons_self)
  have h2 := star_none (env := X.env) (pos := pos) fun e he => hs e (List.mem_cons_of_mem _ he)
  rcases hu with ⟨id, rfl⟩ | ⟨T, rfl⟩
  · exact pe_callB hc bl.gl bl.mg bl.bo ha bl.hn bl.hd h1 h2
  · exact pe_callTy hc bl.gl bl.mg bl.bo ha bl.hn bl.hd h1 h2
theorem q_bi {x : Str} {bi : Bi} {es : List Expr} {t : Sl → Sto → R (List D)} {p pos : Pos} (hK : kn.K = X.K) (hc : (X.calm || bi.hot) = true) (hu : (∃ id, bi.val = .builtin id) ∨ ∃ T, bi.val = .type T) (bl : Blt X x bi.val) (ha : QA X kn W (a :: es) t)
    (hs : ∀ e ∈ a :: es, ∀ x p, e ≠ .Starred x p) : PE X (.Call (.Name x p) (a :: es) [] pos) (liftE kn W fun σ S => (t σ S).bind fun ds S1 => biD bi ds S1) :=
  q_callr (pe_callV (biR bi hc) hu bl ha hs) fun σ ρ H S ds vs Q rl r h => bi_r hK rl r h
/-- .. a function of math, by the module's name -/
theorem q_bif {x : Str} {id : String} {bi : Bi} {es : List Expr} {t : Sl → Sto → R (List D)} {p pos : Pos} (hK : kn.K = X.K) (hc : (X.calm || bi.hot) = true) (hu : bi.val = .builtin id) (hg : Gl X x) (hm : X.mg x = some (.builtin id)) (hd : (x == ("__debug__" : Str)) = false) (ha : QA X kn W (a :: es) t)
    (hs : ∀ e ∈ a :: es, ∀ x p, e ≠ .Starred x p) : PE X (.Call (.Name x p) (a :: es) [] pos) (liftE kn W fun σ S => (t σ S).bind fun ds S1 => biD bi ds S1) :=
  q_callr (pe_callBfun (hu ▸ biR bi hc) hg hm ha hd (starEach_plain (hs a List.mem_cons_self)) (star_none fun e he => hs e (List.mem_cons_of_mem _ he))) fun σ ρ H S ds vs Q rl r h => bi_r hK rl r h

/-! ### built-ins over items -/
theorem PostL.bindL {σ : L2.St} {ρ : List Addr} {H : Hp} {r : R (List D)} {k : List D → Sto → R D} {Q : VK} (h : PostE kn W σ ρ H (r.bind k) Q) :
    PostL kn W σ ρ H r (fun v H1 => ∃ ρ1 ds S1 a xs, v = .ref a ∧ Gr ρ ρ1 H H1 ∧ Rel kn ρ1 H1 S1 ∧ (SqL kn.K H1 a xs ∨ SqT kn.K H1 a xs) ∧ Reps kn ρ1 H1 ds xs ∧ PostE kn W σ ρ1 H1 (k ds S1) Q) := by
  cases r with
  | no => exact h
  | ok ds S => exact fun a xs H' ρ' g rl sq rp => ⟨ρ', ds, S, a, xs, rfl, g, rl, sq, rp, h.gr g⟩
  | err x fs S => exact h
theorem PostN.bindN {σ : L2.St} {ρ : List Addr} {H : Hp} {r : R (List D)} {k : List D → Sto → R D} {Q : VK} (h : PostE kn W σ ρ H (r.bind k) Q) :
    PostN kn W σ ρ H r (fun v H1 => ∃ ρ1 ds S1 a xs, v = .ref a ∧ Gr ρ ρ1 H H1 ∧ Rel kn ρ1 H1 S1 ∧ H1 a = some (.lst xs) ∧ Reps kn ρ1 H1 ds xs ∧ PostE kn W σ ρ1 H1 (k ds S1) Q) := by
  cases r with
  | no => exact h
  | ok ds S => exact fun a xs H' ρ' g rl sq _ _ rp => ⟨ρ', ds, S, a, xs, rfl, g, rl, sq, rp, h.gr g⟩
  | err x fs S => exact h
/-- one argument, by its reading -/
theorem pe_callV1 {x : Str} {u : Value} {r : List V → Hp → VK → Prop} {ta : TE} {p pos : Pos} (hc : CallR X u r) (hu : (∃ id, u = .builtin id) ∨ ∃ T, u = .type T) (bl : Blt X x u) (ha : PE X a ta) (hs : ∀ x p, a ≠ .Starred x p) :
    PE X (.Call (.Name x p) [a] [] pos) (fun σ H Q => ta σ H fun v H1 => r [v] H1 Q) :=
  PE.imp (pe_callV (t := tCons ta tNil) hc hu bl (pa_cons ha pa_nil (starEach_plain hs)) (by intro e he; simp at he; subst he; exact hs)) fun σ H Q h => h
theorem PostL.monoL {σ : L2.St} {ρ : List Addr} {H : Hp} {t : R (List D)} {Q Q' : VK} (h : PostL kn W σ ρ H t Q) (i : ∀ v H', Q v H' → Q' v H') : PostL kn W σ ρ H t Q' := by
  cases t with
  | no => exact h
  | ok d S => exact fun a xs H' ρ' g rl sq rp => i _ _ (h a xs H' ρ' g rl sq rp)
  | err x fs S => exact h
theorem PostN.monoN {σ : L2.St} {ρ : List Addr} {H : Hp} {t : R (List D)} {Q Q' : VK} (h : PostN kn W σ ρ H t Q) (i : ∀ v H', Q v H' → Q' v H') : PostN kn W σ ρ H t Q' := by
  cases t with
  | no => exact h
  | ok d S => exact fun a xs H' ρ' g rl sq n1 n2 rp => i _ _ (h a xs H' ρ' g rl sq n1 n2 rp)
  | err x fs S => exact h
theorem q_tuple {x : Str} {t : Sl → Sto → R (List D)} {p pos : Pos} (hK : kn.K = X.K) (bl : Blt X x (.type "tuple")) (ha : PE X a (liftL kn W t)) (hs : ∀ x p, a ≠ .Starred x p) :
    PE X (.Call (.Name x p) [a] [] pos) (liftE kn W fun σ S => (t σ S).bind fun ds S1 => biL .tup ds S1) := by
  refine PE.imp (pe_callV1 call_tuple_of (.inr ⟨_, rfl⟩) bl ha hs) fun σ H Q ⟨ρ, σd, S, rl, re, h⟩ => ⟨ρ, σd, S, rl, re, (PostL.bindL h).monoL fun v H1 ⟨ρ1, ds, S1, a, xs, e, g1, rl1, sq, r1, h1⟩ => ?_⟩
  subst e
  rw [hK] at sq
  refine ⟨a, xs, rfl, ?_⟩
  rcases sq with sq | sq
  · exact .inl ⟨sq, fun l hl => PostE.tup h1 rl1 r1 hl⟩
  · exact .inr ⟨sq, PostE.now h1 rl1 (.tup (hK ▸ sq) r1)⟩
theorem q_list {x : Str} {t : Sl → Sto → R (List D)} {p pos : Pos} (hK : kn.K = X.K) (bl : Blt X x (.type "list")) (ha : PE X a (liftL kn W t)) (hs : ∀ x p, a ≠ .Starred x p) :
    PE X (.Call (.Name x p) [a] [] pos) (liftE kn W fun σ S => (t σ S).bind fun ds S1 => biL .lst ds S1) := by
  refine PE.imp (pe_callV1 call_list_of (.inr ⟨_, rfl⟩) bl ha hs) fun σ H Q ⟨ρ, σd, S, rl, re, h⟩ => ⟨ρ, σd, S, rl, re, (PostL.bindL h).monoL fun v H1 ⟨ρ1, ds, S1, a, xs, e, g1, rl1, sq, r1, h1⟩ => ?_⟩
  subst e
  rw [hK] at sq
  exact ⟨a, xs, rfl, sq, fun l hl => PostE.lst h1 rl1 r1 hl⟩
theorem q_all {x : Str} {t : Sl → Sto → R (List D)} {p pos : Pos} (hK : kn.K = X.K) (hc : X.calm = true) (bl : Blt X x (.builtin "all")) (ha : QN X kn W a t) (hs : ∀ x p, a ≠ .Starred x p) :
    PE X (.Call (.Name x p) [a] [] pos) (liftE kn W fun σ S => (t σ S).bind fun ds S1 => biL .all ds S1) := by
  refine PE.imp (pe_callV1 (cr_all hc) (.inl ⟨_, rfl⟩) bl ha hs) fun σ H Q ⟨ρ, σd, S, rl, re, h⟩ => ⟨ρ, σd, S, rl, re, (PostN.bindN h).monoN fun v H1 ⟨ρ1, ds, S1, a, xs, e, g1, rl1, sq, r1, h1⟩ => ?_⟩
  subst e
  unfold biL at h1
  dsimp only at h1
  split at h1
  · rename_i bs hb
    exact ⟨a, bs, rfl, SqL.of (r1.allB hb ▸ sq), PostE.now h1 rl1 .bl⟩
  · exact h1.elim
theorem q_any {x : Str} {t : Sl → Sto → R (List D)} {p pos : Pos} (hK : kn.K = X.K) (hc : X.calm = true) (bl : Blt X x (.builtin "any")) (ha : QN X kn W a t) (hs : ∀ x p, a ≠ .Starred x p) :
    PE X (.Call (.Name x p) [a] [] pos) (liftE kn W fun σ S => (t σ S).bind fun ds S1 => biL .any ds S1) := by
  refine PE.imp (pe_callV1 (cr_any hc) (.inl ⟨_, rfl⟩) bl ha hs) fun σ H Q ⟨ρ, σd, S, rl, re, h⟩ => ⟨ρ, σd, S, rl, re, (PostN.bindN h).monoN fun v H1 ⟨ρ1, ds, S1, a, xs, e, g1, rl1, sq, r1, h1⟩ => ?_⟩
  subst e
  unfold biL at h1
  dsimp only at h1
  split at h1
  · rename_i bs hb
    exact ⟨a, bs, rfl, SqL.of (r1.allB hb ▸ sq), PostE.now h1 rl1 .bl⟩
  · exact h1.elim

/-! ### isinstance of a built-in type -/
theorem sqT_tyx {K : PySem.W.Frag} {H : Hp} {p : Addr} {xs : List V} (h : SqT K H p xs) : TyX K H (.ref p) (.type "tuple") := by
  rcases h with (h | ⟨o, h⟩) | ⟨o, its, n, h1, h2, _⟩
  · exact .base (.tup h)
  · exact .fTuple h
  · exact .kTuple h1 h2
theorem sqL_tyx {K : PySem.W.Frag} {H : Hp} {p : Addr} {xs : List V} (h : SqL K H p xs) : TyX K H (.ref p) (.type "list") := by
  rcases h with (h | ⟨o, h⟩) | ⟨o, its, n, h1, h2, _⟩
  · exact .base (.lst h)
  · exact .base (.frz h)
  · exact .kList h1 h2
/-- the five types that the program asks for -/
def isTy : List String := ["int", "bool", "str", "tuple", "list"]
theorem kit_tab {K : PySem.W.Frag} {a b : String} (ha : a ∈ ["NoneType", "bool", "int", "str", "tuple", "list"]) (hb : b ∈ isTy) : PySem.W.kitOne K (.type a) (.type b) = some (kitTab a b) := by
  refine kit_ty ?_
  simp only [isTy, List.mem_cons, List.not_mem_nil, or_false] at ha hb
  rcases ha with rfl | rfl | rfl | rfl | rfl | rfl <;> rcases hb with rfl | rfl | rfl | rfl | rfl <;> decide +kernel
theorem q_isi {x y : Str} {T : String} {ta : Sl → Sto → R D} {p p2 pos : Pos} (hK : kn.K = X.K) (bl : Blt X x (.builtin "isinstance")) (bt : Blt X y (.type T)) (hT : T ∈ isTy) (ha : PE X a (liftE kn W ta)) (hs : ∀ x p, a ≠ .Starred x p) :
    PE X (.Call (.Name x p) [a, .Name y p2] [] pos) (liftE kn W fun σ S => (ta σ S).bind fun d S1 => isiT d T S1) := by
  have hty : PE X (.Name y p2) (tC (.ty T)) := pe_bltn bt.gl bt.mg bt.bo rfl bt.hn bt.hd
  have hpa : PA X [a, .Name y p2] (tCons (liftE kn W ta) (tCons (tC (.ty T)) tNil)) := pa_cons ha (pa_cons hty pa_nil rfl) (starEach_plain hs)
  refine PE.imp (pe_callV call_isi (.inl ⟨_, rfl⟩) bl hpa (by
    intro e he
    simp at he
    rcases he with rfl | rfl
    · exact hs
    · exact fun _ _ z => nomatch z)) fun σ H Q ⟨ρ, σd, S, rl, re, h⟩ => ⟨ρ, σd, S, rl, re, (PostE.bindE h).mono fun v H1 ⟨ρ1, d, S1, g1, rl1, r1, h1⟩ => ?_⟩
  show rIsi X.K [v, .ty T] H1 Q
  have fin : ∀ {s : String}, s ∈ ["NoneType", "bool", "int", "str", "tuple", "list"] → TyX X.K H1 v (.type s) → PostE kn W σ ρ1 H1 (.ok (.bl (kitTab s T)) S1) Q → rIsi X.K [v, .ty T] H1 Q := fun {s} hm ty q =>
    ⟨v, .ty T, .type s, .type T, kitTab s T, rfl, .ty T, ty, kit_tab hm hT, PostE.now q rl1 .bl⟩
  unfold isiT at h1
  cases d with
  | non => cases r1; exact fin (by simp) (.base .non) h1
  | bl b => cases r1; exact fin (by simp) (.base (.bl b)) h1
  | int i => cases r1; exact fin (by simp) (.base (.int i)) h1
  | str x => cases r1; exact fin (by simp) (.base (.str x)) h1
  | tup ds =>
    obtain ⟨q, xs, rfl, h2, _⟩ := r1.tup_inv
    rw [hK] at h2
    exact fin (by simp) (sqT_tyx h2) h1
  | ref n =>
    dsimp only at h1
    split at h1
    · rename_i mu ds hn
      obtain ⟨q, xs, rfl, _, h2, _⟩ := rl1.isLst r1 hn
      rw [hK] at h2
      exact fin (by simp) (sqL_tyx h2) h1
    · exact h1.elim
  | exc => exact h1.elim
end
end Kq
set_option Elab.async false
set_option linter.all false
set_option maxRecDepth 100000
set_option maxHeartbeats 2000000
set_option autoImplicit false
/-! # The Q layer, part Fr: t[::-1] of a tuple -/
namespace Kq
open PySem PySem.Spec PyProof.Rows L2
section
variable {prog : Program} {w : World} {A : Around} {E : Value → Shared → Prop} {s : Shared}
open HT in
theorem sliceApplied_rev {sl : Addr} {vs : Value} {n : Nat} {Q : Int × Int × Nat → Shared → Prop} (hs : s.heap.IsSliceOf sl .none .none vs) (ps : IsPart vs (some (-1)))
    (h : Q ((n : Int) - 1, -1, n) s) : wpAny (model prog w) A (Builtin.Slice.sliceApplied (.ref sl) (pure (n : Int))) Q E s := by
  obtain ⟨os, hos, hcs, hds⟩ := id hs
  unfold Builtin.Slice.sliceApplied Builtin.Slice.sliceFields
  refine wpAny_bind (wpAny_bind (wpAny_field hos hds (x := .none) rfl (wpAny_bind (wpAny_field hos hds (x := .none) rfl (wpAny_bind (wpAny_field hos hds (x := vs) rfl (wpAny_pure ?_)))))))
  refine wpAny_bind (slicePart_ ps ?_)
  show wpAny _ _ (if ((-1 : Int) == 0) = true then _ else _) _ _ s
  rw [if_neg (by decide)]
  refine wpAny_bind (slicePart_none (wpAny_bind (slicePart_none (wpAny_bind (wpAny_pure ?_)))))
  show wpAny _ _ (match Builtin.Slice.sliceAdjust none none (-1) (n : Int) with | (lo, hi) => pure (lo, (-1 : Int), Builtin.Slice.slicePlaces lo hi (-1))) _ _ s
  have e1 : Builtin.Slice.sliceAdjust none none (-1) (n : Int) = ((n : Int) - 1, -1) := by
    unfold Builtin.Slice.sliceAdjust
    have h1 : ((-1 : Int) < 0) := by omega
    simp only [h1, if_true]
  have e2 : Builtin.Slice.slicePlaces ((n : Int) - 1) (-1) (-1) = n := by
    unfold Builtin.Slice.slicePlaces
    have h1 : ¬ (-1 : Int) > 0 := by omega
    simp only [h1, if_false]
    rw [show (- -1 : Int) = 1 by rfl, Int.ediv_one]
    split <;> omega
  rw [e1]
  show wpAny _ _ (pure ((n : Int) - 1, (-1 : Int), Builtin.Slice.slicePlaces ((n : Int) - 1) (-1) (-1))) _ _ s
  rw [e2]
  exact wpAny_pure h
theorem fm_congr {α β : Type} {f g : α → Option β} : ∀ {l : List α}, (∀ x ∈ l, f x = g x) → l.filterMap f = l.filterMap g
  | [], _ => rfl
  | a :: r, h => by
    rw [List.filterMap_cons, List.filterMap_cons, h a (by simp), fm_congr fun x hx => h x (by simp [hx])]
theorem pick_rev (xs : Array Value) : ((List.range xs.size).filterMap fun (m : Nat) => xs[(((xs.size : Int) - 1) + (m : Int) * (-1)).toNat]?).toArray = xs.toList.reverse.toArray := by
  congr 1
  obtain ⟨l⟩ := xs
  show ((List.range l.length).filterMap fun (m : Nat) => (l.toArray)[(((l.length : Int) - 1) + (m : Int) * (-1)).toNat]?) = l.reverse
  have e : ∀ m ∈ List.range l.length, (l.toArray)[(((l.length : Int) - 1) + (m : Int) * (-1)).toNat]? = l.reverse[m]? := fun m hm => by
    have hm := List.mem_range.mp hm
    have : (((l.length : Int) - 1) + (m : Int) * (-1)).toNat = l.length - 1 - m := by omega
    rw [this, List.getElem?_reverse hm]
    simp
  rw [fm_congr e]
  have hl : l.length = l.reverse.length := (List.length_reverse).symm
  rw [hl]
  generalize l.reverse = r
  induction r with
  | nil => rfl
  | cons a r ih =>
    rw [List.length_cons, List.range_succ_eq_map, List.filterMap_cons]
    simp only [List.getElem?_cons_zero, List.filterMap_map]
    congr 1
open HT in
theorem getItem_tuple_rev {t sl : Addr} {items : Array Value} {vs : Value} {Q : Value → Shared → Prop} (ht : IsTup s.heap t items) (hs : s.heap.IsSliceOf sl .none .none vs) (ps : IsPart vs (some (-1)))
    (h : Q (.ref s.heap.objs.size) { s with heap := s.heap.push { cls := .type "tuple", data := .seq items.toList.reverse.toArray } })
    (hsz : items.size ≤ sizeLine) : wpAny (model prog w) A (getItem (.ref t) (.ref sl)) Q E s := by
  have htake : sizeOk (.seq items.toList.reverse.toArray) := by
    show items.toList.reverse.toArray.size ≤ sizeLine
    rw [List.size_toArray, List.length_reverse, Array.length_toList]
    omega
  obtain ⟨os, hos, hcs, hds⟩ := id hs
  have hTs : s.TypeIs (.ref sl) "slice" := ⟨os, hos, hcs⟩
  unfold getItem
  try with_reducible refine wpAny_holding ?_
  first | refine wpAny_bind (wpAny_pure ?_) | skip
  refine wpAny_bind (wpAny_sequenceKey ht.typeIs (by decide) ?_)
  refine wpAny_bind (wpAny_callSpecial?_slot (name := Str.ofString "__getitem__") ht.typeIs PyProof.Rows.slot_tuple_getitem
    (wpAny_call_entry PyProof.Rows.slot_tuple_getitem ht.typeIs entry_tuple_getitem ?_ (args_tuple_getitem _ _)))
  show wpAny _ _ (Builtin.Tuple.tupleItemsOf (.ref t) >>= _) _ _ s
  refine wpAny_bind (tupleItemsOf_ ht ?_)
  refine wpAny_bind (wpAny_typeOf hTs ?_)
  rw [if_pos (by decide)]
  refine wpAny_bind (sliceApplied_rev hs ps ?_)
  have hno : ¬ ((((items.size : Int) - 1 == 0) && (-1 : Int) == 1 && items.size == items.size) = true) := by
    intro q
    rw [Bool.and_eq_true, Bool.and_eq_true] at q
    exact absurd q.1.2 (by decide)
  show wpAny _ _ (if (((items.size : Int) - 1 == 0) && (-1 : Int) == 1 && items.size == items.size) = true then _ else _) _ _ s
  rw [if_neg hno, pick_rev]
  first
    | exact wpAny_bind (m := Builtin.Tuple.tupleExact _) (wpAny_newObj_type (wpAny_pure ⟨_, rfl, wpAny_pure h⟩) htake)
    | exact wpAny_bind (m := Builtin.Tuple.tupleExact _) (wpAny_newObj_type (wpAny_bind (wpAny_pure (wpAny_pure ⟨_, rfl, wpAny_pure h⟩))) htake)
    | exact wpAny_bind (wpAny_bind (m := Builtin.Tuple.tupleExact _) (wpAny_newObj_type (wpAny_pure (wpAny_pure ⟨_, rfl, wpAny_pure h⟩)) htake))
    | exact wpAny_bind (wpAny_bind (m := Builtin.Tuple.tupleExact _) (wpAny_newObj_type (wpAny_pure ⟨_, rfl, wpAny_pure h⟩) htake))
end
theorem pickL_rev (its : List Value) : slicePick its.toArray none none (some (-1)) = its.reverse.toArray := by
  unfold slicePick
  have e1 : sliceBounds none none (some (-1)) its.toArray.size = ((its.toArray.size : Int) - 1, -1, -1) := by
    unfold sliceBounds
    simp
  rw [e1]
  have e2 : sliceRange ((its.toArray.size : Int) - 1) (-1) (-1) = (List.range its.length).map fun (k : Nat) => (((its.toArray.size : Int) - 1) + (k : Int) * (-1)).toNat := by
    unfold sliceRange
    have h1 : ¬ (-1 : Int) > 0 := by omega
    simp only [h1, if_false]
    have h2 : (if (its.toArray.size : Int) - 1 > -1 then ((its.toArray.size : Int) - 1 - -1 - -1 - 1) / - -1 else 0) = (its.length : Int) := by
      simp only [List.size_toArray]
      rw [show (- -1 : Int) = 1 by rfl, Int.ediv_one]
      split <;> omega
    rw [h2, Int.toNat_natCast]
    exact List.map_congr_left fun k _ => by rw [Int.mul_comm]
  have := pick_rev its.toArray
  rw [e2, List.filterMap_map]
  exact this
def tRevT (K : PySem.W.Frag) (te : TE) : TE := fun σ H Q => te σ H fun x H1 => ∃ a xs, x = .ref a ∧ ((SqT K H1 a xs ∧ ∀ p, H1 p = none → Q (.ref p) (upd H1 p (.tup xs.reverse))) ∨ (SqL K H1 a xs ∧ ∀ p, H1 p = none → Q (.ref p) (upd H1 p (.lst xs.reverse))))
theorem pe_revT {X : Cx} {e : Expr} {te : TE} {k : Nat} {p1 p2 p3 pos : Pos} (he : PE X e te) : PE X (.Subscript e (.Slice none none (some (.UnaryOp .USub (.Constant (.int 1) k p1) p2)) p3) pos) (tRevT X.K te) := by
  refine ⟨fun pins s σ H Q I h => ?_⟩
  refine Subscript_ (thn (he.run pins s σ H _ I h) fun v s1 ⟨x, H1, I1, r1, q1⟩ => ?_)
  obtain ⟨a, xs, ex, hxq⟩ := q1
  subst ex
  cases r1
  have hst : PO X (some (.UnaryOp .USub (.Constant (.int 1) k p1) p2)) (tPart (tUn (rU fun i => .int (-i)) (tC (.int 1)))) := po_some (pe_un un_neg pe_int)
  refine wpAny_Slice (thn (po_none.run pins s1 σ H1 (fun o H2 => o = none ∧ H2 = H1) I1 ⟨rfl, rfl⟩) fun vl s2 ⟨l, H2, I2, pl, el, e2⟩ => ?_)
  subst el e2
  refine thn (po_none.run pins s2 σ H2 (fun o H3 => o = none ∧ H3 = H2) I2 ⟨rfl, rfl⟩) fun vu s3 ⟨u, H3, I3, pu, eu, e3⟩ => ?_
  subst eu e3
  refine thn (hst.run pins s3 σ H3 (fun o H4 => o = some (-1) ∧ H4 = H3) I3 ⟨1, rfl, -1, rfl, rfl, rfl⟩) fun vs s4 ⟨o, H4, I4, ps, eo, e4⟩ => ?_
  subst eo e4
  have I5 : Inv X pins σ H4 { s4 with heap := s4.heap.push { cls := .type "slice", data := .fields #[vl, vu, vs] } } := I4.kept (t' := s4.toks) fun b ob q => Heap.get?_push_of_some _ q
  cases pl
  cases pu
  rcases hxq with ⟨hx, q⟩ | ⟨hx, q⟩
  case inr =>
    obtain ⟨its, r, hl, hz⟩ := I5.list hx
    have hlen := r.length
    show wpAny (model X.prog X.w) X.A (subscriptTail e (.Slice none none (some (.UnaryOp .USub (.Constant (.int 1) k p1) p2)) p3) (.ref a) (.ref s4.heap.objs.size)) (EP X pins σ Q) X.xe { s4 with heap := s4.heap.push { cls := .type "slice", data := .fields #[.none, .none, vs] } }
    refine tail_any (ops := [.ref a, .ref s4.heap.objs.size]) hl.isList.typeIs list_getitem_lookup ?_ (by with_unfolding_all rfl)
    refine wpAny_getItem_list_slice hl.isList (Heap.IsSliceOf.new _ .none .none vs) .none .none ps (by simp) ?_ (by rw [List.size_toArray]; omega)
    rw [pickL_rev]
    refine ⟨.ref _, _, I5.laid (t' := s4.toks) (o := .lst xs.reverse) (fun b ob q => Heap.get?_push_of_some _ q) (Nat.le_refl _) ?_, rfl, q _ (I5.hok.fresh (Nat.le_refl _))⟩
    exact ⟨by rw [List.length_reverse]; exact hz, _, 0, r.reverse, Heap.get?_push_size _ rfl⟩
  obtain ⟨its, r, ht, hz⟩ := I5.tuple hx
  have hlen := r.length
  show wpAny (model X.prog X.w) X.A (subscriptTail e (.Slice none none (some (.UnaryOp .USub (.Constant (.int 1) k p1) p2)) p3) (.ref a) (.ref s4.heap.objs.size)) (EP X pins σ Q) X.xe { s4 with heap := s4.heap.push { cls := .type "slice", data := .fields #[.none, .none, vs] } }
  refine tail_any (ops := [.ref a, .ref s4.heap.objs.size]) ht.typeIs (PyProof.Rows.slot_tuple_getitem.lookup) ?_ (by with_unfolding_all rfl)
  refine getItem_tuple_rev ht (Heap.IsSliceOf.new _ .none .none vs) ps ?_ (by rw [List.size_toArray]; omega)
  refine ⟨.ref _, _, I5.laid (t' := s4.toks) (o := .tup xs.reverse) (fun b ob q => Heap.get?_push_of_some _ q) (Nat.le_refl _) ?_, rfl, q _ (I5.hok.fresh (Nat.le_refl _))⟩
  exact ⟨by rw [List.length_reverse]; exact hz, _, r.reverse, IsTup.new _ _⟩
section
variable {kn : Kn} {W : WX} {X : Cx} {a : Expr}
theorem q_rev {ta : Sl → Sto → R D} {k : Nat} {p1 p2 p3 pos : Pos} (hK : kn.K = X.K) (ha : PE X a (liftE kn W ta)) :
    PE X (.Subscript a (.Slice none none (some (.UnaryOp .USub (.Constant (.int 1) k p1) p2)) p3) pos) (liftE kn W fun σ S => (ta σ S).bind fun x S1 => (R.ok D.non S1).bind fun y S2 => binD .rev x y S2) := by
  refine PE.imp (pe_revT ha) fun σ H Q ⟨ρ, σd, S, rl, re, h⟩ => ⟨ρ, σd, S, rl, re, (PostE.bindE h).mono fun v1 H1 ⟨ρ1, d1, S1, g1, rl1, r1, h1⟩ => ?_⟩
  have h1 : PostE kn W σ ρ1 H1 (binD .rev d1 .non S1) Q := h1
  unfold binD at h1
  cases d1 with
  | tup ds =>
    obtain ⟨p, xs, rfl, q1, q2⟩ := r1.tup_inv
    rw [← hK]
    exact ⟨p, xs, rfl, .inl ⟨q1, fun p' hp => PostE.tup h1 rl1 q2.reverse hp⟩⟩
  | ref n =>
    dsimp only at h1
    split at h1
    · rename_i mu ds hn
      obtain ⟨q, xs, rfl, hq, h4, h5, h6⟩ := rl1.isLst r1 hn
      rw [← hK]
      exact ⟨q, xs, rfl, .inr ⟨h4, fun p' hp => PostE.lst h1 rl1 h5.reverse hp⟩⟩
    · exact h1.elim
  | _ => exact h1.elim
end
end Kq
set_option Elab.async false
set_option linter.all false
set_option maxRecDepth 100000
set_option maxHeartbeats 2000000
set_option autoImplicit false
/-! # The Q layer, part Fl: list(range(..)), tuple(range(..)) -/
namespace Kq
open PySem PySem.Spec PyProof.Rows L2
section
variable {X : Cx} {kn : Kn} {W : WX} {a b : Expr} {t u : Sl → Sto → R D} {p p2 pos pos2 : Pos}
theorem reps_ints' {ρ : List Addr} {H : Hp} (f : Nat → Int) : ∀ l : List Nat, Reps kn ρ H (l.map fun i => .int (f i)) (l.map fun i => V.int (f i))
  | [] => .nil
  | i :: l => .cons .int (reps_ints' f l)
theorem q_lrg1 (hc : X.calm = true) (bl : Blt X "list" (.type "list")) (br : Blt X "range" (.type "range")) (ha : PE X a (liftE kn W t)) (hs : ∀ x p, a ≠ .Starred x p) :
    PE X (.Call (.Name "list" p) [.Call (.Name "range" p2) [a] [] pos2] [] pos) (liftE kn W fun σ S => ((t σ S).bind fun d S1 => (R.ok [] S1).bind fun ds S2 => .ok (d :: ds) S2).bind fun ds S1 => lrgD false ds S1) := by
  refine PE.imp (pe_listRg hc bl.gl bl.mg (prg_1 br.gl br.mg ha (starEach_plain hs))) fun σ H Q ⟨ρ, σd, S, rl, re, h⟩ => ?_
  have h : PostE kn W σ ρ H (((t σd S).bind fun d S1 => (R.ok [] S1).bind fun ds S2 => .ok (d :: ds) S2).bind fun ds S1 => lrgD false ds S1) Q := h
  have h : PostE kn W σ ρ H ((t σd S).bind fun d S1 => lrgD false [d] S1) Q := by
    cases e : t σd S <;> rw [e] at h <;> exact h
  refine ⟨ρ, σd, S, rl, re, (PostE.bindE h).mono fun v1 H1 ⟨ρ1, d1, S1, g1, rl1, r1, h1⟩ => ?_⟩
  have bg : (big : Int) = 1000000 := rfl
  unfold lrgD at h1
  split at h1
  · rename_i j hj
    cases hj
    split at h1
    · rename_i hb
      rw [bg] at hb
      cases r1
      refine ⟨j, rfl, ⟨by decide, by decide, by omega, by omega, by omega⟩, fun q hq => ?_⟩
      have rp : Reps kn ρ1 H1 ((List.range j.toNat).map fun i => .int (Int.ofNat i)) (rgV 0 j) := by
        have := reps_ints' (kn := kn) (ρ := ρ1) (H := H1) (fun i => Int.ofNat i) (List.range j.toNat)
        unfold rgV
        rw [Int.sub_zero]
        have e : ((List.range j.toNat).map fun i => V.int (0 + (i : Nat))) = (List.range j.toNat).map fun i => V.int (Int.ofNat i) := List.map_congr_left fun i _ => by
          rw [Int.zero_add]; rfl
        rw [e]
        exact this
      exact PostE.lst (by exact h1) rl1 rp hq
    · exact h1.elim
  · rename_i e; cases e
  · exact h1.elim
theorem q_trg1 (hc : X.calm = true) (bl : Blt X "tuple" (.type "tuple")) (br : Blt X "range" (.type "range")) (ha : PE X a (liftE kn W t)) (hs : ∀ x p, a ≠ .Starred x p) :
    PE X (.Call (.Name "tuple" p) [.Call (.Name "range" p2) [a] [] pos2] [] pos) (liftE kn W fun σ S => ((t σ S).bind fun d S1 => (R.ok [] S1).bind fun ds S2 => .ok (d :: ds) S2).bind fun ds S1 => lrgD true ds S1) := by
  refine PE.imp (pe_tupRg hc bl.gl bl.mg (prg_1 br.gl br.mg ha (starEach_plain hs))) fun σ H Q ⟨ρ, σd, S, rl, re, h⟩ => ?_
  have h : PostE kn W σ ρ H (((t σd S).bind fun d S1 => (R.ok [] S1).bind fun ds S2 => .ok (d :: ds) S2).bind fun ds S1 => lrgD true ds S1) Q := h
  have h : PostE kn W σ ρ H ((t σd S).bind fun d S1 => lrgD true [d] S1) Q := by
    cases e : t σd S <;> rw [e] at h <;> exact h
  refine ⟨ρ, σd, S, rl, re, (PostE.bindE h).mono fun v1 H1 ⟨ρ1, d1, S1, g1, rl1, r1, h1⟩ => ?_⟩
  have bg : (big : Int) = 1000000 := rfl
  unfold lrgD at h1
  split at h1
  · rename_i j hj
    cases hj
    split at h1
    · rename_i hb
      rw [bg] at hb
      cases r1
      refine ⟨j, rfl, ⟨by decide, by decide, by omega, by omega, by omega⟩, fun q hq => ?_⟩
      have rp : Reps kn ρ1 H1 ((List.range j.toNat).map fun i => .int (Int.ofNat i)) (rgV 0 j) := by
        have := reps_ints' (kn := kn) (ρ := ρ1) (H := H1) (fun i => Int.ofNat i) (List.range j.toNat)
        unfold rgV
        rw [Int.sub_zero]
        have e : ((List.range j.toNat).map fun i => V.int (0 + (i : Nat))) = (List.range j.toNat).map fun i => V.int (Int.ofNat i) := List.map_congr_left fun i _ => by
          rw [Int.zero_add]; rfl
        rw [e]
        exact this
      exact PostE.tup (by exact h1) rl1 rp hq
    · exact h1.elim
  · rename_i e; cases e
  · exact h1.elim
theorem q_lrg2 (hc : X.calm = true) (bl : Blt X "list" (.type "list")) (br : Blt X "range" (.type "range")) (ha : PE X a (liftE kn W t)) (hb : PE X b (liftE kn W u)) (hs : ∀ x p, a ≠ .Starred x p) (hs2 : ∀ x p, b ≠ .Starred x p) :
    PE X (.Call (.Name "list" p) [.Call (.Name "range" p2) [a, b] [] pos2] [] pos) (liftE kn W fun σ S => ((t σ S).bind fun d S1 => ((u σ S1).bind fun e S2 => (R.ok [] S2).bind fun ds S3 => .ok (e :: ds) S3).bind fun ds S2 => .ok (d :: ds) S2).bind fun ds S1 => lrgD false ds S1) := by
  refine PE.imp (pe_listRg hc bl.gl bl.mg (prg_2 br.gl br.mg ha hb (starEach_plain hs) (starEach_plain hs2) (star_none (by intro x hx; simp at hx; subst hx; exact hs2)))) fun σ H Q ⟨ρ, σd, S, rl, re, h⟩ => ?_
  have h : PostE kn W σ ρ H (((t σd S).bind fun d S1 => ((u σd S1).bind fun e S2 => (R.ok [] S2).bind fun ds S3 => .ok (e :: ds) S3).bind fun ds S2 => .ok (d :: ds) S2).bind fun ds S1 => lrgD false ds S1) Q := h
  have h : PostE kn W σ ρ H ((t σd S).bind fun d S1 => (u σd S1).bind fun e S2 => lrgD false [d, e] S2) Q := by
    cases e : t σd S with
    | no => rw [e] at h; exact h
    | err x fs S' => rw [e] at h; exact h
    | ok d S1 =>
      rw [e] at h
      rw [R.bind_ok] at h ⊢
      cases e2 : u σd S1 <;> rw [e2] at h <;> exact h
  refine ⟨ρ, σd, S, rl, re, (PostE.bindE h).mono fun v1 H1 ⟨ρ1, d1, S1, g1, rl1, r1, h1⟩ => ⟨ρ1, σd, S1, rl1, re.gr g1, (PostE.bindE h1).mono fun v2 H2 ⟨ρ2, d2, S2, g2, rl2, r2, h2⟩ => ?_⟩⟩
  have bg : (big : Int) = 1000000 := rfl
  have r1' := r1.gr g2
  unfold lrgD at h2
  split at h2
  · rename_i e; cases e
  · rename_i i j hij
    cases hij
    split at h2
    · rename_i hb
      rw [bg] at hb
      cases r1'
      cases r2
      refine ⟨i, j, rfl, rfl, ⟨by omega, by omega, by omega, by omega, by omega⟩, fun q hq => ?_⟩
      have rp : Reps kn ρ2 H2 ((List.range (j - i).toNat).map fun k => .int (i + Int.ofNat k)) (rgV i j) := reps_ints' (kn := kn) (ρ := ρ2) (H := H2) (fun k => i + Int.ofNat k) (List.range (j - i).toNat)
      exact PostE.lst (by exact h2) rl2 rp hq
    · exact h2.elim
  · exact h2.elim
theorem q_trg2 (hc : X.calm = true) (bl : Blt X "tuple" (.type "tuple")) (br : Blt X "range" (.type "range")) (ha : PE X a (liftE kn W t)) (hb : PE X b (liftE kn W u)) (hs : ∀ x p, a ≠ .Starred x p) (hs2 : ∀ x p, b ≠ .Starred x p) :
    PE X (.Call (.Name "tuple" p) [.Call (.Name "range" p2) [a, b] [] pos2] [] pos) (liftE kn W fun σ S => ((t σ S).bind fun d S1 => ((u σ S1).bind fun e S2 => (R.ok [] S2).bind fun ds S3 => .ok (e :: ds) S3).bind fun ds S2 => .ok (d :: ds) S2).bind fun ds S1 => lrgD true ds S1) := by
  refine PE.imp (pe_tupRg hc bl.gl bl.mg (prg_2 br.gl br.mg ha hb (starEach_plain hs) (starEach_plain hs2) (star_none (by intro x hx; simp at hx; subst hx; exact hs2)))) fun σ H Q ⟨ρ, σd, S, rl, re, h⟩ => ?_
  have h : PostE kn W σ ρ H (((t σd S).bind fun d S1 => ((u σd S1).bind fun e S2 => (R.ok [] S2).bind fun ds S3 => .ok (e :: ds) S3).bind fun ds S2 => .ok (d :: ds) S2).bind fun ds S1 => lrgD true ds S1) Q := h
  have h : PostE kn W σ ρ H ((t σd S).bind fun d S1 => (u σd S1).bind fun e S2 => lrgD true [d, e] S2) Q := by
    cases e : t σd S with
    | no => rw [e] at h; exact h
    | err x fs S' => rw [e] at h; exact h
    | ok d S1 =>
      rw [e] at h
      rw [R.bind_ok] at h ⊢
      cases e2 : u σd S1 <;> rw [e2] at h <;> exact h
  refine ⟨ρ, σd, S, rl, re, (PostE.bindE h).mono fun v1 H1 ⟨ρ1, d1, S1, g1, rl1, r1, h1⟩ => ⟨ρ1, σd, S1, rl1, re.gr g1, (PostE.bindE h1).mono fun v2 H2 ⟨ρ2, d2, S2, g2, rl2, r2, h2⟩ => ?_⟩⟩
  have bg : (big : Int) = 1000000 := rfl
  have r1' := r1.gr g2
  unfold lrgD at h2
  split at h2
  · rename_i e; cases e
  · rename_i i j hij
    cases hij
    split at h2
    · rename_i hb
      rw [bg] at hb
      cases r1'
      cases r2
      refine ⟨i, j, rfl, rfl, ⟨by omega, by omega, by omega, by omega, by omega⟩, fun q hq => ?_⟩
      have rp : Reps kn ρ2 H2 ((List.range (j - i).toNat).map fun k => .int (i + Int.ofNat k)) (rgV i j) := reps_ints' (kn := kn) (ρ := ρ2) (H := H2) (fun k => i + Int.ofNat k) (List.range (j - i).toNat)
      exact PostE.tup (by exact h2) rl2 rp hq
    · exact h2.elim
  · exact h2.elim
end
end Kq
set_option Elab.async false
set_option linter.all false
set_option maxRecDepth 100000
set_option maxHeartbeats 2000000
set_option autoImplicit false
/-! # The Q layer, part G: what loops walk over -/
namespace Kq
open PySem PySem.Spec PyProof.Rows L2

/-! ### lists and tuples alike, as sources of an iterator (tl: a tuple) -/
def SqB (K : PySem.W.Frag) (tl : Bool) (H : Hp) (a : Addr) (xs : List V) : Prop := if tl = true then SqT K H a xs else SqL K H a xs
def ItB (tl : Bool) (h : Heap) (it a : Addr) (i : Nat) : Prop := if tl = true then h.IsTupleIter it a i else h.IsListIter it a i
def CoB (tl : Bool) (h : Heap) (a : Addr) (items : Array Value) : Prop := if tl = true then h.IsTuple a items else h.IsList a items
def oB (tl : Bool) (a : Addr) : Obj := { cls := .type (if tl = true then "tuple_iterator" else "list_iterator"), data := .fields #[.ref a, .int 0 0] }
theorem begB (tl : Bool) (a : Addr) (items : Array Value) : Begins (.ref a) (oB tl a) (fun h => CoB tl h a items) := by
  cases tl
  · exact begins_list a items
  · exact begins_tuple a items
theorem drawsB {prog : Program} {w : World} {A : Around} (tl : Bool) (hh : A.handled = none) (it a : Addr) (hne : a ≠ it) (items : Array Value) :
    Draws prog w A it [it, a] items.size (fun i v => items[i]? = some v) (fun i h => ItB tl h it a i ∧ CoB tl h a items) := by
  cases tl
  · exact Draws.list hh it a hne items
  · exact Draws.tuple hh it a hne items
theorem itB_new {tl : Bool} {h : Heap} {it a : Addr} (e : h.get? it = some (oB tl a)) : ItB tl h it a 0 := by
  cases tl
  · exact ⟨_, e, rfl, rfl⟩
  · exact ⟨_, e, rfl, rfl⟩
theorem itB_at {tl : Bool} {h h' : Heap} {it a : Addr} {i : Nat} (x : ItB tl h it a i) (k : ∀ o, h.get? it = some o → h'.get? it = some o) : ItB tl h' it a i := by
  cases tl
  · obtain ⟨o, e, r⟩ := x; exact ⟨o, k o e, r⟩
  · obtain ⟨o, e, r⟩ := x; exact ⟨o, k o e, r⟩
theorem itB_obj {tl : Bool} {h : Heap} {it a : Addr} {i : Nat} (x : ItB tl h it a i) : ∃ o, h.get? it = some o ∧ ∀ v, o.data ≠ .cell v := by
  cases tl
  · obtain ⟨o, e, _, d⟩ := x; exact ⟨o, e, fun v z => by rw [d] at z; cases z⟩
  · obtain ⟨o, e, _, d⟩ := x; exact ⟨o, e, fun v z => by rw [d] at z; cases z⟩
section
variable {X : Cx} {pins : List (Addr × Obj)} {σ : L2.St} {H : Hp} {s : Shared}
theorem _root_.L2.Inv.coB {tl : Bool} {a : Addr} {xs : List V} (I : Inv X pins σ H s) (h : SqB X.K tl H a xs) : ∃ its : List Value, Vals xs its ∧ CoB tl s.heap a its.toArray := by
  cases tl
  · obtain ⟨its, r, p, _⟩ := I.list h
    exact ⟨its, r, p.isList⟩
  · obtain ⟨its, r, ⟨o, e, c, n, d⟩, _⟩ := I.tuple h
    exact ⟨its, r, ⟨o, e, c, n, d⟩⟩
theorem _root_.L2.Inv.injB {tl : Bool} {a : Addr} {xs ys : List V} (I : Inv X pins σ H s) (h : SqB X.K tl H a xs) (h' : SqB X.K tl H a ys) : xs = ys := by
  cases tl
  · exact I.list_inj h h'
  · exact I.tuple_inj h h'
theorem coB_lt {tl : Bool} {h : Heap} {a : Addr} {its : Array Value} (x : CoB tl h a its) : a < h.objs.size := by
  cases tl
  · obtain ⟨o, e, _⟩ := x; exact Heap.lt_size e
  · obtain ⟨o, e, _⟩ := x; exact Heap.lt_size e

/-! ### zip of two -/
def ItZ (K : PySem.W.Frag) (t1 t2 : Bool) (a b : Addr) : L2.It :=
  ⟨fun i H => ∃ (xs ys : List V), SqB K t1 H a xs ∧ SqB K t2 H b ys ∧ i < min xs.length ys.length,
    fun i H v H' => ∃ T x y, v = .ref T ∧ H T = none ∧ H' = upd H T (.tup [x, y]) ∧ (∀ xs, SqB K t1 H a xs → xs[i]? = some x) ∧ ∀ ys, SqB K t2 H b ys → ys[i]? = some y,
    fun i H => ∃ xs ys : List V, SqB K t1 H a xs ∧ SqB K t2 H b ys ∧ i = min xs.length ys.length⟩
theorem turnZ {P : Program} {w : World} {K : PySem.W.Frag} {elts : List Expr} {kk : Nat} {tpos : Pos} {t1 t2 : Bool} {a b z TI TO i1 i2 : Addr} (D : ZipSep2 z TI TO i1 i2 [i1, a] [i2, b]) (h1 : a ≠ i1) (h2 : b ≠ i2) (hz1 : i1 ≠ TO) :
    Turn P w K (.Tuple elts kk tpos) (ItZ K t1 t2 a b) [z, TI, TO, i1, i2] z (fun i h => IsZip h z TI TO .none ∧ IsTupOf2 h TI (.ref i1) (.ref i2) ∧ (∃ a1 a2, IsTupOf2 h TO a1 a2) ∧ ItB t1 h i1 a i ∧ ItB t2 h i2 b i) where
  mem := by simp
  obj := by
    intro i h st b hb
    obtain ⟨hz, hTI, ⟨a1, a2, hTO⟩, q1, q2⟩ := st
    have e' : b = z ∨ b = TI ∨ b = TO ∨ b = i1 ∨ b = i2 := by simpa using hb
    rcases e' with rfl | rfl | rfl | rfl | rfl
    · exact ⟨_, hz, fun v y => by cases y⟩
    · exact ⟨_, hTI, fun v y => by cases y⟩
    · exact ⟨_, hTO, fun v y => by cases y⟩
    · exact itB_obj q1
    · exact itB_obj q2
  keep := by
    intro i h h' st k
    obtain ⟨hz, hTI, ⟨a1, a2, hTO⟩, q1, q2⟩ := st
    exact ⟨k z (by simp) _ hz, k TI (by simp) _ hTI, ⟨a1, a2, k TO (by simp) _ hTO⟩, itB_at q1 (k i1 (by simp)), itB_at q2 (k i2 (by simp))⟩
  item := by
    intro X hP hw hK hc i pins s σ H E I hf st hg
    subst hP hw hK
    obtain ⟨xs, ys, sx, sy, hi⟩ := hg
    obtain ⟨its, rx, cx⟩ := I.coB sx
    obtain ⟨jts, ry, cy⟩ := I.coB sy
    obtain ⟨hz, hTI, hTO, q1, q2⟩ := st
    have hh : X.A.in1.handled = none := I.ok.hd hc
    have G := GoesN.zip2 (elts := elts) (x1 := kk) (pos := tpos) D (drawsB (prog := X.prog) (w := X.w) (A := X.A.in1) t1 hh i1 a h1 its.toArray) (drawsB (prog := X.prog) (w := X.w) (A := X.A.in1) t2 hh i2 b h2 jts.toArray)
    have lx := rx.length
    have ly := ry.length
    refine G.goes i s _ _ (by simp only [List.size_toArray]; omega) ⟨hz, hTI, hTO, ⟨q1, cx⟩, q2, cy⟩ fun u h' tk hY st' hk htk => ?_
    obtain ⟨T, x, y, rfl, hT, ex, ey, tT⟩ := hY
    obtain ⟨vx, evx, rvx⟩ : ∃ v, xs[i]? = some v ∧ RelV v x := by
      have hlt : i < xs.length := by omega
      obtain ⟨u, e1, e2⟩ := rx.get (i := i) (x := xs[i]) (by simp [hlt])
      have : its[i]? = some x := by simpa using ex
      rw [this] at e1; cases e1
      exact ⟨xs[i], by simp [hlt], e2⟩
    obtain ⟨vy, evy, rvy⟩ : ∃ v, ys[i]? = some v ∧ RelV v y := by
      have hlt : i < ys.length := by omega
      obtain ⟨u, e1, e2⟩ := ry.get (i := i) (x := ys[i]) (by simp [hlt])
      have : jts[i]? = some y := by simpa using ey
      rw [this] at e1; cases e1
      exact ⟨ys[i], by simp [hlt], e2⟩
    obtain ⟨o, eo, co, n, dn⟩ := tT
    have new : ObjOk X.prog X.w (upd H T (.tup [vx, vy])) h' T (.tup [vx, vy]) := ⟨by show 2 ≤ sizeLine; decide, [x, y], .cons rvx (.cons rvy .nil), ⟨o, eo, co, n, dn⟩⟩
    have I1 := I.turnedNew (t' := tk) (ch := [z, TO, i1, i2]) (fun c o hb e => hk c o hb e) (fun c hc' => hf c (by
      simp only [List.mem_cons, List.not_mem_nil, or_false] at hc' ⊢
      rcases hc' with rfl | rfl | rfl | rfl <;> simp)) hT new
    obtain ⟨k1, k2, k3, ⟨k4, _⟩, k5, _⟩ := st'
    refine ⟨.ref T, _, I1, rfl, ⟨T, vx, vy, rfl, I.hok.fresh hT, rfl, fun zs hz' => by rw [I.injB hz' sx]; exact evx, fun zs hz' => by rw [I.injB hz' sy]; exact evy⟩, ⟨k1, k2, k3, k4, k5⟩, fun c hc' => ?_⟩
    have f0 := (hf c hc').1
    have hlt : c < s.heap.objs.size := by
      have e' : c = z ∨ c = TI ∨ c = TO ∨ c = i1 ∨ c = i2 := by simpa using hc'
      rcases e' with rfl | rfl | rfl | rfl | rfl
      · exact Heap.lt_size hz
      · exact Heap.lt_size hTI
      · obtain ⟨_, _, e⟩ := hTO; exact Heap.lt_size e
      · obtain ⟨o, e, _⟩ := itB_obj q1; exact Heap.lt_size e
      · obtain ⟨o, e, _⟩ := itB_obj q2; exact Heap.lt_size e
    rw [upd_ne (Nat.ne_of_lt (Nat.lt_of_lt_of_le hlt hT))]
    exact f0
  done := by
    intro X hP hw hK hc i pins s σ H E I hf st hg
    subst hP hw hK
    obtain ⟨xs, ys, sx, sy, hi⟩ := hg
    obtain ⟨its, rx, cx⟩ := I.coB sx
    obtain ⟨jts, ry, cy⟩ := I.coB sy
    obtain ⟨hz, hTI, hTO, q1, q2⟩ := st
    have hh : X.A.in1.handled = none := I.ok.hd hc
    have G := GoesN.zip2 (elts := elts) (x1 := kk) (pos := tpos) D (drawsB (prog := X.prog) (w := X.w) (A := X.A.in1) t1 hh i1 a h1 its.toArray) (drawsB (prog := X.prog) (w := X.w) (A := X.A.in1) t2 hh i2 b h2 jts.toArray)
    have lx := rx.length
    have ly := ry.length
    have e : i = min its.toArray.size jts.toArray.size := by simp only [List.size_toArray]; omega
    subst e
    refine G.stops s _ _ ⟨hz, hTI, hTO, ⟨q1, cx⟩, q2, cy⟩ fun h' tk hk htk => ?_
    exact I.turnedL (t' := tk) (ch := [z, TO, i1, i2]) (fun c o hb e => hk c o hb e) (fun c hc' => hf c (by
      simp only [List.mem_cons, List.not_mem_nil, or_false] at hc' ⊢
      rcases hc' with rfl | rfl | rfl | rfl <;> simp))
  self := fun A i s Q E st h => wpAny_pyIter_zip st.1 h
/-- the two arguments, then the walk over them -/
def iZ (K : PySem.W.Frag) (ta tb : TE) : TI := fun σ H R => ta σ H fun v H1 => tb σ H1 fun u H2 => ∃ a b t1 t2 xs ys, v = .ref a ∧ u = .ref b ∧ SqB K t1 H2 a xs ∧ SqB K t2 H2 b ys ∧ R (ItZ K t1 t2 a b) H2
theorem pi_z {e e2 : Expr} {ta tb : TE} {p pos tpos : Pos} {elts : List Expr} {kk : Nat} (hg : Gl X "zip") (hm : X.mg "zip" = none) (ha : PE X e ta) (hb : PE X e2 tb) (h1 : ∀ x p, e ≠ .Starred x p) (h2 : ∀ x p, e2 ≠ .Starred x p) :
    PI X (.Tuple elts kk tpos) (.Call (.Name "zip" p) [e, e2] [] pos) (iZ X.K ta tb) := by
  refine ⟨fun pins s σ H R I h => ?_⟩
  have pa : PA X [e, e2] (fun σ H Q => ta σ H fun v H1 => tb σ H1 fun u H2 => Q [v, u] H2) := pa_cons ha (pa_cons hb pa_nil (starEach_plain h2)) (starEach_plain h1)
  refine Call_ (ld_blt I hg hm PyProof.Rows.boot_zip (PyProof.Rows.callWith_type1 (thn (pa.run pos pins s σ H (fun vs H2 => match vs with | [v, u] => ∃ a b t1 t2 xs ys, v = .ref a ∧ u = .ref b ∧ SqB X.K t1 H2 a xs ∧ SqB X.K t2 H2 b ys ∧ R (ItZ X.K t1 t2 a b) H2 | _ => False) I h) fun us s1 ⟨vs, H1, I1, r1, q1⟩ => ?_) (starEach_plain h1) (star_none (by intro x hx; simp at hx; subst hx; exact h2))))
  obtain ⟨v, u, rfl⟩ : ∃ v u, vs = [v, u] := by
    rcases vs with _ | ⟨v, _ | ⟨u, _ | ⟨x, r⟩⟩⟩
    · exact q1.elim
    · exact q1.elim
    · exact ⟨v, u, rfl⟩
    · exact q1.elim
  obtain ⟨a, b, t1, t2, xs, ys, rfl, rfl, sx, sy, q⟩ := q1
  obtain ⟨v', u', rfl, r, r'⟩ : ∃ v' u', us = [v', u'] ∧ RelV (.ref a) v' ∧ RelV (.ref b) u' := by
    cases r1 with | cons p q => cases q with | cons p' q' => cases q'; exact ⟨_, _, rfl, p, p'⟩
  cases r
  cases r'
  obtain ⟨its, rx, cx⟩ := I1.coB sx
  obtain ⟨jts, ry, cy⟩ := I1.coB sy
  refine zip_begins2 (begB t1 a its.toArray) (begB t2 b jts.toArray) cx cy fun h' hz hTI hTO e1 e2 hsz hk => wpAny_pyIter_zip hz ?_
  have I2 : Inv X pins σ H1 { s1 with heap := h' } := I1.kept (t' := s1.toks) hk
  have la := coB_lt cx
  have lb := coB_lt cy
  have D := zip_sep2 (N := s1.heap.objs.size) (fp1 := [a]) (fp2 := [b]) (by intro x hx; simp at hx; subst hx; exact la) (by intro x hx; simp at hx; subst hx; exact lb)
  refine ⟨s1.heap.objs.size + 4, _, _, ItZ X.K t1 t2 a b, H1, rfl, I2, turnZ D (Nat.ne_of_lt la) (Nat.ne_of_lt (Nat.lt_succ_of_lt lb)) (by intro z; have : s1.heap.objs.size = s1.heap.objs.size + 3 := z; omega), ⟨hz, hTI, ⟨_, _, hTO⟩, itB_new e1, itB_new e2⟩, fun c hc => ?_, q⟩
  have hle : s1.heap.objs.size ≤ c := by
    simp only [List.mem_cons, List.not_mem_nil, or_false] at hc
    rcases hc with e | e | e | e | e <;> (rw [e]; first | exact Nat.le_refl _ | exact Nat.le_add_right _ _)
  exact I1.fpOk hle (I1.hok.fresh hle)

/-! ### enumerate -/
theorem enum_new1 {v : Value} {o : Obj} {Hh : Heap → Prop} (B : Begins v o Hh) :
    Meets (Builtin.«enumerate.__new__» ⟨[.type "enumerate", v], []⟩) (fun _ R s => Hh s.heap ∧
      R (.ok (.ret (.ref (s.heap.push o).objs.size))) { s with heap := (s.heap.push o).push { cls := .type "enumerate", data := .fields #[.none, .bool false, .ref s.heap.objs.size, rawInt 0, .none, .none] } }) :=
  .of_wp fun prog w A R s h => by
    obtain ⟨hp, g, d, tk, os⟩ := s
    obtain ⟨h1, h⟩ := h
    have hsub := sub_enumerate
    have step : ∀ {A' : Around} {E : Value → Shared → Prop} {Q : Value → Shared → Prop}, Q (.ref hp.objs.size) ⟨hp.push o, g, d, tk, os⟩ → wpAny (model prog w) A' (pyIter v) Q E ⟨hp, g, d, tk, os⟩ :=
      fun q => B.iter prog w _ _ ⟨hp, g, d, tk, os⟩ _ h1 q
    wp_walk using step
    refine wpAny_stack_any fun st => wpAny_pure ?_
    split
    · rename_i c _ _ _ _ _
      cases (c == Value.type "enumerate") <;> (wp_walk using step; exact ⟨_, rfl, h⟩)
    · wp_walk using step
      exact ⟨_, rfl, h⟩
theorem enum_begins1 {prog : Program} {w : World} {A : Around} {E : Value → Shared → Prop} {s : Shared} {v : Value} {o : Obj} {Hh : Heap → Prop} {Q : Value → Shared → Prop} (B : Begins v o Hh) (h1 : Hh s.heap)
    (h : ∀ h', IsEnum h' (s.heap.objs.size + 1) s.heap.objs.size 0 .none → h'.get? s.heap.objs.size = some o → h'.objs.size = s.heap.objs.size + 2 →
      (∀ b o, s.heap.get? b = some o → h'.get? b = some o) → Q (.ref (s.heap.objs.size + 1)) { s with heap := h' }) :
    wpAny (model prog w) A (call (.type "enumerate") [v]) Q E s := by
  refine callType_new F.called_enumerate (by decide) (F.typeCall_enumerate_1 _) (F.newCall_enumerate_1 _) (fun obj => F.args_object_init_2 obj _) F.entry_enumerate_new
    (enum_new1 B) ⟨h1, ?_⟩
  have hz : (s.heap.push o).objs.size = s.heap.objs.size + 1 := Heap.size_push ..
  show _ ∧ _
  rw [hz]
  have e0 : (s.heap.push o).get? s.heap.objs.size = some o := Heap.get?_push_size _ B.free
  have he : IsEnum ((s.heap.push o).push { cls := .type "enumerate", data := .fields #[.none, .bool false, .ref s.heap.objs.size, rawInt 0, .none, .none] }) (s.heap.objs.size + 1) s.heap.objs.size 0 .none := by
    have z := Heap.get?_push_size (s.heap.push o) (o := { cls := .type "enumerate", data := .fields #[.none, .bool false, .ref s.heap.objs.size, rawInt 0, .none, .none] }) rfl
    rw [hz] at z
    exact z
  exact ⟨⟨_, he, rfl⟩, h _ he (Heap.get?_push_of_some _ e0) (by rw [Heap.size_push, hz]) fun b o x => Heap.get?_push_of_some _ (Heap.get?_push_of_some _ x)⟩
end
section
variable {X : Cx}
def ItE (K : PySem.W.Frag) (tl : Bool) (a : Addr) : L2.It :=
  ⟨fun i H => ∃ (xs : List V), SqB K tl H a xs ∧ i < xs.length,
    fun i H v H' => ∃ T x, v = .ref T ∧ H T = none ∧ H' = upd H T (.tup [.int (i : Nat), x]) ∧ ∀ xs, SqB K tl H a xs → xs[i]? = some x,
    fun i H => ∃ xs : List V, SqB K tl H a xs ∧ i = xs.length⟩
theorem turnE {P : Program} {w : World} {K : PySem.W.Frag} {elts : List Expr} {kk : Nat} {tpos : Pos} {tl : Bool} {a e it : Addr} (h1 : a ≠ it) (h2 : e ≠ it) (h3 : e ≠ a) :
    Turn P w K (.Tuple elts kk tpos) (ItE K tl a) [e, it] e (fun i h => (∃ old, IsEnum h e it (0 + (i : Int)) old) ∧ ItB tl h it a i) where
  mem := by simp
  obj := by
    intro i h st b hb
    obtain ⟨⟨old, he⟩, q⟩ := st
    have e' : b = e ∨ b = it := by simpa using hb
    rcases e' with rfl | rfl
    · exact ⟨_, he, fun v y => by cases y⟩
    · exact itB_obj q
  keep := by
    intro i h h' st k
    obtain ⟨⟨old, he⟩, q⟩ := st
    exact ⟨⟨old, k e (by simp) _ he⟩, itB_at q (k it (by simp))⟩
  item := by
    intro X hP hw hK hc i pins s σ H E I hf st hg
    subst hP hw hK
    obtain ⟨xs, sx, hi⟩ := hg
    obtain ⟨its, rx, cx⟩ := I.coB sx
    obtain ⟨⟨old, he⟩, q⟩ := st
    have hh : X.A.in1.handled = none := I.ok.hd hc
    have G := GoesN.enumFrom (elts := elts) (x1 := kk) (pos := tpos) 0 (drawsB (prog := X.prog) (w := X.w) (A := X.A.in1) tl hh it a h1 its.toArray) e h2 (by simp [h2, h3]) (by simp)
    have lx := rx.length
    refine G.goes i s _ _ (by simp only [List.size_toArray]; omega) ⟨⟨old, he⟩, q, cx⟩ fun u h' tk hY st' hk htk => ?_
    obtain ⟨T, t, x, rfl, hT, ex, tT⟩ := hY
    obtain ⟨vx, evx, rvx⟩ : ∃ v, xs[i]? = some v ∧ RelV v x := by
      have hlt : i < xs.length := by omega
      obtain ⟨u, e1, e2⟩ := rx.get (i := i) (x := xs[i]) (by simp [hlt])
      have : its[i]? = some x := by simpa using ex
      rw [this] at e1; cases e1
      exact ⟨xs[i], by simp [hlt], e2⟩
    obtain ⟨o, eo, co, n, dn⟩ := tT
    have new : ObjOk X.prog X.w (upd H T (.tup [.int (i : Nat), vx])) h' T (.tup [.int (i : Nat), vx]) := ⟨by show 2 ≤ sizeLine; decide, [.int (0 + (i : Int)) t, x], .cons ⟨t, by rw [Int.zero_add]⟩ (.cons rvx .nil), ⟨o, eo, co, n, dn⟩⟩
    have I1 := I.turnedNew (t' := tk) (ch := [e, it]) (fun c o hb e => hk c o hb e) (fun c hc' => hf c hc') hT new
    obtain ⟨k1, k2, _⟩ := st'
    refine ⟨.ref T, _, I1, rfl, ⟨T, vx, rfl, I.hok.fresh hT, rfl, fun zs hz' => by rw [I.injB hz' sx]; exact evx⟩, ⟨k1, k2⟩, fun c hc' => ?_⟩
    have f0 := (hf c hc').1
    have hlt : c < s.heap.objs.size := by
      have e' : c = e ∨ c = it := by simpa using hc'
      rcases e' with rfl | rfl
      · exact Heap.lt_size he
      · obtain ⟨o, e, _⟩ := itB_obj q; exact Heap.lt_size e
    rw [upd_ne (Nat.ne_of_lt (Nat.lt_of_lt_of_le hlt hT))]
    exact f0
  done := by
    intro X hP hw hK hc i pins s σ H E I hf st hg
    subst hP hw hK
    obtain ⟨xs, sx, hi⟩ := hg
    obtain ⟨its, rx, cx⟩ := I.coB sx
    obtain ⟨⟨old, he⟩, q⟩ := st
    have hh : X.A.in1.handled = none := I.ok.hd hc
    have G := GoesN.enumFrom (elts := elts) (x1 := kk) (pos := tpos) 0 (drawsB (prog := X.prog) (w := X.w) (A := X.A.in1) tl hh it a h1 its.toArray) e h2 (by simp [h2, h3]) (by simp)
    have e0 : i = its.toArray.size := by rw [List.size_toArray, ← rx.length]; exact hi
    subst e0
    refine G.stops s _ _ ⟨⟨old, he⟩, q, cx⟩ fun h' tk hk htk => ?_
    exact I.turnedL (t' := tk) (ch := [e, it]) (fun c o hb e => hk c o hb e) (fun c hc' => hf c hc')
  self := fun A i s Q E st h => let ⟨⟨_, he⟩, _⟩ := st; wpAny_pyIter_enum he h
def iE (K : PySem.W.Frag) (ta : TE) : TI := fun σ H R => ta σ H fun v H1 => ∃ a tl xs, v = .ref a ∧ SqB K tl H1 a xs ∧ R (ItE K tl a) H1
theorem pi_e {e : Expr} {ta : TE} {p pos tpos : Pos} {elts : List Expr} {kk : Nat} (hg : Gl X "enumerate") (hm : X.mg "enumerate" = none) (ha : PE X e ta) (h1 : ∀ x p, e ≠ .Starred x p) :
    PI X (.Tuple elts kk tpos) (.Call (.Name "enumerate" p) [e] [] pos) (iE X.K ta) := by
  refine ⟨fun pins s σ H R I h => ?_⟩
  have pa : PA X [e] (fun σ H Q => ta σ H fun v H1 => Q [v] H1) := pa_cons ha pa_nil (starEach_plain h1)
  refine Call_ (ld_blt I hg hm boot_enumerate (PyProof.Rows.callWith_type1 (thn (pa.run pos pins s σ H (fun vs H2 => match vs with | [v] => ∃ a tl xs, v = .ref a ∧ SqB X.K tl H2 a xs ∧ R (ItE X.K tl a) H2 | _ => False) I h) fun us s1 ⟨vs, H1, I1, r1, q1⟩ => ?_) (starEach_plain h1) rfl))
  obtain ⟨v, rfl⟩ : ∃ v, vs = [v] := by
    rcases vs with _ | ⟨v, _ | ⟨u, r⟩⟩
    · exact q1.elim
    · exact ⟨v, rfl⟩
    · exact q1.elim
  obtain ⟨a, tl, xs, rfl, sx, q⟩ := q1
  obtain ⟨v', rfl, r⟩ : ∃ v', us = [v'] ∧ RelV (.ref a) v' := by
    cases r1 with | cons p q => cases q; exact ⟨_, rfl, p⟩
  cases r
  obtain ⟨its, rx, cx⟩ := I1.coB sx
  refine enum_begins1 (begB tl a its.toArray) cx fun h' he e1 hsz hk => wpAny_pyIter_enum he ?_
  have I2 : Inv X pins σ H1 { s1 with heap := h' } := I1.kept (t' := s1.toks) hk
  have la := coB_lt cx
  refine ⟨s1.heap.objs.size + 1, _, _, ItE X.K tl a, H1, rfl, I2, turnE (Nat.ne_of_lt la) (Nat.succ_ne_self _) (Nat.ne_of_gt (Nat.lt_succ_of_lt la)), ⟨⟨_, by
    show IsEnum h' _ _ (0 + ((0 : Nat) : Int)) _
    exact he⟩, itB_new e1⟩, fun c hc => ?_, q⟩
  have hle : s1.heap.objs.size ≤ c := by
    simp only [List.mem_cons, List.not_mem_nil, or_false] at hc
    rcases hc with e | e <;> (rw [e]; first | exact Nat.le_refl _ | exact Nat.le_add_right _ _)
  exact I1.fpOk hle (I1.hok.fresh hle)

/-! ### a list or a tuple itself -/
def ItS (K : PySem.W.Frag) (tl : Bool) (a : Addr) : L2.It := if tl = true then Itt K a else Itl K a
def iS (K : PySem.W.Frag) (ta : TE) : TI := fun σ H R => ta σ H fun v H1 => ∃ a tl xs, v = .ref a ∧ SqB K tl H1 a xs ∧ R (ItS K tl a) H1
theorem pi_s {tg e : Expr} {ta : TE} (ha : PE X e ta) : PI X tg e (iS X.K ta) := by
  refine ⟨fun pins s σ H R I h => ?_⟩
  refine thn (ha.run pins s σ H _ I h) fun v s1 ⟨x, H1, I1, r1, a, tl, xs, ex, hq, q⟩ => ?_
  subst ex
  cases r1
  cases tl with
  | true =>
    obtain ⟨its, rv, p, hz⟩ := I1.tuple hq
    refine wpAny_pyIter_tuple (show s1.heap.IsTuple a its.toArray from p) ?_
    refine ⟨s1.heap.objs.size, [s1.heap.objs.size], _, _, H1, rfl, I1.kept (t' := s1.toks) fun b o e => Heap.get?_push_of_some _ e, turn_tuple a _, ⟨_, Heap.get?_push_size _ rfl, rfl, rfl⟩, fun b hb => ?_, q⟩
    have e : b = s1.heap.objs.size := by simpa using hb
    rw [e]
    exact I1.fpOk (Nat.le_refl _) (I1.hok.fresh (Nat.le_refl _))
  | false =>
    obtain ⟨its, rv, p, hz⟩ := I1.list hq
    refine wpAny_pyIter_list p.isList ?_
    refine ⟨s1.heap.objs.size, [s1.heap.objs.size], _, _, H1, rfl, I1.kept (t' := s1.toks) fun b o e => Heap.get?_push_of_some _ e, turn_list a _, ⟨_, Heap.get?_push_size _ rfl, rfl, rfl⟩, fun b hb => ?_, q⟩
    have e : b = s1.heap.objs.size := by simpa using hb
    rw [e]
    exact I1.fpOk (Nat.le_refl _) (I1.hok.fresh (Nat.le_refl _))
end
end Kq
set_option Elab.async false
set_option linter.all false
set_option maxRecDepth 100000
set_option maxHeartbeats 2000000
set_option autoImplicit false
/-! # The Q layer, part H: items walked; for; comprehensions -/
namespace Kq
open PySem PySem.Spec PyProof.Rows L2

/-- the iterator J hands out the data ds, one by one, as long as g stands -/
def Wk (kn : Kn) (ρ0 : List Addr) (H0 : Hp) (g : Gd) (ds : List D) (J : L2.It) : Prop :=
  ∃ (G : Hp → Prop) (Y : Nat → Hp → V → Hp → Prop), Walk J ds.length G Y ∧
    (∀ ρ1 H1 S1, Gr ρ0 ρ1 H0 H1 → Rel kn ρ1 H1 S1 → stands g S1 → G H1) ∧
    (∀ (i : Nat) (d : D) (x : V) ρ1 H1 S1 H2, Gr ρ0 ρ1 H0 H1 → Rel kn ρ1 H1 S1 → stands g S1 → ds[i]? = some d → Y i H1 x H2 → Gr ρ1 ρ1 H1 H2 ∧ Rel kn ρ1 H2 S1 ∧ Rep kn ρ1 H2 d x)
/-- a source: what stands at a is the data ds -/
def Src (kn : Kn) (ρ0 : List Addr) (H0 : Hp) (g : Gd) (ds : List D) (tl : Bool) (a : Addr) : Prop :=
  ∀ ρ1 H1 S1, Gr ρ0 ρ1 H0 H1 → Rel kn ρ1 H1 S1 → stands g S1 → ∃ xs, SqB kn.K tl H1 a xs ∧ Reps kn ρ1 H1 ds xs
section
variable {kn : Kn} {ρ : List Addr} {H : Hp} {S : Sto}
theorem Src.gr {ρ1 : List Addr} {H1 : Hp} {g : Gd} {ds : List D} {tl : Bool} {a : Addr} (h : Src kn ρ H g ds tl a) (k : Gr ρ ρ1 H H1) : Src kn ρ1 H1 g ds tl a :=
  fun ρ2 H2 S2 g2 rl st => h ρ2 H2 S2 (k.trans g2) rl st
theorem src_of {d : D} {v : V} {g : Gd} {ds : List D} (rl : Rel kn ρ H S) (r : Rep kn ρ H d v) (h : srcD d S = some (g, ds)) : stands g S ∧ ∃ a tl xs, v = .ref a ∧ SqB kn.K tl H a xs ∧ Src kn ρ H g ds tl a := by
  cases d with
  | tup es =>
    have e : ([], es) = (g, ds) := by simpa [srcD] using h
    cases e
    obtain ⟨a, xs, rfl, h1, h2⟩ := r.tup_inv
    exact ⟨fun p hp => by simp at hp, a, true, xs, rfl, h1, fun ρ1 H1 S1 g1 rl1 _ => ⟨xs, SqT.fix h1 g1.fix, h2.gr g1⟩⟩
  | ref n =>
    cases e : S[n]? with
    | none => simp [srcD, e] at h
    | some o =>
      cases o with
      | ins c fs => simp [srcD, e] at h
      | rng i j c => simp [srcD, e] at h
      | lst mu es =>
        have e' : ([(n, Ob.lst mu es)], es) = (g, ds) := by simpa [srcD, e] using h
        cases e'
        obtain ⟨a, xs, rfl, ha, h1, h2, _⟩ := rl.isLst r e
        refine ⟨fun p hp => by simp at hp; subst hp; exact e, a, false, xs, rfl, h1, fun ρ1 H1 S1 g1 rl1 st => ?_⟩
        have e1 := st (n, Ob.lst mu _) (List.mem_singleton.mpr rfl)
        have r1 : Rep kn ρ1 H1 (.ref n) (.ref a) := .ref (pre_get g1.pre ha)
        obtain ⟨b, ys, eb, _, q1, q2, _⟩ := rl1.isLst r1 e1
        cases eb
        exact ⟨ys, q1, q2⟩
  | _ => simp [srcD] at h
/-- a list that nobody names stands by itself -/
theorem src_new {a : Addr} {xs : List V} {ds : List D} (ha : H a = some (.lst xs)) (np : a ∉ ρ) (r : Reps kn ρ H ds xs) : Src kn ρ H [] ds false a :=
  fun ρ1 H1 S1 g1 rl1 _ => ⟨xs, SqL.of (g1.oth a _ ha np), r.gr g1⟩
theorem Src.wk {g : Gd} {ds : List D} {tl : Bool} {a : Addr} (h : Src kn ρ H g ds tl a) : Wk kn ρ H g ds (ItS kn.K tl a) := by
  refine ⟨fun H1 => ∃ xs, SqB kn.K tl H1 a xs ∧ xs.length = ds.length, fun i H1 x H2 => H2 = H1 ∧ ∀ xs, SqB kn.K tl H1 a xs → xs[i]? = some x, ?_, fun ρ1 H1 S1 g1 rl st => ?_, fun i d x ρ1 H1 S1 H2 g1 rl st hd hy => ?_⟩
  · cases tl with
    | true =>
      refine ⟨fun i H1 hi ⟨xs, hx, hl⟩ => ?_, fun H1 ⟨xs, hx, hl⟩ => ⟨xs, hx, by omega⟩, fun i H1 x H2 hi _ y => y⟩
      exact ⟨xs, xs[i]'(by omega), hx, by simp [show i < xs.length by omega]⟩
    | false =>
      refine ⟨fun i H1 hi ⟨xs, hx, hl⟩ => ?_, fun H1 ⟨xs, hx, hl⟩ => ⟨xs, hx, by omega⟩, fun i H1 x H2 hi _ y => y⟩
      exact ⟨xs, xs[i]'(by omega), hx, by simp [show i < xs.length by omega]⟩
  · obtain ⟨xs, h1, h2⟩ := h ρ1 H1 S1 g1 rl st
    exact ⟨xs, h1, h2.length.symm⟩
  · obtain ⟨e, hy⟩ := hy
    subst e
    obtain ⟨xs, h1, h2⟩ := h ρ1 H2 S1 g1 rl st
    obtain ⟨v, e1, e2⟩ := h2.get hd
    rw [hy xs h1] at e1
    cases e1
    exact ⟨.refl, rl, e2⟩
theorem rng_wk {lo : Int} {n : Nat} : Wk kn ρ H [] ((List.range n).map fun i => .int (lo + Int.ofNat i)) (Itr lo n) := by
  refine ⟨fun _ => True, YFn fun i => .int (lo + i), by rw [List.length_map, List.length_range]; exact walk_range, fun _ _ _ _ _ _ => trivial, fun i d x ρ1 H1 S1 H2 g1 rl st hd hy => ?_⟩
  obtain ⟨e, hy⟩ := hy
  subst e hy
  rw [List.getElem?_map] at hd
  cases e : (List.range n)[i]? with
  | none => rw [e] at hd; cases hd
  | some j =>
    rw [e] at hd
    have hj : j = i := by
      have := List.getElem?_eq_some_iff.mp e
      obtain ⟨h1, h2⟩ := this
      rw [List.getElem_range] at h2
      exact h2.symm
    subst hj
    cases hd
    exact ⟨.refl, rl, .int⟩
theorem rngC_wk {lo c : Int} {n : Nat} : Wk kn ρ H [] ((List.range n).map fun i => .int (lo + Int.ofNat i * c)) (Itc lo c n) := by
  refine ⟨fun _ => True, YFn fun i => .int (lo + (i : Nat) * c), by rw [List.length_map, List.length_range]; exact walk_rangeC, fun _ _ _ _ _ _ => trivial, fun i d x ρ1 H1 S1 H2 g1 rl st hd hy => ?_⟩
  obtain ⟨e, hy⟩ := hy
  subst e hy
  rw [List.getElem?_map] at hd
  cases e : (List.range n)[i]? with
  | none => rw [e] at hd; cases hd
  | some j =>
    rw [e] at hd
    have hj : j = i := by
      have := List.getElem?_eq_some_iff.mp e
      obtain ⟨h1, h2⟩ := this
      rw [List.getElem_range] at h2
      exact h2.symm
    subst hj
    cases hd
    exact ⟨.refl, rl, .int⟩
theorem zip_wk {g g' : Gd} {ds es : List D} {t1 t2 : Bool} {a b : Addr} (h : Src kn ρ H g ds t1 a) (h' : Src kn ρ H g' es t2 b) : Wk kn ρ H (g ++ g') ((ds.zip es).map fun p => .tup [p.1, p.2]) (ItZ kn.K t1 t2 a b) := by
  have sp : ∀ {S : Sto}, stands (g ++ g') S → stands g S ∧ stands g' S := fun {S} st => ⟨fun p hp => st p (List.mem_append_left _ hp), fun p hp => st p (List.mem_append_right _ hp)⟩
  refine ⟨fun H1 => ∃ xs ys, SqB kn.K t1 H1 a xs ∧ SqB kn.K t2 H1 b ys ∧ xs.length = ds.length ∧ ys.length = es.length, (ItZ kn.K t1 t2 a b).yld, ?_, fun ρ1 H1 S1 g1 rl st => ?_, fun i d x ρ1 H1 S1 H2 g1 rl st hd hy => ?_⟩
  · rw [List.length_map, List.length_zip]
    exact ⟨fun i H1 hi ⟨xs, ys, hx, hy, l1, l2⟩ => ⟨xs, ys, hx, hy, by rw [l1, l2]; exact hi⟩, fun H1 ⟨xs, ys, hx, hy, l1, l2⟩ => ⟨xs, ys, hx, hy, by rw [l1, l2]⟩, fun i H1 x H2 hi _ y => y⟩
  · obtain ⟨xs, h1, h2⟩ := h ρ1 H1 S1 g1 rl (sp st).1
    obtain ⟨ys, h3, h4⟩ := h' ρ1 H1 S1 g1 rl (sp st).2
    exact ⟨xs, ys, h1, h3, h2.length.symm, h4.length.symm⟩
  · obtain ⟨T, x, y, rfl, hT, rfl, ex, ey⟩ := hy
    obtain ⟨xs, h1, h2⟩ := h ρ1 H1 S1 g1 rl (sp st).1
    obtain ⟨ys, h3, h4⟩ := h' ρ1 H1 S1 g1 rl (sp st).2
    rw [List.getElem?_map] at hd
    cases e : (ds.zip es)[i]? with
    | none => rw [e] at hd; cases hd
    | some p =>
      rw [e] at hd
      cases hd
      obtain ⟨e1, e2⟩ := List.getElem?_zip_eq_some.mp e
      obtain ⟨v, q1, q2⟩ := h2.get e1
      obtain ⟨u, q3, q4⟩ := h4.get e2
      rw [ex xs h1] at q1; cases q1
      rw [ey ys h3] at q3; cases q3
      refine ⟨Gr.lay hT, rl.lay hT, .tup (SqT.of upd_same) ?_⟩
      have gg := Gr.lay (ρ := ρ1) (o := .tup [x, y]) hT
      exact .cons (q2.gr gg) (.cons (q4.gr gg) .nil)
theorem enm_wk {g : Gd} {ds : List D} {tl : Bool} {a : Addr} (h : Src kn ρ H g ds tl a) : Wk kn ρ H g ((ds.zipIdx).map fun p => .tup [.int (Int.ofNat p.2), p.1]) (ItE kn.K tl a) := by
  refine ⟨fun H1 => ∃ xs, SqB kn.K tl H1 a xs ∧ xs.length = ds.length, (ItE kn.K tl a).yld, ?_, fun ρ1 H1 S1 g1 rl st => ?_, fun i d x ρ1 H1 S1 H2 g1 rl st hd hy => ?_⟩
  · rw [List.length_map, List.length_zipIdx]
    exact ⟨fun i H1 hi ⟨xs, hx, l1⟩ => ⟨xs, hx, by rw [l1]; exact hi⟩, fun H1 ⟨xs, hx, l1⟩ => ⟨xs, hx, l1.symm⟩, fun i H1 x H2 hi _ y => y⟩
  · obtain ⟨xs, h1, h2⟩ := h ρ1 H1 S1 g1 rl st
    exact ⟨xs, h1, h2.length.symm⟩
  · obtain ⟨T, x, rfl, hT, rfl, ex⟩ := hy
    obtain ⟨xs, h1, h2⟩ := h ρ1 H1 S1 g1 rl st
    rw [List.getElem?_map, List.getElem?_zipIdx] at hd
    cases e : ds[i]? with
    | none => rw [e] at hd; cases hd
    | some p =>
      rw [e] at hd
      cases hd
      obtain ⟨v, q1, q2⟩ := h2.get e
      rw [ex xs h1] at q1; cases q1
      have gg := Gr.lay (ρ := ρ1) (o := .tup [.int (i : Nat), x]) hT
      refine ⟨gg, rl.lay hT, .tup (SqT.of upd_same) ?_⟩
      have e0 : (0 + i : Nat) = i := Nat.zero_add i
      show Reps kn ρ1 _ [D.int (Int.ofNat (0 + i)), p] _
      rw [e0]
      exact .cons .int (.cons (q2.gr gg) .nil)
end

/-- what is asked of a walk -/
def PostI (kn : Kn) (W : WX) (σ : L2.St) (ρ : List Addr) (H : Hp) (r : R (Gd × List D)) (Rj : L2.It → Hp → Prop) : Prop := match r with
  | .no => False
  | .ok p S' => ∀ J H' ρ', Gr ρ ρ' H H' → Rel kn ρ' H' S' → stands p.1 S' → Wk kn ρ' H' p.1 p.2 J → Rj J H'
  | .err x fs S' => ∀ cv dx H' ρ', Gr ρ ρ' H H' → Rel kn ρ' H' S' → XcR kn ρ' H' x fs cv dx → W cv dx σ H'
def liftI (kn : Kn) (W : WX) (t : Sl → Sto → R (Gd × List D)) : TI := fun σ H Rj => ∃ ρ σd S, Rel kn ρ H S ∧ RepEnv kn ρ H σd σ ∧ PostI kn W σ ρ H (t σd S) Rj
section
variable {X : Cx} {kn : Kn} {W : WX} {tg e e2 : Expr}
theorem PI.imp {t t' : TI} (h : PI X tg e t) (i : ∀ σ H Q, t' σ H Q → t σ H Q) : PI X tg e t' := ⟨fun pins s σ H Q I q => h.run pins s σ H Q I (i σ H Q q)⟩
theorem PostE.bindI {σ : L2.St} {ρ : List Addr} {H : Hp} {r : R D} {k : D → Sto → R (Gd × List D)} {Q : L2.It → Hp → Prop} (h : PostI kn W σ ρ H (r.bind k) Q) :
    PostE kn W σ ρ H r (fun v H1 => ∃ ρ1 d S1, Gr ρ ρ1 H H1 ∧ Rel kn ρ1 H1 S1 ∧ Rep kn ρ1 H1 d v ∧ PostI kn W σ ρ1 H1 (k d S1) Q) := by
  cases r with
  | no => exact h
  | ok d S =>
    intro v H' ρ' g rl rp
    refine ⟨ρ', d, S, g, rl, rp, ?_⟩
    rw [R.bind_ok] at h
    cases e : k d S with
    | no => rw [e] at h; exact h
    | ok p S' => rw [e] at h; exact fun J H2 ρ2 g2 => h J H2 ρ2 (g.trans g2)
    | err x fs S' => rw [e] at h; exact fun cv dx H2 ρ2 g2 => h cv dx H2 ρ2 (g.trans g2)
  | err x fs S => exact h
def iSR (K : PySem.W.Frag) (ta : TE) : TI := fun σ H R => ta σ H fun v H1 => (∃ a tl xs, v = .ref a ∧ SqB K tl H1 a xs ∧ R (ItS K tl a) H1) ∨ ∃ (p : Addr) (i j c : Int), v = .ref p ∧ H1 p = some (rngO p i j c) ∧ rgOk i j c = true ∧ R (Itc i c (rgN i j c)) H1
theorem pi_sr {ta : TE} (ha : PE X e ta) : PI X tg e (iSR X.K ta) := by
  refine ⟨fun pins s σ H R I h => ?_⟩
  refine thn (ha.run pins s σ H _ I h) fun v s1 ⟨x, H1, I1, r1, q⟩ => ?_
  rcases q with ⟨a, tl, xs, ex, hq, q⟩ | ⟨p, i, j, c, ex, hp, ok, q⟩
  · subst ex
    cases r1
    cases tl with
    | true =>
      obtain ⟨its, rv, p, hz⟩ := I1.tuple hq
      refine wpAny_pyIter_tuple (show s1.heap.IsTuple a its.toArray from p) ?_
      refine ⟨s1.heap.objs.size, [s1.heap.objs.size], _, _, H1, rfl, I1.kept (t' := s1.toks) fun b o e => Heap.get?_push_of_some _ e, turn_tuple a _, ⟨_, Heap.get?_push_size _ rfl, rfl, rfl⟩, fun b hb => ?_, q⟩
      have e : b = s1.heap.objs.size := by simpa using hb
      rw [e]
      exact I1.fpOk (Nat.le_refl _) (I1.hok.fresh (Nat.le_refl _))
    | false =>
      obtain ⟨its, rv, p, hz⟩ := I1.list hq
      refine wpAny_pyIter_list p.isList ?_
      refine ⟨s1.heap.objs.size, [s1.heap.objs.size], _, _, H1, rfl, I1.kept (t' := s1.toks) fun b o e => Heap.get?_push_of_some _ e, turn_list a _, ⟨_, Heap.get?_push_size _ rfl, rfl, rfl⟩, fun b hb => ?_, q⟩
      have e : b = s1.heap.objs.size := by simpa using hb
      rw [e]
      exact I1.fpOk (Nat.le_refl _) (I1.hok.fresh (Nat.le_refl _))
  · subst ex
    cases r1
    obtain ⟨t, u, w, hr⟩ := rngO_at I1.hok hp
    obtain ⟨e0, hn⟩ := rgN_size ok
    refine wpAny_pyIter_range hr (small_of ok) ?_
    refine pi_one (tk := s1.toks) I1 _ (turn_rangeC _ i c (rgN i j c)) ?_ q
    have e1 : i + ((0 : Nat) : Int) * c = i := by simp
    have e2 : (rgN i j c : Int) - ((0 : Nat) : Int) = Builtin.Range.rangeSize i j c := by rw [e0]; simp
    show IsRangeIter _ _ (i + ((0 : Nat) : Int) * c) ((rgN i j c : Int) - ((0 : Nat) : Int)) c
    rw [e1, e2]
    exact Heap.get?_push_size _ rfl
theorem qi_ex {ta : Sl → Sto → R D} (hK : kn.K = X.K) (ha : PE X e (liftE kn W ta)) : PI X tg e (liftI kn W fun σ S => (ta σ S).bind itG) := by
  refine PI.imp (pi_sr ha) fun σ H Q ⟨ρ, σd, S, rl, re, h⟩ => ⟨ρ, σd, S, rl, re, (PostE.bindI h).mono fun v H1 ⟨ρ1, d, S1, g1, rl1, r1, h1⟩ => ?_⟩
  unfold itG at h1
  split at h1
  · rename_i p hp
    obtain ⟨st, a, tl, xs, rfl, sq, src⟩ := src_of (g := p.1) (ds := p.2) rl1 r1 hp
    rw [← hK]
    exact .inl ⟨a, tl, xs, rfl, sq, h1 _ H1 ρ1 .refl rl1 st src.wk⟩
  · split at h1
    · rename_i z hz
      obtain ⟨i, j, c⟩ := z
      unfold rgO at hz
      split at hz
      · split at hz
        · rename_i i' j' c' hn
          cases hz
          obtain ⟨p, rfl, hp⟩ := r1.ref_inv
          obtain ⟨o1, o2⟩ := rl1.obj _ p _ hp hn
          exact .inr ⟨p, i, j, c, rfl, o1, o2, h1 _ H1 ρ1 .refl rl1 (fun p hp => by simp at hp) (by
            have := rngC_wk (kn := kn) (ρ := ρ1) (H := H1) (lo := i) (c := c) (n := rgN i j c)
            unfold rgL
            exact this)⟩
        · cases hz
      · cases hz
    · exact h1.elim
theorem qi_tmp {t : Sl → Sto → R (List D)} (hK : kn.K = X.K) (ha : QN X kn W e t) : PI X tg e (liftI kn W fun σ S => (t σ S).bind fun ds S1 => .ok ([], ds) S1) := by
  refine PI.imp (pi_s ha) fun σ H Q ⟨ρ, σd, S, rl, re, h⟩ => ⟨ρ, σd, S, rl, re, ?_⟩
  try dsimp only at h
  cases e1 : t σd S with
  | no => rw [e1] at h; exact h
  | err x fs S' => rw [e1] at h; exact h
  | ok ds S' =>
    rw [e1] at h
    intro a xs H' ρ' g rl' ha np hn r
    rw [← hK]
    exact ⟨a, false, xs, rfl, SqL.of ha, h _ H' ρ' g rl' (fun p hp => by simp at hp) (src_new ha np r).wk⟩
theorem qi_zip {ta tb : Sl → Sto → R D} {p pos tpos : Pos} {elts : List Expr} {kk : Nat} (hK : kn.K = X.K) (bl : Blt X "zip" (.type "zip")) (ha : PE X e (liftE kn W ta)) (hb : PE X e2 (liftE kn W tb)) (h1 : ∀ x p, e ≠ .Starred x p) (h2 : ∀ x p, e2 ≠ .Starred x p) :
    PI X (.Tuple elts kk tpos) (.Call (.Name "zip" p) [e, e2] [] pos) (liftI kn W fun σ S => (ta σ S).bind fun x S1 => (tb σ S1).bind fun y S2 => zipD x y S2) := by
  refine PI.imp (pi_z bl.gl bl.mg ha hb h1 h2) fun σ H Q ⟨ρ, σd, S, rl, re, h⟩ => ⟨ρ, σd, S, rl, re, (PostE.bindI h).mono fun v H1 ⟨ρ1, d, S1, g1, rl1, r1, h1⟩ => ?_⟩
  refine ⟨ρ1, σd, S1, rl1, re.gr g1, (PostE.bindI h1).mono fun u H2 ⟨ρ2, d2, S2, g2, rl2, r2, h2⟩ => ?_⟩
  unfold zipD at h2
  split at h2
  · rename_i p q hp hq
    obtain ⟨st, a, tl, xs, rfl, sq, src⟩ := src_of (g := p.1) (ds := p.2) rl2 (r1.gr g2) hp
    obtain ⟨st', b, tl', ys, rfl, sq', src'⟩ := src_of (g := q.1) (ds := q.2) rl2 r2 hq
    rw [← hK]
    exact ⟨a, b, tl, tl', xs, ys, rfl, rfl, sq, sq', h2 _ H2 ρ2 .refl rl2 (fun z hz => (List.mem_append.mp hz).elim (st z) (st' z)) (zip_wk src src')⟩
  · exact h2.elim
theorem qi_enm {ta : Sl → Sto → R D} {p pos tpos : Pos} {elts : List Expr} {kk : Nat} (hK : kn.K = X.K) (bl : Blt X "enumerate" (.type "enumerate")) (ha : PE X e (liftE kn W ta)) (h1 : ∀ x p, e ≠ .Starred x p) :
    PI X (.Tuple elts kk tpos) (.Call (.Name "enumerate" p) [e] [] pos) (liftI kn W fun σ S => (ta σ S).bind enmD) := by
  refine PI.imp (pi_e bl.gl bl.mg ha h1) fun σ H Q ⟨ρ, σd, S, rl, re, h⟩ => ⟨ρ, σd, S, rl, re, (PostE.bindI h).mono fun v H1 ⟨ρ1, d, S1, g1, rl1, r1, h1⟩ => ?_⟩
  unfold enmD at h1
  split at h1
  · rename_i p hp
    obtain ⟨st, a, tl, xs, rfl, sq, src⟩ := src_of (g := p.1) (ds := p.2) rl1 r1 hp
    rw [← hK]
    exact ⟨a, tl, xs, rfl, sq, h1 _ H1 ρ1 .refl rl1 st (enm_wk src)⟩
  · exact h1.elim
theorem PostA.bindI {σ : L2.St} {ρ : List Addr} {H : Hp} {r : R (List D)} {k : List D → Sto → R (Gd × List D)} {Q : L2.It → Hp → Prop} (h : PostI kn W σ ρ H (r.bind k) Q) :
    PostA kn W σ ρ H r (fun v H1 => ∃ ρ1 d S1, Gr ρ ρ1 H H1 ∧ Rel kn ρ1 H1 S1 ∧ Reps kn ρ1 H1 d v ∧ PostI kn W σ ρ1 H1 (k d S1) Q) := by
  cases r with
  | no => exact h
  | ok d S =>
    intro v H' ρ' g rl rp
    refine ⟨ρ', d, S, g, rl, rp, ?_⟩
    rw [R.bind_ok] at h
    cases e : k d S with
    | no => rw [e] at h; exact h
    | ok p S' => rw [e] at h; exact fun J H2 ρ2 g2 => h J H2 ρ2 (g.trans g2)
    | err x fs S' => rw [e] at h; exact fun cv dx H2 ρ2 g2 => h cv dx H2 ρ2 (g.trans g2)
  | err x fs S => exact h
theorem qi_rng1 {a : Expr} {t : Sl → Sto → R (List D)} {p pos : Pos} (bl : Blt X "range" (.type "range")) (ha : QA X kn W [a] t) (h1 : ∀ x p, a ≠ .Starred x p) (hl : Long t 1) :
    PI X tg (.Call (.Name "range" p) [a] [] pos) (liftI kn W fun σ S => (t σ S).bind rngD) := by
  refine PI.imp (pi_range1 bl.gl bl.mg ha (starEach_plain h1)) fun σ H Q ⟨ρ, σd, S, rl, re, h⟩ => ⟨ρ, σd, S, rl, re, ?_⟩
  have bg : (big : Int) = 1000000 := rfl
  have h' := PostA.bindI h
  cases e1 : t σd S with
  | no => rw [e1] at h'; exact h'
  | err x fs S' => rw [e1] at h'; exact h'
  | ok ds S' =>
    have l := hl _ _ _ _ e1
    rw [e1] at h'
    intro vs H1 ρ1 g1 rl1 r1
    obtain ⟨ρ2, ds2, S2, g2, rl2, r2, h2⟩ := h' vs H1 ρ1 g1 rl1 r1
    have l2 : ds2.length = 1 := by rw [r2.length, ← r1.length]; exact l
    unfold rngD at h2
    split at h2
    · split at h2
      · rename_i n hn
        rw [bg] at hn
        obtain ⟨v, rfl, q⟩ := r2.one
        cases q
        refine ⟨n, rfl, by omega, by omega, h2 _ H1 ρ2 .refl rl2 (fun p hp => by simp at hp) ?_⟩
        have := rng_wk (kn := kn) (ρ := ρ2) (H := H1) (lo := 0) (n := n.toNat)
        simpa using this
      · exact h2.elim
    · simp at l2
    · simp at l2
    · exact h2.elim
theorem qi_rng3 {a b c : Expr} {t : Sl → Sto → R (List D)} {p pos : Pos} (bl : Blt X "range" (.type "range")) (ha : QA X kn W [a, b, c] t) (h1 : ∀ x p, a ≠ .Starred x p) (h2 : ∀ x p, b ≠ .Starred x p) (h3 : ∀ x p, c ≠ .Starred x p) (hl : Long t 3) :
    PI X tg (.Call (.Name "range" p) [a, b, c] [] pos) (liftI kn W fun σ S => (t σ S).bind rngD) := by
  refine PI.imp (pi_range3 bl.gl bl.mg ha (by rw [starEach_plain h1]) (by rw [starEach_plain h2, starEach_plain h3]; rfl)) fun σ H Q ⟨ρ, σd, S, rl, re, h⟩ => ⟨ρ, σd, S, rl, re, ?_⟩
  have h' := PostA.bindI h
  cases e1 : t σd S with
  | no => rw [e1] at h'; exact h'
  | err x fs S' => rw [e1] at h'; exact h'
  | ok ds S' =>
    have l := hl _ _ _ _ e1
    rw [e1] at h'
    intro vs H1 ρ1 g1 rl1 r1
    obtain ⟨ρ2, ds2, S2, g2, rl2, r2, h2⟩ := h' vs H1 ρ1 g1 rl1 r1
    have l2 : ds2.length = 3 := by rw [r2.length, ← r1.length]; exact l
    unfold rngD at h2
    split at h2
    · simp at l2
    · split at h2
      · rename_i m n c ok
        match vs, r2 with
        | [_, _, _], .cons q1 (.cons q2 (.cons q3 .nil)) =>
          cases q1; cases q2; cases q3
          obtain ⟨k1, k2, k3, k4, k5, k6⟩ := rgOk_ok ok
          refine ⟨m, n, c, rgN m n c, rfl, ⟨by omega, by omega, small_of ok, (rgN_size ok).1⟩, h2 _ H1 ρ2 .refl rl2 (fun p hp => by simp at hp) ?_⟩
          unfold rgL
          exact rngC_wk
      · exact h2.elim
    · simp at l2
    · exact h2.elim
theorem qi_rng2 {a b : Expr} {t : Sl → Sto → R (List D)} {p pos : Pos} (bl : Blt X "range" (.type "range")) (ha : QA X kn W [a, b] t) (h1 : ∀ x p, a ≠ .Starred x p) (h2 : ∀ x p, b ≠ .Starred x p) (hl : Long t 2) :
    PI X tg (.Call (.Name "range" p) [a, b] [] pos) (liftI kn W fun σ S => (t σ S).bind rngD) := by
  refine PI.imp (pi_range2 bl.gl bl.mg ha (by rw [starEach_plain h1, starEach_plain h2]; rfl) (starEach_plain h2)) fun σ H Q ⟨ρ, σd, S, rl, re, h⟩ => ⟨ρ, σd, S, rl, re, ?_⟩
  have bg : (big : Int) = 1000000 := rfl
  have h' := PostA.bindI h
  cases e1 : t σd S with
  | no => rw [e1] at h'; exact h'
  | err x fs S' => rw [e1] at h'; exact h'
  | ok ds S' =>
    have l := hl _ _ _ _ e1
    rw [e1] at h'
    intro vs H1 ρ1 g1 rl1 r1
    obtain ⟨ρ2, ds2, S2, g2, rl2, r2, h2⟩ := h' vs H1 ρ1 g1 rl1 r1
    have l2 : ds2.length = 2 := by rw [r2.length, ← r1.length]; exact l
    unfold rngD at h2
    split at h2
    · simp at l2
    · simp at l2
    · split at h2
      · rename_i m n hn
        rw [bg] at hn
        obtain ⟨v, u, rfl, q, q'⟩ := r2.two
        cases q
        cases q'
        exact ⟨m, n, rfl, ⟨by omega, by omega, by omega, by omega⟩, h2 _ H1 ρ2 .refl rl2 (fun p hp => by simp at hp) rng_wk⟩
      · exact h2.elim
    · exact h2.elim
end

/-! ### targets -/
section
variable {X : Cx} {kn : Kn}
mutual
/-- a target's expression, compiled -/
inductive TgOk (X : Cx) : Expr → Tg → Prop
  | nm {i : Nat} {x : Str} {pos : Pos} : X.N[i]? = some x → Loc X.env.scope x → (X.fn x = true ∨ X.env.scope.names.lookup x = some .local) → TgOk X (.Name x pos) (.nm i)
  | tp {es : List Expr} {ts : Tgs} {k : Nat} {pos : Pos} : TgsOk X es ts → TgOk X (.Tuple es k pos) (.tp ts)
inductive TgsOk (X : Cx) : List Expr → Tgs → Prop
  | nil : TgsOk X [] .nil
  | cons {e : Expr} {t : Tg} {es : List Expr} {ts : Tgs} : (∀ x p, e ≠ .Starred x p) → TgOk X e t → TgsOk X es ts → TgsOk X (e :: es) (.cons t ts)
end
def Tgs.len : Tgs → Nat
  | .nil => 0
  | .cons _ r => r.len + 1
mutual
def tgR (K : PySem.W.Frag) : Tg → TG
  | .nm i => gName i
  | .tp ts => gTup K ts.len (tgsR K ts)
def tgsR (K : PySem.W.Frag) : Tgs → TGs
  | .nil => gNil
  | .cons t r => gCons (tgR K t) (tgsR K r)
end
theorem assignEach_plain {a : Expr} {r : List Expr} {env : Env} (h : ∀ x p, a ≠ .Starred x p) : assignEach (a :: r) env = (false, assign a env) :: assignEach r env := by
  cases a <;> first | rfl | exact absurd rfl (h _ _)
mutual
theorem TgOk.pg (hN : X.N.Nodup) (hc : X.calm = true) : ∀ {e : Expr} {t : Tg}, TgOk X e t → PG X e (tgR X.K t)
  | _, _, .nm h1 h2 h3 => pg_name hN h1 h2 h3
  | _, _, .tp h => by
    obtain ⟨h1, h2, h3⟩ := TgsOk.pgs hN hc h
    exact pg_tup hc h1 h2 h3
theorem TgsOk.pgs (hN : X.N.Nodup) (hc : X.calm = true) : ∀ {es : List Expr} {ts : Tgs}, TgsOk X es ts → PGs X es (tgsR X.K ts) ∧ (assignEach es X.env).length = ts.len ∧ (assignEach es X.env).findIdx? (·.1) = none
  | _, _, .nil => ⟨pgs_nil, rfl, rfl⟩
  | _, _, .cons hs h t => by
    obtain ⟨h1, h2, h3⟩ := TgsOk.pgs hN hc t
    refine ⟨pgs_cons (TgOk.pg hN hc h) h1 (by rw [assignEach_plain hs]; rfl), by rw [assignEach_plain hs, List.length_cons, h2]; rfl, ?_⟩
    rw [assignEach_plain hs, List.findIdx?_cons]
    simp [h3]
end
mutual
/-- the slots that a target stores -/
def Tg.slots : Tg → List Nat
  | .nm i => [i]
  | .tp ts => ts.slots
def Tgs.slots : Tgs → List Nat
  | .nil => []
  | .cons t r => t.slots ++ r.slots
end
/-- σ' differs from σ in the slots vs alone -/
def Wip (vs : List Nat) (σ σ' : L2.St) : Prop := ∀ ws : List Nat, (∀ i ∈ vs, i ∈ ws) → wipe σ' ws = wipe σ ws
theorem wipe_set {σ : L2.St} {i : Nat} {x : Option V} : ∀ {ws : List Nat}, i ∈ ws → wipe (σ.set i x) ws = wipe σ ws
  | [], h => by cases h
  | w :: ws, h => by
    unfold wipe
    by_cases e : i ∈ ws
    · rw [wipe_set e]
    · have hw : i = w := by
        rcases List.mem_cons.mp h with h | h
        · exact h
        · exact absurd h e
      subst hw
      have aux : ∀ (us : List Nat), i ∉ us → wipe (σ.set i x) us = (wipe σ us).set i x := by
        intro us
        induction us with
        | nil => intro _; rfl
        | cons u us ih =>
          intro hu
          simp only [List.mem_cons, not_or] at hu
          unfold wipe
          rw [ih hu.2, List.set_comm _ _ (Ne.symm (Ne.symm hu.1))]
      rw [aux ws e, List.set_set]
theorem Wip.refl {vs : List Nat} {σ : L2.St} : Wip vs σ σ := fun _ _ => rfl
theorem Wip.trans {vs us : List Nat} {σ σ1 σ2 : L2.St} (h : Wip vs σ σ1) (k : Wip us σ1 σ2) : Wip (vs ++ us) σ σ2 := fun ws hw => by
  rw [k ws fun i hi => hw i (List.mem_append_right _ hi), h ws fun i hi => hw i (List.mem_append_left _ hi)]
theorem asgTs_len : ∀ (ts : Tgs) (ds : List D) (σd σd' : Sl), asgTs ts ds σd = some σd' → ds.length = ts.len
  | .nil, [], _, _, _ => rfl
  | .nil, _ :: _, _, _, h => by simp [asgTs] at h
  | .cons _ _, [], _, _, h => by simp [asgTs] at h
  | .cons t ts, d :: ds, σd, σd', h => by
    unfold asgTs at h
    cases e : asgT t d σd with
    | none => rw [e] at h; cases h
    | some σ1 =>
      rw [e] at h
      have := asgTs_len ts ds σ1 σd' h
      rw [List.length_cons, this]
      rfl
mutual
/-- storing what data say -/
theorem asgT_ok {K : PySem.W.Frag} (hK : kn.K = K) {ρ : List Addr} {H : Hp} : ∀ (t : Tg) (d : D) (v : V) (σd σd' : Sl) (σ : L2.St) (Q : L2.St → Hp → Prop), Rep kn ρ H d v → RepEnv kn ρ H σd σ → asgT t d σd = some σd' → (∀ σ', RepEnv kn ρ H σd' σ' → Wip t.slots σ σ' → Q σ' H) → tgR K t v σ H Q
  | .nm i, d, v, σd, σd', σ, Q, r, re, h, q => by
    have e : σd.set i (some d) = σd' := by simpa [asgT] using h
    subst e
    exact q _ (re.set r) fun ws hw => wipe_set (hw i (by simp [Tg.slots]))
  | .tp ts, d, v, σd, σd', σ, Q, r, re, h, q => by
    cases d with
    | tup ds =>
      obtain ⟨a, xs, rfl, h1, h2⟩ := r.tup_inv
      have h' : asgTs ts ds σd = some σd' := by simpa [asgT] using h
      unfold tgR
      exact ⟨a, xs, rfl, hK ▸ h1, by rw [← h2.length]; exact asgTs_len ts ds _ _ h', asgTs_ok hK ts ds xs σd σd' σ Q h2 re h' fun σ' re' w => q σ' re' (by unfold Tg.slots; exact w)⟩
    | _ => simp [asgT] at h
theorem asgTs_ok {K : PySem.W.Frag} (hK : kn.K = K) {ρ : List Addr} {H : Hp} : ∀ (ts : Tgs) (ds : List D) (vs : List V) (σd σd' : Sl) (σ : L2.St) (Q : L2.St → Hp → Prop), Reps kn ρ H ds vs → RepEnv kn ρ H σd σ → asgTs ts ds σd = some σd' → (∀ σ', RepEnv kn ρ H σd' σ' → Wip ts.slots σ σ' → Q σ' H) → tgsR K ts vs σ H Q
  | .nil, ds, vs, σd, σd', σ, Q, r, re, h, q => by
    cases r with
    | nil =>
      have e : σd = σd' := by simpa [asgTs] using h
      subst e
      unfold tgsR
      exact ⟨rfl, q _ re .refl⟩
    | cons r t => simp [asgTs] at h
  | .cons t ts, ds, vs, σd, σd', σ, Q, r, re, h, q => by
    cases r with
    | nil => simp [asgTs] at h
    | @cons d v ds vs r rr =>
      unfold asgTs at h
      cases e : asgT t d σd with
      | none => rw [e] at h; cases h
      | some σ1 =>
        rw [e] at h
        have h' : asgTs ts ds σ1 = some σd' := h
        unfold tgsR
        exact ⟨v, vs, rfl, asgT_ok hK t d v σd σ1 σ (fun σ' H' => tgsR K ts vs σ' H' Q) r re e fun σ' re' w => asgTs_ok hK ts ds vs σ1 σd' σ' Q rr re' h' fun σ2 re2 w2 => q σ2 re2 (by unfold Tgs.slots; exact w.trans w2)⟩
end
end
end Kq
set_option Elab.async false
set_option linter.all false
set_option maxRecDepth 100000
set_option maxHeartbeats 2000000
set_option autoImplicit false
/-! # The Q layer, part Hz: zip of three -/
namespace Kq
open PySem PySem.Spec PyProof.Rows L2

def ItZ3 (K : PySem.W.Frag) (t1 t2 t3 : Bool) (a b c : Addr) : L2.It :=
  ⟨fun i H => ∃ (xs ys zs : List V), SqB K t1 H a xs ∧ SqB K t2 H b ys ∧ SqB K t3 H c zs ∧ i < min (min xs.length ys.length) zs.length,
    fun i H v H' => ∃ T x y u, v = .ref T ∧ H T = none ∧ H' = upd H T (.tup [x, y, u]) ∧ (∀ xs, SqB K t1 H a xs → xs[i]? = some x) ∧ (∀ ys, SqB K t2 H b ys → ys[i]? = some y) ∧ ∀ zs, SqB K t3 H c zs → zs[i]? = some u,
    fun i H => ∃ xs ys zs : List V, SqB K t1 H a xs ∧ SqB K t2 H b ys ∧ SqB K t3 H c zs ∧ i = min (min xs.length ys.length) zs.length⟩
theorem turnZ3 {P : Program} {w : World} {K : PySem.W.Frag} {elts : List Expr} {kk : Nat} {tpos : Pos} {t1 t2 t3 : Bool} {a b c z TI TO i1 i2 i3 : Addr} (D : ZipSep3 z TI TO i1 i2 i3 [i1, a] [i2, b] [i3, c]) (h1 : a ≠ i1) (h2 : b ≠ i2) (h3 : c ≠ i3) :
    Turn P w K (.Tuple elts kk tpos) (ItZ3 K t1 t2 t3 a b c) [z, TI, TO, i1, i2, i3] z (fun i h => IsZip h z TI TO .none ∧ IsTupOf3 h TI (.ref i1) (.ref i2) (.ref i3) ∧ (∃ a1 a2 a3, IsTupOf3 h TO a1 a2 a3) ∧ ItB t1 h i1 a i ∧ ItB t2 h i2 b i ∧ ItB t3 h i3 c i) where
  mem := by simp
  obj := by
    intro i h st b hb
    obtain ⟨hz, hTI, ⟨a1, a2, a3, hTO⟩, q1, q2, q3⟩ := st
    have e' : b = z ∨ b = TI ∨ b = TO ∨ b = i1 ∨ b = i2 ∨ b = i3 := by simpa using hb
    rcases e' with rfl | rfl | rfl | rfl | rfl | rfl
    · exact ⟨_, hz, fun v y => by cases y⟩
    · exact ⟨_, hTI, fun v y => by cases y⟩
    · exact ⟨_, hTO, fun v y => by cases y⟩
    · exact itB_obj q1
    · exact itB_obj q2
    · exact itB_obj q3
  keep := by
    intro i h h' st k
    obtain ⟨hz, hTI, ⟨a1, a2, a3, hTO⟩, q1, q2, q3⟩ := st
    exact ⟨k z (by simp) _ hz, k TI (by simp) _ hTI, ⟨a1, a2, a3, k TO (by simp) _ hTO⟩, itB_at q1 (k i1 (by simp)), itB_at q2 (k i2 (by simp)), itB_at q3 (k i3 (by simp))⟩
  item := by
    intro X hP hw hK hc i pins s σ H E I hf st hg
    subst hP hw hK
    obtain ⟨xs, ys, zs, sx, sy, sz, hi⟩ := hg
    obtain ⟨its, rx, cx⟩ := I.coB sx
    obtain ⟨jts, ry, cy⟩ := I.coB sy
    obtain ⟨kts, rz, cz⟩ := I.coB sz
    obtain ⟨hz, hTI, hTO, q1, q2, q3⟩ := st
    have hh : X.A.in1.handled = none := I.ok.hd hc
    have G := GoesN.zip3 (elts := elts) (x1 := kk) (pos := tpos) D (drawsB (prog := X.prog) (w := X.w) (A := X.A.in1) t1 hh i1 a h1 its.toArray) (drawsB (prog := X.prog) (w := X.w) (A := X.A.in1) t2 hh i2 b h2 jts.toArray) (drawsB (prog := X.prog) (w := X.w) (A := X.A.in1) t3 hh i3 c h3 kts.toArray)
    have lx := rx.length
    have ly := ry.length
    have lz := rz.length
    refine G.goes i s _ _ (by simp only [List.size_toArray]; omega) ⟨hz, hTI, hTO, ⟨q1, cx⟩, ⟨q2, cy⟩, q3, cz⟩ fun u h' tk hY st' hk htk => ?_
    obtain ⟨T, x, y, v, rfl, hT, ex, ey, ev, tT⟩ := hY
    obtain ⟨vx, evx, rvx⟩ : ∃ v, xs[i]? = some v ∧ RelV v x := by
      have hlt : i < xs.length := by omega
      obtain ⟨u, e1, e2⟩ := rx.get (i := i) (x := xs[i]) (by simp [hlt])
      have : its[i]? = some x := by simpa using ex
      rw [this] at e1; cases e1
      exact ⟨xs[i], by simp [hlt], e2⟩
    obtain ⟨vy, evy, rvy⟩ : ∃ v, ys[i]? = some v ∧ RelV v y := by
      have hlt : i < ys.length := by omega
      obtain ⟨u, e1, e2⟩ := ry.get (i := i) (x := ys[i]) (by simp [hlt])
      have : jts[i]? = some y := by simpa using ey
      rw [this] at e1; cases e1
      exact ⟨ys[i], by simp [hlt], e2⟩
    obtain ⟨vz, evz, rvz⟩ : ∃ w, zs[i]? = some w ∧ RelV w v := by
      have hlt : i < zs.length := by omega
      obtain ⟨u, e1, e2⟩ := rz.get (i := i) (x := zs[i]) (by simp [hlt])
      have : kts[i]? = some v := by simpa using ev
      rw [this] at e1; cases e1
      exact ⟨zs[i], by simp [hlt], e2⟩
    obtain ⟨o, eo, co, n, dn⟩ := tT
    have new : ObjOk X.prog X.w (upd H T (.tup [vx, vy, vz])) h' T (.tup [vx, vy, vz]) := ⟨by show 3 ≤ sizeLine; decide, [x, y, v], .cons rvx (.cons rvy (.cons rvz .nil)), ⟨o, eo, co, n, dn⟩⟩
    have I1 := I.turnedNew (t' := tk) (ch := [z, TO, i1, i2, i3]) (fun c o hb e => hk c o hb e) (fun c hc' => hf c (by
      simp only [List.mem_cons, List.not_mem_nil, or_false] at hc' ⊢
      rcases hc' with rfl | rfl | rfl | rfl | rfl <;> simp)) hT new
    obtain ⟨k1, k2, k3, ⟨k4, _⟩, ⟨k5, _⟩, k6, _⟩ := st'
    refine ⟨.ref T, _, I1, rfl, ⟨T, vx, vy, vz, rfl, I.hok.fresh hT, rfl, fun zs hz' => by rw [I.injB hz' sx]; exact evx, fun zs hz' => by rw [I.injB hz' sy]; exact evy, fun zs hz' => by rw [I.injB hz' sz]; exact evz⟩, ⟨k1, k2, k3, k4, k5, k6⟩, fun c hc' => ?_⟩
    have f0 := (hf c hc').1
    have hlt : c < s.heap.objs.size := by
      have e' : c = z ∨ c = TI ∨ c = TO ∨ c = i1 ∨ c = i2 ∨ c = i3 := by simpa using hc'
      rcases e' with rfl | rfl | rfl | rfl | rfl | rfl
      · exact Heap.lt_size hz
      · exact Heap.lt_size hTI
      · obtain ⟨_, _, _, e⟩ := hTO; exact Heap.lt_size e
      · obtain ⟨o, e, _⟩ := itB_obj q1; exact Heap.lt_size e
      · obtain ⟨o, e, _⟩ := itB_obj q2; exact Heap.lt_size e
      · obtain ⟨o, e, _⟩ := itB_obj q3; exact Heap.lt_size e
    rw [upd_ne (Nat.ne_of_lt (Nat.lt_of_lt_of_le hlt hT))]
    exact f0
  done := by
    intro X hP hw hK hc i pins s σ H E I hf st hg
    subst hP hw hK
    obtain ⟨xs, ys, zs, sx, sy, sz, hi⟩ := hg
    obtain ⟨its, rx, cx⟩ := I.coB sx
    obtain ⟨jts, ry, cy⟩ := I.coB sy
    obtain ⟨kts, rz, cz⟩ := I.coB sz
    obtain ⟨hz, hTI, hTO, q1, q2, q3⟩ := st
    have hh : X.A.in1.handled = none := I.ok.hd hc
    have G := GoesN.zip3 (elts := elts) (x1 := kk) (pos := tpos) D (drawsB (prog := X.prog) (w := X.w) (A := X.A.in1) t1 hh i1 a h1 its.toArray) (drawsB (prog := X.prog) (w := X.w) (A := X.A.in1) t2 hh i2 b h2 jts.toArray) (drawsB (prog := X.prog) (w := X.w) (A := X.A.in1) t3 hh i3 c h3 kts.toArray)
    have lx := rx.length
    have ly := ry.length
    have lz := rz.length
    have e : i = min (min its.toArray.size jts.toArray.size) kts.toArray.size := by simp only [List.size_toArray]; omega
    subst e
    refine G.stops s _ _ ⟨hz, hTI, hTO, ⟨q1, cx⟩, ⟨q2, cy⟩, q3, cz⟩ fun h' tk hk htk => ?_
    exact I.turnedL (t' := tk) (ch := [z, TO, i1, i2, i3]) (fun c o hb e => hk c o hb e) (fun c hc' => hf c (by
      simp only [List.mem_cons, List.not_mem_nil, or_false] at hc' ⊢
      rcases hc' with rfl | rfl | rfl | rfl | rfl <;> simp))
  self := fun A i s Q E st h => wpAny_pyIter_zip st.1 h
section
variable {X : Cx} {kn : Kn} {W : WX} {e e2 e3 : Expr} {ρ : List Addr} {H : Hp}
/-- the three arguments, then the walk over them -/
def iZ3 (K : PySem.W.Frag) (ta tb tc : TE) : TI := fun σ H R => ta σ H fun v H1 => tb σ H1 fun u H2 => tc σ H2 fun w H3 => ∃ a b c t1 t2 t3 xs ys zs, v = .ref a ∧ u = .ref b ∧ w = .ref c ∧ SqB K t1 H3 a xs ∧ SqB K t2 H3 b ys ∧ SqB K t3 H3 c zs ∧ R (ItZ3 K t1 t2 t3 a b c) H3
theorem pi_z3 {ta tb tc : TE} {p pos tpos : Pos} {elts : List Expr} {kk : Nat} (hg : Gl X "zip") (hm : X.mg "zip" = none) (ha : PE X e ta) (hb : PE X e2 tb) (hc : PE X e3 tc) (h1 : ∀ x p, e ≠ .Starred x p) (h2 : ∀ x p, e2 ≠ .Starred x p) (h3 : ∀ x p, e3 ≠ .Starred x p) :
    PI X (.Tuple elts kk tpos) (.Call (.Name "zip" p) [e, e2, e3] [] pos) (iZ3 X.K ta tb tc) := by
  refine ⟨fun pins s σ H R I h => ?_⟩
  have pa : PA X [e, e2, e3] (fun σ H Q => ta σ H fun v H1 => tb σ H1 fun u H2 => tc σ H2 fun w H3 => Q [v, u, w] H3) := pa_cons ha (pa_cons hb (pa_cons hc pa_nil (starEach_plain h3)) (starEach_plain h2)) (starEach_plain h1)
  refine Call_ (ld_blt I hg hm PyProof.Rows.boot_zip (PyProof.Rows.callWith_type1 (thn (pa.run pos pins s σ H (fun vs H2 => match vs with | [v, u, w] => ∃ a b c t1 t2 t3 xs ys zs, v = .ref a ∧ u = .ref b ∧ w = .ref c ∧ SqB X.K t1 H2 a xs ∧ SqB X.K t2 H2 b ys ∧ SqB X.K t3 H2 c zs ∧ R (ItZ3 X.K t1 t2 t3 a b c) H2 | _ => False) I h) fun us s1 ⟨vs, H1, I1, r1, q1⟩ => ?_) (starEach_plain h1) (star_none (by intro x hx; simp at hx; rcases hx with rfl | rfl <;> assumption))))
  obtain ⟨v, u, w, rfl⟩ : ∃ v u w, vs = [v, u, w] := by
    rcases vs with _ | ⟨v, _ | ⟨u, _ | ⟨w, _ | ⟨x, r⟩⟩⟩⟩
    · exact q1.elim
    · exact q1.elim
    · exact q1.elim
    · exact ⟨v, u, w, rfl⟩
    · exact q1.elim
  obtain ⟨a, b, c, t1, t2, t3, xs, ys, zs, rfl, rfl, rfl, sx, sy, sz, q⟩ := q1
  obtain ⟨v', u', w', rfl, r, r', r''⟩ : ∃ v' u' w', us = [v', u', w'] ∧ RelV (.ref a) v' ∧ RelV (.ref b) u' ∧ RelV (.ref c) w' := by
    cases r1 with | cons p q => cases q with | cons p' q' => cases q' with | cons p'' q'' => cases q''; exact ⟨_, _, _, rfl, p, p', p''⟩
  cases r
  cases r'
  cases r''
  obtain ⟨its, rx, cx⟩ := I1.coB sx
  obtain ⟨jts, ry, cy⟩ := I1.coB sy
  obtain ⟨kts, rz, cz⟩ := I1.coB sz
  refine zip_begins3 (begB t1 a its.toArray) (begB t2 b jts.toArray) (begB t3 c kts.toArray) cx cy cz fun h' hz hTI hTO e1 e2 e3 hsz hk => wpAny_pyIter_zip hz ?_
  have I2 : Inv X pins σ H1 { s1 with heap := h' } := I1.kept (t' := s1.toks) hk
  have la := coB_lt cx
  have lb := coB_lt cy
  have lc := coB_lt cz
  have D := zip_sep3 (N := s1.heap.objs.size) (fp1 := [a]) (fp2 := [b]) (fp3 := [c]) (by intro x hx; simp at hx; subst hx; exact la) (by intro x hx; simp at hx; subst hx; exact lb) (by intro x hx; simp at hx; subst hx; exact lc)
  refine ⟨s1.heap.objs.size + 5, _, _, ItZ3 X.K t1 t2 t3 a b c, H1, rfl, I2, turnZ3 D (Nat.ne_of_lt la) (Nat.ne_of_lt (Nat.lt_succ_of_lt lb)) (Nat.ne_of_lt (Nat.lt_succ_of_lt (Nat.lt_succ_of_lt lc))), ⟨hz, hTI, ⟨_, _, _, hTO⟩, itB_new e1, itB_new e2, itB_new e3⟩, fun c hc => ?_, q⟩
  have hle : s1.heap.objs.size ≤ c := by
    simp only [List.mem_cons, List.not_mem_nil, or_false] at hc
    rcases hc with e | e | e | e | e | e <;> (rw [e]; first | exact Nat.le_refl _ | exact Nat.le_add_right _ _)
  exact I1.fpOk hle (I1.hok.fresh hle)
theorem zip3_wk {g g' g'' : Gd} {ds es fs : List D} {t1 t2 t3 : Bool} {a b c : Addr} (h : Src kn ρ H g ds t1 a) (h' : Src kn ρ H g' es t2 b) (h'' : Src kn ρ H g'' fs t3 c) : Wk kn ρ H (g ++ g' ++ g'') (((ds.zip es).zip fs).map fun p => .tup [p.1.1, p.1.2, p.2]) (ItZ3 kn.K t1 t2 t3 a b c) := by
  have sp : ∀ {S : Sto}, stands (g ++ g' ++ g'') S → stands g S ∧ stands g' S ∧ stands g'' S := fun {S} st => ⟨fun p hp => st p (List.mem_append_left _ (List.mem_append_left _ hp)), fun p hp => st p (List.mem_append_left _ (List.mem_append_right _ hp)), fun p hp => st p (List.mem_append_right _ hp)⟩
  refine ⟨fun H1 => ∃ xs ys zs, SqB kn.K t1 H1 a xs ∧ SqB kn.K t2 H1 b ys ∧ SqB kn.K t3 H1 c zs ∧ xs.length = ds.length ∧ ys.length = es.length ∧ zs.length = fs.length, (ItZ3 kn.K t1 t2 t3 a b c).yld, ?_, fun ρ1 H1 S1 g1 rl st => ?_, fun i d x ρ1 H1 S1 H2 g1 rl st hd hy => ?_⟩
  · rw [List.length_map, List.length_zip, List.length_zip]
    exact ⟨fun i H1 hi ⟨xs, ys, zs, hx, hy, hz, l1, l2, l3⟩ => ⟨xs, ys, zs, hx, hy, hz, by rw [l1, l2, l3]; exact hi⟩, fun H1 ⟨xs, ys, zs, hx, hy, hz, l1, l2, l3⟩ => ⟨xs, ys, zs, hx, hy, hz, by rw [l1, l2, l3]⟩, fun i H1 x H2 hi _ y => y⟩
  · obtain ⟨xs, h1, h2⟩ := h ρ1 H1 S1 g1 rl (sp st).1
    obtain ⟨ys, h3, h4⟩ := h' ρ1 H1 S1 g1 rl (sp st).2.1
    obtain ⟨zs, h5, h6⟩ := h'' ρ1 H1 S1 g1 rl (sp st).2.2
    exact ⟨xs, ys, zs, h1, h3, h5, h2.length.symm, h4.length.symm, h6.length.symm⟩
  · obtain ⟨T, x, y, z, rfl, hT, rfl, ex, ey, ez⟩ := hy
    obtain ⟨xs, h1, h2⟩ := h ρ1 H1 S1 g1 rl (sp st).1
    obtain ⟨ys, h3, h4⟩ := h' ρ1 H1 S1 g1 rl (sp st).2.1
    obtain ⟨zs, h5, h6⟩ := h'' ρ1 H1 S1 g1 rl (sp st).2.2
    rw [List.getElem?_map] at hd
    cases e : ((ds.zip es).zip fs)[i]? with
    | none => rw [e] at hd; cases hd
    | some p =>
      rw [e] at hd
      cases hd
      obtain ⟨e0, e3⟩ := List.getElem?_zip_eq_some.mp e
      obtain ⟨e1, e2⟩ := List.getElem?_zip_eq_some.mp e0
      obtain ⟨v, q1, q2⟩ := h2.get e1
      obtain ⟨u, q3, q4⟩ := h4.get e2
      obtain ⟨w, q5, q6⟩ := h6.get e3
      rw [ex xs h1] at q1; cases q1
      rw [ey ys h3] at q3; cases q3
      rw [ez zs h5] at q5; cases q5
      refine ⟨Gr.lay hT, rl.lay hT, .tup (SqT.of upd_same) ?_⟩
      have gg := Gr.lay (ρ := ρ1) (o := .tup [x, y, z]) hT
      exact .cons (q2.gr gg) (.cons (q4.gr gg) (.cons (q6.gr gg) .nil))
theorem qi_zip3 {ta tb tc : Sl → Sto → R D} {p pos tpos : Pos} {elts : List Expr} {kk : Nat} (hK : kn.K = X.K) (bl : Blt X "zip" (.type "zip")) (ha : PE X e (liftE kn W ta)) (hb : PE X e2 (liftE kn W tb)) (hc : PE X e3 (liftE kn W tc)) (h1 : ∀ x p, e ≠ .Starred x p) (h2 : ∀ x p, e2 ≠ .Starred x p) (h3 : ∀ x p, e3 ≠ .Starred x p) :
    PI X (.Tuple elts kk tpos) (.Call (.Name "zip" p) [e, e2, e3] [] pos) (liftI kn W fun σ S => (ta σ S).bind fun x S1 => (tb σ S1).bind fun y S2 => (tc σ S2).bind fun z S3 => zip3D x y z S3) := by
  refine PI.imp (pi_z3 bl.gl bl.mg ha hb hc h1 h2 h3) fun σ H Q ⟨ρ, σd, S, rl, re, h⟩ => ⟨ρ, σd, S, rl, re, (PostE.bindI h).mono fun v H1 ⟨ρ1, d, S1, g1, rl1, r1, h1⟩ => ?_⟩
  refine ⟨ρ1, σd, S1, rl1, re.gr g1, (PostE.bindI h1).mono fun u H2 ⟨ρ2, d2, S2, g2, rl2, r2, h2⟩ => ?_⟩
  refine ⟨ρ2, σd, S2, rl2, (re.gr g1).gr g2, (PostE.bindI h2).mono fun w H3 ⟨ρ3, d3, S3, g3, rl3, r3, h3⟩ => ?_⟩
  unfold zip3D at h3
  split at h3
  · rename_i p q r hp hq hr
    obtain ⟨st, a, tl, xs, rfl, sq, src⟩ := src_of (g := p.1) (ds := p.2) rl3 ((r1.gr g2).gr g3) hp
    obtain ⟨st', b, tl', ys, rfl, sq', src'⟩ := src_of (g := q.1) (ds := q.2) rl3 (r2.gr g3) hq
    obtain ⟨st'', c, tl'', zs, rfl, sq'', src''⟩ := src_of (g := r.1) (ds := r.2) rl3 r3 hr
    rw [← hK]
    exact ⟨a, b, c, tl, tl', tl'', xs, ys, zs, rfl, rfl, rfl, sq, sq', sq'', h3 _ H3 ρ3 .refl rl3 (fun z hz => by
      rcases List.mem_append.mp hz with hz | hz
      · exact (List.mem_append.mp hz).elim (st z) (st' z)
      · exact st'' z hz) (zip3_wk src src' src'')⟩
  · exact h3.elim
end
end Kq
set_option Elab.async false
set_option linter.all false
set_option maxRecDepth 100000
set_option maxHeartbeats 2000000
set_option autoImplicit false
/-! # The Q layer, part I: loops, comprehensions, calls, statements -/
namespace Kq
open PySem PySem.Spec PyProof.Rows L2

section
variable {X : Cx} {kn : Kn} {W : WX} {tg e : Expr}
theorem PostI.bindS {σ : L2.St} {ρ : List Addr} {H : Hp} {r : R (Gd × List D)} {k : Gd × List D → Sto → RS} {σd : Sl} {N : Ends} (e : RepEnv kn ρ H σd σ) (h : PostS kn W ρ H (RS.of r σd k) N) :
    PostI kn W σ ρ H r (fun J H1 => ∃ ρ1 p S1, Gr ρ ρ1 H H1 ∧ Rel kn ρ1 H1 S1 ∧ stands p.1 S1 ∧ Wk kn ρ1 H1 p.1 p.2 J ∧ PostS kn W ρ1 H1 (k p S1) N) := by
  cases r with
  | no => exact h
  | ok p S => exact fun J H' ρ' g rl st wk => ⟨ρ', p, S, g, rl, st, wk, h.gr g⟩
  | err x fs S => exact fun cv dx H' ρ' g rl xr => h cv dx σ H' ρ' g rl (e.gr g) xr
theorem PostI.mono {σ : L2.St} {ρ : List Addr} {H : Hp} {t : R (Gd × List D)} {Q Q' : L2.It → Hp → Prop} (h : PostI kn W σ ρ H t Q) (i : ∀ v H', Q v H' → Q' v H') : PostI kn W σ ρ H t Q' := by
  cases t with
  | no => exact h
  | ok d S => exact fun J H' ρ' g rl st wk => i _ _ (h J H' ρ' g rl st wk)
  | err x fs S => exact h
open Classical in
theorem q_for {it : Sl → Sto → R (Gd × List D)} {t : Tg} {body : List Stmt} {f : Sl → Sto → RS} {iter : Expr} {pos : Pos} (hK : kn.K = X.K) (hp : PassesOwn (model X.prog X.w) X.A X.env X.xe) (hc : X.calm = true) (hN : X.N.Nodup)
    (hi : PI X tg iter (liftI kn W it)) (ht : TgOk X tg t) (hb : PSs X body (liftS kn W f)) (hs : ∀ x, foldedSetIterable iter X.env x = pure x) :
    PS X (.For tg iter body [] pos) (liftS kn W fun σ S => RS.of (it σ S) σ fun gi S1 => forL gi.1 (turnD t f) gi.2 σ S1) := by
  refine PS.imp (ps_for hp hc hi (ht.pg hN hc) hb hs) fun N σ H ⟨ρ, σd, S, rl, re, h⟩ => ⟨ρ, σd, S, rl, re, (PostI.bindS re h).mono fun J H1 ⟨ρ1, p, S1, g1, rl1, st1, wk, h1⟩ => ?_⟩
  obtain ⟨G, Y, wlk, hold, item⟩ := wk
  refine for_it wlk (g := tgR X.K t) (tb := liftS kn W f) (fun i σ' H' => ∃ ρ' σd' S', Gr ρ1 ρ' H1 H' ∧ Rel kn ρ' H' S' ∧ RepEnv kn ρ' H' σd' σ' ∧ stands p.1 S' ∧ PostS kn W ρ' H' (forL p.1 (turnD t f) (p.2.drop i) σd' S') N)
    ⟨ρ1, σd, S1, .refl, rl1, re.gr g1, st1, by rw [List.drop_zero]; exact h1⟩ (fun i σ' H' _ ⟨ρ', σd', S', g, r, _, st, _⟩ => hold ρ' H' S' g r st) ?_ ?_
  · rintro i x σ' H' H2 hi ⟨ρ', σd', S', g, rl', re', st, hh⟩ hy
    have hd : p.2[i]? = some p.2[i] := by simp [hi]
    obtain ⟨g2, rl2, rx⟩ := item i _ x ρ' H' S' H2 g rl' st hd hy
    rw [List.drop_eq_getElem_cons hi] at hh
    unfold forL at hh
    have re2 := re'.gr g2
    cases e1 : asgT t p.2[i] σd' with
    | none => simp only [turnD, e1] at hh; exact hh.elim
    | some σ1 =>
      simp only [turnD, e1] at hh
      refine asgT_ok hK t _ x σd' σ1 σ' _ rx re2 e1 fun σ3 re3 _ => ⟨ρ', σ1, S', rl2, re3, ?_⟩
      cases e2 : f σ1 S' with
      | no => rw [e2] at hh; exact hh.elim
      | nx σ4 S4 =>
        rw [e2] at hh
        intro σ5 H5 ρ5 g5 rl5 re5
        have hh' : PostS kn W ρ' H' (if stands p.1 S4 then forL p.1 (turnD t f) (p.2.drop (i + 1)) σ4 S4 else .no) N := hh
        by_cases hst : stands p.1 S4
        · rw [if_pos hst] at hh'
          exact ⟨ρ5, σ4, S4, g.trans (g2.trans g5), rl5, re5, hst, hh'.gr (g2.trans g5)⟩
        · rw [if_neg hst] at hh'; exact hh'.elim
      | ct σ4 S4 =>
        rw [e2] at hh
        intro σ5 H5 ρ5 g5 rl5 re5
        have hh' : PostS kn W ρ' H' (if stands p.1 S4 then forL p.1 (turnD t f) (p.2.drop (i + 1)) σ4 S4 else .no) N := hh
        by_cases hst : stands p.1 S4
        · rw [if_pos hst] at hh'
          exact ⟨ρ5, σ4, S4, g.trans (g2.trans g5), rl5, re5, hst, hh'.gr (g2.trans g5)⟩
        · rw [if_neg hst] at hh'; exact hh'.elim
      | bk σ4 S4 =>
        rw [e2] at hh
        exact fun σ5 H5 ρ5 g5 rl5 re5 => hh σ5 H5 ρ5 (g2.trans g5) rl5 re5
      | rt d S4 =>
        rw [e2] at hh
        exact fun σ5 H5 ρ5 g5 rl5 re5 => hh σ5 H5 ρ5 (g2.trans g5) rl5 re5
      | err y fs σ4 S4 =>
        rw [e2] at hh
        exact fun cv dx σ5 H5 ρ5 g5 rl5 re5 xr => hh cv dx σ5 H5 ρ5 (g2.trans g5) rl5 re5 xr
  · rintro σ' H' ⟨ρ', σd', S', g, rl', re', st, hh⟩
    rw [List.drop_length] at hh
    exact hh σ' H' ρ' .refl rl' re'
theorem q_whl {c : Expr} {t : Sl → Sto → R Bool} {body : List Stmt} {f : Sl → Sto → RS} {pos : Pos} (n : Nat) (hp : PassesOwn (model X.prog X.w) X.A X.env X.xe) (hc : PT X c (liftT kn W t)) (hb : PSs X body (liftS kn W f)) :
    PS X (.While c body [] pos) (liftS kn W fun σ S => whlL t f n σ S) := by
  refine PS.imp (ps_while hp hc hb) fun N σ H ⟨ρ, σd, S, rl, re, h⟩ => ?_
  refine ⟨fun m σ' H' => ∃ ρ' σd' S', Rel kn ρ' H' S' ∧ RepEnv kn ρ' H' σd' σ' ∧ PostS kn W ρ' H' (whlL t f m σd' S') N, ⟨n, ρ, σd, S, rl, re, h⟩, ?_⟩
  rintro m σ' H' ⟨ρ', σd', S', rl', re', hh⟩
  cases m with
  | zero => exact hh.elim
  | succ m =>
    unfold whlL at hh
    refine ⟨ρ', σd', S', rl', re', (PostT.bindS re' hh).mono fun b H2 ⟨ρ2, S2, g2, rl2, h2⟩ => ?_⟩
    cases b with
    | false =>
      simp only [Bool.false_eq_true, if_false] at h2 ⊢
      exact h2 σ' H2 ρ2 .refl rl2 (re'.gr g2)
    | true =>
      simp only [if_true] at h2 ⊢
      refine ⟨fun σ3 H3 => ∃ ρ' σd' S', Rel kn ρ' H3 S' ∧ RepEnv kn ρ' H3 σd' σ3 ∧ PostS kn W ρ' H3 (whlL t f m σd' S') N, fun σ3 H3 w => ⟨m, Nat.lt_succ_self _, w⟩, ρ2, σd', S2, rl2, re'.gr g2, ?_⟩
      cases e2 : f σd' S2 with
      | no => rw [e2] at h2; exact h2.elim
      | nx σ4 S4 => rw [e2] at h2; exact fun σ5 H5 ρ5 g5 rl5 re5 => ⟨ρ5, σ4, S4, rl5, re5, h2.gr g5⟩
      | ct σ4 S4 => rw [e2] at h2; exact fun σ5 H5 ρ5 g5 rl5 re5 => ⟨ρ5, σ4, S4, rl5, re5, h2.gr g5⟩
      | bk σ4 S4 => rw [e2] at h2; exact h2
      | rt d S4 => rw [e2] at h2; exact h2
      | err y fs σ4 S4 => rw [e2] at h2; exact h2

/-! ### comprehensions -/
/-- a list that nobody names is changed -/
theorem Rel.poke {ρ : List Addr} {H : Hp} {S : Sto} {a : Addr} {xs ys : List V} (rl : Rel kn ρ H S) (np : a ∉ ρ) (ha : H a = some (.lst xs)) : Rel kn ρ (upd H a (.lst ys)) S :=
  ⟨rl.len, rl.nd, fun i b o e1 e2 => (rl.obj i b o e1 e2).mono (List.prefix_refl _) (fun c u e f => by
    rw [upd_ne (fun z => by rw [z, ha] at e; cases e; cases f)]; exact e) fun u e => by
    have nb : b ≠ a := fun z => np (by rw [← z]; exact List.mem_of_getElem? e1)
    rw [upd_ne nb]; exact e⟩
theorem Reps.poke {ρ : List Addr} {H : Hp} {a : Addr} {xs ys : List V} {ds : List D} {vs : List V} (r : Reps kn ρ H ds vs) (ha : H a = some (.lst xs)) : Reps kn ρ (upd H a (.lst ys)) ds vs :=
  r.mono (List.prefix_refl _) fun c u e f => by
    rw [upd_ne (fun z => by rw [z, ha] at e; cases e; cases f)]; exact e
theorem RepEnv.poke {ρ : List Addr} {H : Hp} {a : Addr} {xs ys : List V} {σd : Sl} {σ : L2.St} (r : RepEnv kn ρ H σd σ) (ha : H a = some (.lst xs)) : RepEnv kn ρ (upd H a (.lst ys)) σd σ :=
  r.mono (List.prefix_refl _) fun c u e f => by
    rw [upd_ne (fun z => by rw [z, ha] at e; cases e; cases f)]; exact e
theorem Gr.poke {ρ ρ' : List Addr} {H H' : Hp} {a : Addr} {ys : List V} (g : Gr ρ ρ' H H') (hn : H a = none) : Gr ρ ρ' H (upd H' a (.lst ys)) :=
  ⟨g.pre, g.new, fun b o e f => by rw [upd_ne (fun z => by rw [z, hn] at e; cases e)]; exact g.fix b o e f, fun b o e n => by rw [upd_ne (fun z => by rw [z, hn] at e; cases e)]; exact g.oth b o e n⟩
theorem Gr.keepNew {ρ ρ' : List Addr} {H H' : Hp} {a : Addr} {o : HO} (g : Gr ρ ρ' H H') (np : a ∉ ρ) (ha : H a = some o) : a ∉ ρ' ∧ H' a = some o :=
  ⟨fun h => (by rw [g.new a h np] at ha; cases ha), g.oth a o ha np⟩
theorem RepEnv.wipe {ρ : List Addr} {H : Hp} {σd : Sl} {σ : L2.St} (h : RepEnv kn ρ H σd σ) : ∀ vs : List Nat, RepEnv kn ρ H (wipeD σd vs) (L2.wipe σ vs)
  | [] => h
  | v :: vs => (RepEnv.wipe h vs).clear v none
def noW : WX := fun _ _ _ _ => False
theorem quiet_ok {α : Type} {r : R α} : ∀ {x fs S}, r.quiet ≠ .err x fs S := by
  intro x fs S
  cases r <;> intro h <;> cases h
/-- a turn of a comprehension -/
def lcF (ow : List Nat) (t : Tg) (c : Sl → Sto → R Bool) (e : Sl → Sto → R D) (σ : Sl) (d : D) (S2 : Sto) : R (Option D) := match asgT t d (wipeD σ ow) with
        | some σ1 => ((c σ1 S2).quiet).bind fun b S3 => if b = true then ((e σ1 S3).quiet).bind fun x S4 => .ok (some x) S4 else .ok none S3
        | none => .no
theorem lcF_quiet {ow : List Nat} {t : Tg} {c : Sl → Sto → R Bool} {e : Sl → Sto → R D} {σ : Sl} {d : D} {S : Sto} : ∀ {x fs S'}, lcF ow t c e σ d S ≠ .err x fs S' := by
  intro x fs S' h
  unfold lcF at h
  split at h
  · cases e1 : (c _ S).quiet with
    | no => rw [e1] at h; cases h
    | err _ _ _ => exact quiet_ok e1
    | ok b S3 =>
      rw [e1, R.bind_ok] at h
      split at h
      · cases e2 : (e _ S3).quiet with
        | no => rw [e2] at h; cases h
        | err _ _ _ => exact quiet_ok e2
        | ok b S3 => rw [e2] at h; cases h
      · cases h
  · cases h
theorem lcL_quiet {g : Gd} {f : D → Sto → R (Option D)} (hf : ∀ {d S x fs S'}, f d S ≠ .err x fs S') : ∀ {ds : List D} {S : Sto} {x fs S'}, lcL g f ds S ≠ .err x fs S' := by
  intro ds
  induction ds with
  | nil => intro S x fs S' h; unfold lcL at h; cases h
  | cons d r ih =>
    intro S x fs S' h
    unfold lcL at h
    cases e1 : f d S with
    | no => rw [e1] at h; cases h
    | err _ _ _ => exact hf e1
    | ok o S1 =>
      rw [e1, R.bind_ok] at h
      split at h
      · cases e2 : lcL g f r S1 with
        | no => rw [e2] at h; cases h
        | err _ _ _ => exact ih e2
        | ok ds S2 => rw [e2] at h; cases h
      · cases h
/-- what is left of a comprehension's result, the items so far in acc -/
def lcRest (r : R (List D)) (acc : List D) : R (List D) := r.bind fun ds S => if (acc ++ ds).length ≤ big then .ok (acc ++ ds) S else .no
theorem lcRest_len {g : Gd} {f : D → Sto → R (Option D)} (hf : ∀ {d S x fs S'}, f d S ≠ .err x fs S') {ds : List D} {S : Sto} {acc : List D} {σ : L2.St} {ρ : List Addr} {H : Hp} {Q : VK} (h : PostN kn W σ ρ H (lcRest (lcL g f ds S) acc) Q) : acc.length ≤ big := by
  unfold lcRest at h
  cases e : lcL g f ds S with
  | no => rw [e] at h; exact h.elim
  | err _ _ _ => exact absurd e (lcL_quiet hf)
  | ok es S' =>
    rw [e, R.bind_ok] at h
    split at h
    · rename_i hl
      rw [List.length_append] at hl
      omega
    · exact h.elim
theorem PostN.gr {σ : L2.St} {ρ ρ1 : List Addr} {H H1 : Hp} {r : R (List D)} {Q : VK} (h : PostN kn W σ ρ H r Q) (g : Gr ρ ρ1 H H1) (hx : ∀ {x fs S}, r ≠ .err x fs S) (hn : ∀ a, H1 a = none → H a = none) :
    match r with
      | .ok ds S' => ∀ a xs H' ρ', Gr ρ1 ρ' H1 H' → Rel kn ρ' H' S' → H' a = some (.lst xs) → a ∉ ρ' → H a = none → Reps kn ρ' H' ds xs → Q (.ref a) H'
      | _ => False := by
  cases r with
  | no => exact h
  | ok ds S => exact fun a xs H' ρ' k rl ha np hn r => h a xs H' ρ' (g.trans k) rl ha np hn r
  | err x fs S => exact absurd rfl hx
open Classical in
theorem lc_read {it : Sl → Sto → R (Gd × List D)} {t : Tg} {c : Sl → Sto → R Bool} {ee : Sl → Sto → R D} {own : List (Str × Nat)} (hK : kn.K = X.K) (hw : ∀ i ∈ t.slots, i ∈ own.map (·.2)) :
    ∀ (σ : L2.St) (H : Hp) (Q : VK), liftN kn W (fun σ S => (it σ S).bind fun gi S1 => lcE gi.1 (own.map (·.2)) t c ee σ gi.2 S1) σ H Q → tLc (liftI kn W it) (tgR X.K t) (liftT kn noW c) (liftE kn noW ee) (own.map (·.2)) σ H Q := by
  rintro σ H Q ⟨ρ, σd, S, rl, re, h⟩
  refine ⟨ρ, σd, S, rl, re, ?_⟩
  try dsimp only at h
  cases e1 : it σd S with
  | no => rw [e1] at h; exact h
  | err x fs S' => rw [e1] at h; exact h
  | ok p S1 =>
    rw [e1] at h
    intro J H1 ρ1 g1 rl1 st1 wk lD hD
    obtain ⟨G, Y, wlk, hold, item⟩ := wk
    have nD : lD ∉ ρ1 := rl1.fresh hD
    have hH : H lD = none := by
      cases e0 : H lD with
      | none => rfl
      | some o =>
        have hnp : lD ∉ ρ := fun z => nD (g1.pre.subset z)
        rw [g1.oth lD o e0 hnp] at hD; cases hD
    have hq : ∀ {d S x fs S'}, lcF (own.map (·.2)) t c ee σd d S ≠ .err x fs S' := lcF_quiet
    have h' : PostN kn W σ ρ H (lcRest (lcL p.1 (lcF (own.map (·.2)) t c ee σd) p.2 S1) []) Q := by
      have e2 : lcRest (lcL p.1 (lcF (own.map (·.2)) t c ee σd) p.2 S1) [] = lcE p.1 (own.map (·.2)) t c ee σd p.2 S1 := rfl
      rw [e2]
      exact h
    refine lc_it wlk (g := tgR X.K t) (Qd := Q (.ref lD)) (fun i H' => ∃ ρ' S' acc accV, Gr ρ ρ' H H' ∧ Gr ρ1 ρ' H1 H' ∧ lD ∉ ρ' ∧ Rel kn ρ' H' S' ∧ RepEnv kn ρ' H' σd σ ∧ stands p.1 S' ∧ H' lD = some (.lst accV) ∧ Reps kn ρ' H' acc accV ∧
        PostN kn W σ ρ H (lcRest (lcL p.1 (lcF (own.map (·.2)) t c ee σd) (p.2.drop i) S') acc) Q)
      ⟨ρ1, S1, [], [], g1.trans (Gr.lay hD), Gr.lay hD, nD, rl1.lay hD, (re.gr g1).gr (Gr.lay hD), st1, upd_same, .nil, by rw [List.drop_zero]; exact h'⟩
      (fun i H' _ ⟨ρ', S', acc, accV, _, g, _, r, _, st, _⟩ => hold ρ' H' S' g r st) ?_ ?_
    · rintro i x H' H2 hi ⟨ρ', S', acc, accV, g0, g, nD', rl', re', st, hDl, ra, hh⟩ hy
      have hd : p.2[i]? = some p.2[i] := by simp [hi]
      obtain ⟨g2, rl2, rx⟩ := item i _ x ρ' H' S' H2 g rl' st hd hy
      obtain ⟨nD2, hDl2⟩ := g2.keepNew nD' hDl
      rw [List.drop_eq_getElem_cons hi] at hh
      have re2 := (re'.gr g2).wipe (own.map (·.2))
      unfold lcRest lcL at hh
      cases e3 : asgT t p.2[i] (wipeD σd (own.map (·.2))) with
      | none =>
        have ef : lcF (own.map (·.2)) t c ee σd p.2[i] S' = .no := by unfold lcF; rw [e3]
        rw [ef] at hh
        exact hh.elim
      | some σ1 =>
        have ef : lcF (own.map (·.2)) t c ee σd p.2[i] S' = ((c σ1 S').quiet).bind fun b S3 => if b = true then ((ee σ1 S3).quiet).bind fun x S4 => .ok (some x) S4 else .ok none S3 := by unfold lcF; rw [e3]
        rw [ef] at hh
        refine asgT_ok hK t _ x _ σ1 _ _ rx re2 e3 fun σ3 re3 wp => ⟨?_, ρ', σ1, S', rl2, re3, ?_⟩
        · rw [wp _ hw]
          have ww : ∀ (vs : List Nat) (us : List Nat), (∀ i ∈ us, i ∈ vs) → L2.wipe (L2.wipe σ us) vs = L2.wipe σ vs := by
            intro vs us
            induction us with
            | nil => intro _; rfl
            | cons u us ih =>
              intro hu
              show L2.wipe ((L2.wipe σ us).set u none) vs = _
              rw [wipe_set (hu u List.mem_cons_self), ih fun i hi => hu i (List.mem_cons_of_mem _ hi)]
          exact ww _ _ fun i hi => hi
        · cases e4 : c σ1 S' with
          | no => rw [e4] at hh; exact hh.elim
          | err y fs S4 => rw [e4] at hh; exact hh.elim
          | ok b S4 =>
            rw [e4] at hh
            intro H4 ρ4 g4 rl4
            obtain ⟨nD4, hDl4⟩ := g4.keepNew nD2 hDl2
            cases b with
            | false =>
              simp only [R.quiet, R.bind_ok, Bool.false_eq_true, if_false] at hh ⊢
              by_cases hst : stands p.1 S4
              · rw [if_pos hst] at hh
                refine ⟨ρ4, S4, acc, accV, g0.trans (g2.trans g4), g.trans (g2.trans g4), nD4, rl4, re'.gr (g2.trans g4), hst, hDl4, ra.gr (g2.trans g4), ?_⟩
                have e5 : lcRest (lcL p.1 (lcF (own.map (·.2)) t c ee σd) (p.2.drop (i + 1)) S4) acc = (((lcL p.1 (lcF (own.map (·.2)) t c ee σd) (p.2.drop (i + 1)) S4).bind fun ds S2 => R.ok ((none : Option D).toList ++ ds) S2).bind fun ds S => if (acc ++ ds).length ≤ big then .ok (acc ++ ds) S else .no) := by
                  unfold lcRest
                  cases lcL p.1 (lcF (own.map (·.2)) t c ee σd) (p.2.drop (i + 1)) S4 <;> rfl
                rw [e5]
                exact hh
              · rw [if_neg hst] at hh; exact hh.elim
            | true =>
              simp only [R.quiet, R.bind_ok, if_true] at hh ⊢
              refine ⟨ρ4, σ1, S4, rl4, re3.gr g4, ?_⟩
              cases e6 : ee σ1 S4 with
              | no => rw [e6] at hh; exact hh.elim
              | err y fs S5 => rw [e6] at hh; exact hh.elim
              | ok dv S5 =>
                rw [e6] at hh
                simp only [R.bind_ok] at hh
                intro y H5 ρ5 g5 rl5 ry
                obtain ⟨nD5, hDl5⟩ := g5.keepNew nD4 hDl4
                by_cases hst : stands p.1 S5
                · rw [if_pos hst] at hh
                  have e7 : lcRest (lcL p.1 (lcF (own.map (·.2)) t c ee σd) (p.2.drop (i + 1)) S5) (acc ++ [dv]) = (((lcL p.1 (lcF (own.map (·.2)) t c ee σd) (p.2.drop (i + 1)) S5).bind fun ds S2 => R.ok ((some dv).toList ++ ds) S2).bind fun ds S => if (acc ++ ds).length ≤ big then .ok (acc ++ ds) S else .no) := by
                    unfold lcRest
                    cases lcL p.1 (lcF (own.map (·.2)) t c ee σd) (p.2.drop (i + 1)) S5 <;> simp [R.bind]
                  have hh' : PostN kn W σ ρ H (lcRest (lcL p.1 (lcF (own.map (·.2)) t c ee σd) (p.2.drop (i + 1)) S5) (acc ++ [dv])) Q := by rw [e7]; exact hh
                  have len := lcRest_len hq hh'
                  have gA := g2.trans (g4.trans g5)
                  have lenV : accV.length < sizeLine := by
                    have := ra.length
                    rw [List.length_append] at len
                    have bl := big_le
                    simp at len
                    omega
                  exact ⟨accV, hDl5, lenV, ρ5, S5, acc ++ [dv], accV ++ [y], (g0.trans gA).poke hH, (g.trans gA).poke hD, nD5, rl5.poke nD5 hDl5, (re'.gr gA).poke hDl5, hst, upd_same, ((ra.gr gA).append (.cons ry .nil)).poke hDl5, hh'⟩
                · rw [if_neg hst] at hh; exact hh.elim
    · rintro H' ⟨ρ', S', acc, accV, g0, g, nD', rl', re', st, hDl, ra, hh⟩
      rw [List.drop_length] at hh
      unfold lcRest lcL at hh
      simp only [R.bind_ok, List.append_nil] at hh
      split at hh
      · exact hh lD accV H' ρ' g0 rl' hDl nD' hH ra
      · exact hh.elim

theorem q_lc {it : Sl → Sto → R (Gd × List D)} {t : Tg} {c : Sl → Sto → R Bool} {ee : Sl → Sto → R D} {elt iter : Expr} {ifs : List Expr} {scope : Scope} {own : List (Str × Nat)} {pos : Pos} (hK : kn.K = X.K) (hc : X.calm = true) (hN : X.N.Nodup)
    (hi : PI X tg iter (liftI kn W it)) (ok : BlkOk X.N X.env.scope scope own) (hw : ∀ i ∈ t.slots, i ∈ own.map (·.2))
    (ht : ∀ (s : Shared) (H : Hp) (C : Addr) (cl : List (Str × Addr)) (fp : List Addr), TgOk (X.blk s H scope (compEnvC scope cl C X.env) fp) tg t)
    (hif : ∀ (s : Shared) (H : Hp) (C : Addr) (cl : List (Str × Addr)) (fp : List Addr), PTs (X.blk s H scope (compEnvC scope cl C X.env) fp) ifs (liftT kn noW c))
    (he : ∀ (s : Shared) (H : Hp) (C : Addr) (cl : List (Str × Addr)) (fp : List Addr), PE (X.blk s H scope (compEnvC scope cl C X.env) fp) elt (liftE kn noW ee)) (hs : ∀ x, foldedSetIterable iter X.env x = pure x) :
    QN X kn W (.ListComp elt [⟨tg, iter, ifs, 0⟩] scope pos) (fun σ S => (it σ S).bind fun gi S1 => lcE gi.1 (own.map (·.2)) t c ee σ gi.2 S1) :=
  PE.imp (pe_lc (g := tgR X.K t) hc hN hi ok (fun s H C cl fp => TgOk.pg (X := X.blk s H scope (compEnvC scope cl C X.env) fp) hN hc (ht s H C cl fp)) hif he hs) (lc_read hK hw)
/-- y = [..] at a local name: the old value is let go first -/
theorem q_setLc {i : Nat} {y : Str} {py spos : Pos} {it : Sl → Sto → R (Gd × List D)} {t : Tg} {c : Sl → Sto → R Bool} {ee : Sl → Sto → R D} {elt iter : Expr} {ifs : List Expr} {scope : Scope} {own : List (Str × Nat)} {pos : Pos} (hK : kn.K = X.K) (hc : X.calm = true) (hN : X.N.Nodup)
    (hy : X.N[i]? = some y) (hyl : X.env.scope.names.lookup y = some .local) (hsw : swapsWith (.ListComp elt [⟨tg, iter, ifs, 0⟩] scope pos) (some (.Name y py)) spos.line X.env = pure true)
    (hi : PI X tg iter (liftI kn W it)) (ok : BlkOk X.N X.env.scope scope own) (hw : ∀ i ∈ t.slots, i ∈ own.map (·.2))
    (ht : ∀ (s : Shared) (H : Hp) (C : Addr) (cl : List (Str × Addr)) (fp : List Addr), TgOk (X.blk s H scope (compEnvC scope cl C X.env) fp) tg t)
    (hif : ∀ (s : Shared) (H : Hp) (C : Addr) (cl : List (Str × Addr)) (fp : List Addr), PTs (X.blk s H scope (compEnvC scope cl C X.env) fp) ifs (liftT kn noW c))
    (he : ∀ (s : Shared) (H : Hp) (C : Addr) (cl : List (Str × Addr)) (fp : List Addr), PE (X.blk s H scope (compEnvC scope cl C X.env) fp) elt (liftE kn noW ee)) (hs : ∀ x, foldedSetIterable iter X.env x = pure x) :
    PS X (.Assign [.Name y py] (.ListComp elt [⟨tg, iter, ifs, 0⟩] scope pos) spos) (liftS kn W fun σ S => RS.of (nameL ((it σ S).bind fun gi S1 => lcE gi.1 (own.map (·.2)) t c ee σ gi.2 S1)) σ fun d S1 => .nx (σ.set i (some d)) S1) := by
  refine PS.imp (ps_setLc (g := tgR X.K t) hc hN hy hyl hsw hi ok (fun s H C cl fp => TgOk.pg (X := X.blk s H scope (compEnvC scope cl C X.env) fp) hN hc (ht s H C cl fp)) hif he hs) fun N σ H ⟨ρ, σd, S, rl, re, h⟩ => ?_
  refine lc_read hK hw σ H _ ⟨ρ, σd, S, rl, re, ?_⟩
  generalize ((it σd S).bind fun gi S1 => lcE gi.1 (own.map (·.2)) t c ee σd gi.2 S1) = r at h ⊢
  have h2 := PostE.bindS re h
  exact nameN (h2.mono fun v H1 ⟨ρ1, d, S1, g1, rl1, r1, h1⟩ => h1 _ H1 ρ1 .refl rl1 ((re.gr g1).set r1))
/-! ### calls -/
def spOf (kn : Kn) (ps : List Str) (g : List D → Sto → R D) : Sp := fun vs H Q E => vs.length = ps.length ∧ ∃ ρ ds S, Rel kn ρ H S ∧ Reps kn ρ H ds vs ∧ PostE kn (fun cv dx _ H' => E cv dx H') [] ρ H (g ds S) Q
/-- a def of the program, by what it does to data -/
structure FnK (X : Cx) (kn : Kn) (x : Str) (ps : List Str) (g : List D → Sto → R D) : Prop where
  ex : ∃ (fa : Addr) (fd : FuncData) (lev : Nat), X.mg x = some (.ref fa) ∧ PySem.W.keepIn X.K (.ref fa) = true ∧ Binds X.K fd ps [] ∧ FnOk X.prog X.w X.K X.mg X.base (L2.CX X.prog X.w) lev fa fd ps (spOf kn ps g) ∧ Room lev X.A
theorem q_call {x : Str} {ps : List Str} {g : List D → Sto → R D} {a : Expr} {es : List Expr} {t : Sl → Sto → R (List D)} {p pos : Pos} (tk : Takes X W) (F : FnK X kn x ps g) (hg : Gl X x) (hd : (x == ("__debug__" : Str)) = false) (ha : QA X kn W (a :: es) t) (hl : Long t ps.length)
    (hs : ∀ e ∈ a :: es, ∀ x p, e ≠ .Starred x p) : PE X (.Call (.Name x p) (a :: es) [] pos) (liftE kn W fun σ S => (t σ S).bind g) := by
  obtain ⟨fa, fd, lev, hm, hk, hb, ok, hr⟩ := F.ex
  refine PE.imp (pe_callS ok hr hg hm hk hb (fun σ => passAt tk σ) ha hd (starEach_plain (hs a List.mem_cons_self)) (star_none fun e he => hs e (List.mem_cons_of_mem _ he))) fun σ H Q ⟨ρ, σd, S, rl, re, h⟩ => ⟨ρ, σd, S, rl, re, ?_⟩
  have h' := PostA.bindE h
  try dsimp only at h
  cases e1 : t σd S with
  | no => rw [e1] at h'; exact h'
  | err x fs S' => rw [e1] at h'; exact h'
  | ok ds S' =>
    rw [e1] at h h'
    intro vs H1 ρ1 g1 rl1 r1
    refine ⟨by rw [← r1.length, hl _ _ _ _ e1], ρ1, ds, S', rl1, r1, ?_⟩
    have h2 : PostE kn W σ ρ1 H1 (g ds S') Q := PostE.gr h g1
    cases e2 : g ds S' with
    | no => rw [e2] at h2; exact h2
    | ok d S2 => rw [e2] at h2; exact h2
    | err y fs S2 => rw [e2] at h2; exact h2

/-! ### simple statements -/
theorem q_ret {ta : Sl → Sto → R D} {pos : Pos} (ha : PE X e (liftE kn W ta)) : PS X (.Return (some e) pos) (liftS kn W fun σ S => RS.of (ta σ S) σ fun d S1 => .rt d S1) :=
  PS.imp (ps_ret ha) fun N σ H ⟨ρ, σd, S, rl, re, h⟩ => ⟨ρ, σd, S, rl, re, (PostE.bindS re h).mono fun v H1 ⟨ρ1, d, S1, g1, rl1, r1, h1⟩ => h1 v H1 ρ1 .refl rl1 r1⟩
theorem q_retN {pos : Pos} : PS X (.Return none pos) (liftS kn W fun _ S => .rt .non S) := PS.imp ps_retN fun N σ H ⟨ρ, σd, S, rl, re, h⟩ => h .non H ρ .refl rl .non
theorem q_pass {pos : Pos} : PS X (.Pass pos) (liftS kn W fun σ S => .nx σ S) := PS.imp ps_pass fun N σ H ⟨ρ, σd, S, rl, re, h⟩ => h σ H ρ .refl rl re
theorem q_brk {pos : Pos} : PS X (.Break pos) (liftS kn W fun σ S => .bk σ S) := PS.imp ps_break fun N σ H ⟨ρ, σd, S, rl, re, h⟩ => h σ H ρ .refl rl re
theorem q_cont {pos : Pos} : PS X (.Continue pos) (liftS kn W fun σ S => .ct σ S) := PS.imp ps_continue fun N σ H ⟨ρ, σd, S, rl, re, h⟩ => h σ H ρ .refl rl re
theorem q_doc {x j pos pos'} : PS X (.Expr (.Constant (.str x) j pos) pos') (liftS kn W fun σ S => .nx σ S) := PS.imp ps_doc fun N σ H ⟨ρ, σd, S, rl, re, h⟩ => h σ H ρ .refl rl re
theorem q_expr {ta : Sl → Sto → R D} {pos : Pos} (ha : PE X e (liftE kn W ta)) (hs : swapsWith e none pos.line X.env = pure false) : PS X (.Expr e pos) (liftS kn W fun σ S => RS.of (ta σ S) σ fun _ S1 => .nx σ S1) :=
  PS.imp (ps_expr ha hs) fun N σ H ⟨ρ, σd, S, rl, re, h⟩ => ⟨ρ, σd, S, rl, re, (PostE.bindS re h).mono fun v H1 ⟨ρ1, d, S1, g1, rl1, r1, h1⟩ => h1 σ H1 ρ1 .refl rl1 (re.gr g1)⟩
theorem q_asg {t : Tg} {ta : Sl → Sto → R D} {pos : Pos} (hK : kn.K = X.K) (hc : X.calm = true) (hN : X.N.Nodup) (ht : TgOk X tg t) (ha : PE X e (liftE kn W ta)) (hs : swapsWithSole [tg] e pos.line X.env = pure false) (hw : swappedStores [tg] e X.env = pure none)
    (h1 : (assignEach [tg] X.env).map (·.2) = [assign tg X.env]) : PS X (.Assign [tg] e pos) (liftS kn W fun σ S => RS.of (ta σ S) σ fun d S1 => match asgT t d σ with
      | some σ1 => .nx σ1 S1
      | none => .no) := by
  refine PS.imp (ps_asg ha (ht.pg hN hc) hs hw h1) fun N σ H ⟨ρ, σd, S, rl, re, h⟩ => ⟨ρ, σd, S, rl, re, (PostE.bindS re h).mono fun v H1 ⟨ρ1, d, S1, g1, rl1, r1, h1⟩ => ?_⟩
  split at h1
  · rename_i σ1 e1
    exact asgT_ok hK t d v σd σ1 σ _ r1 (re.gr g1) e1 fun σ' re' _ => h1 σ' H1 ρ1 .refl rl1 re'
  · exact h1.elim
theorem q_if {c : Expr} {tc : Sl → Sto → R Bool} {a b : List Stmt} {fa fb : Sl → Sto → RS} {pos : Pos} (hc : PT X c (liftT kn W tc)) (ha : PSs X a (liftS kn W fa)) (hb : PSs X b (liftS kn W fb)) :
    PS X (.If c a b pos) (liftS kn W fun σ S => RS.of (tc σ S) σ fun k S1 => if k = true then fa σ S1 else fb σ S1) := by
  refine PS.imp (ps_if hc ha hb) fun N σ H ⟨ρ, σd, S, rl, re, h⟩ => ⟨ρ, σd, S, rl, re, (PostT.bindS re h).mono fun k H1 ⟨ρ1, S1, g1, rl1, h1⟩ => ?_⟩
  cases k with
  | true => exact ⟨ρ1, σd, S1, rl1, re.gr g1, h1⟩
  | false => exact ⟨ρ1, σd, S1, rl1, re.gr g1, h1⟩
theorem q_nil : PSs X [] (liftS kn W fun σ S => .nx σ S) := PSs.imp pss_nil fun N σ H ⟨ρ, σd, S, rl, re, h⟩ => h σ H ρ .refl rl re
theorem q_cons {s : Stmt} {r : List Stmt} {f k : Sl → Sto → RS} (h1 : PS X s (liftS kn W f)) (h2 : PSs X r (liftS kn W k)) : PSs X (s :: r) (liftS kn W fun σ S => (f σ S).seq k) := by
  refine PSs.imp (pss_cons h1 h2) fun N σ H ⟨ρ, σd, S, rl, re, h⟩ => ⟨ρ, σd, S, rl, re, ?_⟩
  try dsimp only at h
  cases e1 : f σd S with
  | no => rw [e1] at h; exact h
  | nx σ1 S1 => rw [e1] at h; exact fun σ' H' ρ' g rl' re' => ⟨ρ', σ1, S1, rl', re', PostS.gr h g⟩
  | rt d S1 => rw [e1] at h; exact h
  | bk σ1 S1 => rw [e1] at h; exact h
  | ct σ1 S1 => rw [e1] at h; exact h
  | err x fs σ1 S1 => rw [e1] at h; exact h
end
end Kq
set_option Elab.async false
set_option linter.all false
set_option maxRecDepth 100000
set_option maxHeartbeats 2000000
set_option autoImplicit false
/-! # The Q layer, part J: raise, try, stores, methods -/
namespace Kq
open PySem PySem.Spec PyProof.Rows L2

/-! ### knowing less of the exception in hand -/
def Kn.wec (kn : Kn) (e : Option (Addr × Str × List D × Value × Option Addr)) : Kn := { kn with ec := e }
section
variable {kn : Kn} {e : Option (Addr × Str × List D × Value × Option Addr)} {ρ : List Addr} {H : Hp}
mutual
theorem Rep.wec {e' : Option (Addr × Str × List D × Value × Option Addr)} : ∀ {d : D} {v : V}, Rep (kn.wec e) ρ H d v → Rep (kn.wec e') ρ H d v
  | _, _, .non => .non
  | _, _, .bl => .bl
  | _, _, .int => .int
  | _, _, .str => .str
  | _, _, .tup h r => .tup h (Reps.wec r)
  | _, _, .ref h => .ref h
theorem Reps.wec {e' : Option (Addr × Str × List D × Value × Option Addr)} : ∀ {ds : List D} {vs : List V}, Reps (kn.wec e) ρ H ds vs → Reps (kn.wec e') ρ H ds vs
  | _, _, .nil => .nil
  | _, _, .cons h r => .cons (Rep.wec h) (Reps.wec r)
end
theorem wec_self (kn : Kn) : kn.wec kn.ec = kn := rfl
theorem Rel.wec {e' : Option (Addr × Str × List D × Value × Option Addr)} {S : Sto} (h : Rel (kn.wec e) ρ H S) : Rel (kn.wec e') ρ H S := by
  refine ⟨h.len, h.nd, fun i a o e1 e2 => ?_⟩
  have q := h.obj i a o e1 e2
  cases o with
  | lst mu ds =>
    cases mu with
    | true => obtain ⟨xs, h1, h2⟩ := q; exact ⟨xs, h1, h2.wec⟩
    | false => obtain ⟨xs, h1, h2⟩ := q; exact ⟨xs, h1, h2.wec⟩
  | ins c fs => obtain ⟨C, dx, vs, h0, h1, h2, h3⟩ := q; exact ⟨C, dx, vs, h0, h1, h2, Paired.mapP h3 fun _ _ z => ⟨z.1, z.2.wec⟩⟩
  | rng i j c => exact q
theorem XcR.wec {e' : Option (Addr × Str × List D × Value × Option Addr)} {x : Str} {fs : List D} {cv : Value} {dx : Option Addr} (h : XcR (kn.wec e) ρ H x fs cv dx) : XcR (kn.wec e') ρ H x fs cv dx := by
  obtain ⟨C, h0, h1, h2, h3⟩ := h
  refine ⟨C, h0, h1, h2, ?_⟩
  rcases h3 with h3 | ⟨d, vs, l, e0, e1, e2, e3⟩
  · exact .inl h3
  · exact .inr ⟨d, vs, l, e0, e1, e2.wec, e3⟩
theorem noX_get {σ : Sl} (h : noX σ = true) {i : Nat} : σ[i]? ≠ some (some .exc) := fun z => by
  unfold noX at h
  rw [List.all_eq_true] at h
  have := h _ (List.mem_of_getElem? z)
  cases this
/-- out of a suite -/
theorem RepEnv.outX {σd : Sl} {σ : L2.St} (h : RepEnv (kn.wec e) ρ H σd σ) (hn : noX σd = true) (hk : kn.ec = none) : RepEnv kn ρ H σd σ := by
  refine ⟨h.len, fun i d hd => ?_, fun a x fs cv dx z => by rw [hk] at z; cases z⟩
  obtain ⟨v, h1, h2⟩ := h.get i d hd
  rcases h2 with h2 | ⟨rfl, _⟩
  · exact ⟨v, h1, .inl (wec_self kn ▸ h2.wec)⟩
  · exact absurd hd (noX_get hn)
/-- into a suite -/
theorem RepEnv.inX {σd : Sl} {σ : L2.St} {a : Addr} {x : Str} {fs : List D} {cv : Value} {dx : Option Addr} (h : RepEnv kn ρ H σd σ) (hk : kn.ec = none) (xr : XcR kn ρ H x fs cv dx) : RepEnv (kn.wec (some (a, x, fs, cv, dx))) ρ H σd σ := by
  refine ⟨h.len, fun i d hd => ?_, fun a' x' fs' cv' dx' z => ?_⟩
  · obtain ⟨v, h1, h2⟩ := h.get i d hd
    rcases h2 with h2 | ⟨rfl, a, r, z, _⟩
    · exact ⟨v, h1, .inl (Rep.wec (e := kn.ec) h2)⟩
    · rw [hk] at z; cases z
  · cases z
    exact XcR.wec (e := kn.ec) xr
end

/-! ### raise -/
/-- an own exception class without an __init__ of its own, over ValueError -/
structure ExK (X : Cx) (kn : Kn) (x : Str) : Prop where
  ex : ∃ C, x ∈ kn.xn ∧ kn.cls x = some C ∧ X.mg x = some (.ref C) ∧ PySem.W.keepIn X.K (.ref C) = true ∧ PySem.W.excIn X.K C [.type "ValueError", .type "Exception", .type "BaseException", .type "object"] "ValueError.__new__" = true ∧
    PySem.W.subIn X.K (.ref C) (.type "BaseException") = some true ∧ PySem.W.typeIn X.K (.ref C) = some (.type "type")
section
variable {X : Cx} {kn : Kn} {W : WX}
theorem pmk_own0 {C : Addr} {bmB : List Value} {B newId initId : String} {x : Str} {p pos : Pos} (F : ExcBaseFacts B newId initId bmB) (q : PySem.W.excIn X.K C bmB newId = true) (gC : X.mg x = some (.ref C)) (kC : PySem.W.keepIn X.K (.ref C) = true) (r : Raises X (.ref C)) (hg : Gl X x)
    (hdb : (x == ("__debug__" : Str)) = false) : PMk X (.Call (.Name x p) [] [] pos) (fun _ H Q => Q (.ref C) none H) := by
  intro pins s σ H Q I h
  refine wpAny_Call_Name_kw (ld_glob I hg gC ?_ hdb)
  refine PySem.W.callWith_K0 I.kIn kC ?_
  show wpAny _ _ (call (.ref C) []) _ _ _
  obtain ⟨bm, N, nm, qn, bs, hdct, sn, sub, ab, col, dd, k0, k1, k2, k3, k5, mN, hC, hN, hni, T⟩ := exc_obj I.kIn q
  refine wpAny_call_exc_subT F T hC hN hni (fun h' e hm => ?_) (by show 0 ≤ sizeLine; omega)
  exact mk_of I hm r h (I.hok.gone hm.new)
theorem q_rse0 {x : Str} {p pos pos2 : Pos} (hc : X.calm = true) (tk : Takes X W) (K : ExK X kn x) (hg : Gl X x) (hd : (x == ("__debug__" : Str)) = false) :
    PS X (.Raise (some (.Call (.Name x p) [] [] pos)) none pos2) (liftS kn W fun σ S => .err x [] σ S) := by
  obtain ⟨C, h0, h1, h2, h3, h4, h5, h6⟩ := K.ex
  exact PS.imp (ps_raise hc tk (pmk_own0 PySem.F.excBase_ValueError h4 h2 h3 (raises_own h5 h6) hg hd)) fun N σ H ⟨ρ, σd, S, rl, re, h⟩ =>
    h (.ref C) none σ H ρ .refl rl re ⟨C, h0, h1, rfl, .inl ⟨rfl, rfl⟩⟩

/-! ### try -/
/-- which class is a kind of which, as except asks it -/
def ExmOk (X : Cx) (kn : Kn) (kin : Str → Str → Bool) : Prop :=
  ∀ x C y E, x ∈ kn.xn → kn.cls x = some C → y ∈ kn.xn → kn.cls y = some E → PySem.W.exmOne X.K (.ref C) (.ref E) = some (kin x y)
/-- behind a suite: what it must reach -/
def endsX (i : Option Nat) (N : Ends) : Ends := match i with
  | some i => { nx := fun σ' H' => N.nx (σ'.set i none) H', rt := N.rt, bk := fun σ' H' => N.bk (σ'.set i none) H', ct := fun σ' H' => N.ct (σ'.set i none) H' }
  | none => N
def setX (i : Option Nat) (a : Addr) (σ : L2.St) : L2.St := match i with
  | some i => σ.set i (some (.ref a))
  | none => σ
/-- the reading of a suite -/
def tsX (kn : Kn) (f : Str → List D → Sl → Sto → RS) (a : Addr) (cv : Value) (dx : Option Addr) : TS := fun N σ H => ∃ x fs, liftS (kn.wec (some (a, x, fs, cv, dx))) noW (f x fs) N σ H
theorem suite_of {i : Option Nat} {f : Str → List D → Sl → Sto → RS} {N : Ends} {ρ : List Addr} {H : Hp} {x : Str} {fs : List D} {σd : Sl} {S : Sto} {cv : Value} {dx : Option Addr} {σ : L2.St} {a : Addr} (hk : kn.ec = none)
    (rl : Rel kn ρ H S) (re : RepEnv kn ρ H σd σ) (xr : XcR kn ρ H x fs cv dx) (h : PostS kn W ρ H (outX i (f x fs (inX i σd) S)) N) : tsX kn f a cv dx (endsX i N) (setX i a σ) H := by
  have re1 := re.inX (a := a) hk xr
  have re2 : RepEnv (kn.wec (some (a, x, fs, cv, dx))) ρ H (inX i σd) (setX i a σ) := by
    cases i with
    | none => exact re1
    | some i => exact re1.setX (.inr ⟨rfl, a, _, rfl, rfl⟩)
  refine ⟨x, fs, ρ, inX i σd, S, Rel.wec (e := kn.ec) rl, re2, ?_⟩
  have cl : ∀ {ρ' : List Addr} {H' : Hp} {σ2 : Sl} {σ' : L2.St}, RepEnv (kn.wec (some (a, x, fs, cv, dx))) ρ' H' σ2 σ' → RepEnv (kn.wec (some (a, x, fs, cv, dx))) ρ' H' (clr i σ2) (match i with | some i => σ'.set i none | none => σ') := fun {ρ' H' σ2 σ'} r => by
    cases i with
    | none => exact r
    | some i => exact r.clear i none
  cases e : f x fs (inX i σd) S with
  | no => rw [e] at h; exact h
  | err y gs σ2 S2 => rw [e] at h; exact h.elim
  | rt d S2 =>
    rw [e] at h
    intro v H' ρ' g rl' r
    have q := h v H' ρ' g (wec_self kn ▸ rl'.wec) (wec_self kn ▸ r.wec)
    cases i <;> exact q
  | nx σ2 S2 =>
    rw [e] at h
    unfold outX at h
    intro σ' H' ρ' g rl' re'
    dsimp only at h
    split at h
    · rename_i hn
      have q := h _ H' ρ' g (wec_self kn ▸ rl'.wec) ((cl re').outX hn hk)
      cases i <;> exact q
    · exact h.elim
  | bk σ2 S2 =>
    rw [e] at h
    unfold outX at h
    intro σ' H' ρ' g rl' re'
    dsimp only at h
    split at h
    · rename_i hn
      have q := h _ H' ρ' g (wec_self kn ▸ rl'.wec) ((cl re').outX hn hk)
      cases i <;> exact q
    · exact h.elim
  | ct σ2 S2 =>
    rw [e] at h
    unfold outX at h
    intro σ' H' ρ' g rl' re'
    dsimp only at h
    split at h
    · rename_i hn
      have q := h _ H' ρ' g (wec_self kn ▸ rl'.wec) ((cl re').outX hn hk)
      cases i <;> exact q
    · exact h.elim
theorem tsX_ok {f : Str → List D → Sl → Sto → RS} {a : Addr} {cv : Value} {dx : Option Addr} {suite : List Stmt} {oe : Obj} {pn : List (Addr × Obj)}
    (h : ∀ x fs, PSs (X.suite a ((a, oe) :: pn)) suite (liftS (kn.wec (some (a, x, fs, cv, dx))) noW (f x fs))) : PSs (X.suite a ((a, oe) :: pn)) suite (tsX kn f a cv dx) :=
  ⟨fun pins s σ H N I ⟨x, fs, q⟩ => (h x fs).run pins s σ H N I q⟩
/-- one clause, with a name or without -/
theorem q_try1 {y n : Str} {i : Option Nat} {np pos pos' : Pos} {body suite : List Stmt} {b₀ : Stmt} {f : Sl → Sto → RS} {g : Str → List D → Sl → Sto → RS} {kin : Str → Str → Bool} {E : Addr} (hK : kn.K = X.K) (hk : kn.ec = none)
    (hs : X.stack = X.env :: X.outer) (hf : X.env.frame = some X.env.locals) (hN : X.N.Nodup) (hi : ∀ j, i = some j → X.N[j]? = some n ∧ X.env.kindOf n = some .local) (tk : Takes X W)
    (hm : ExmOk X kn kin) (hy : y ∈ kn.xn) (hE : kn.cls y = some E) (hg : Gl X y) (hd : (y == ("__debug__" : Str)) = false) (hmg : X.mg y = some (.ref E))
    (hb : ∀ (W : WX) (pn : List (Addr × Obj)) (xe : Value → Shared → Prop), Takes (X.tr pn xe) W → PassesOwn (model X.prog X.w) X.A X.env xe → PSs (X.tr pn xe) body (liftS kn W f))
    (hsu : ∀ (a : Addr) (oe : Obj) (cv : Value) (dx : Option Addr) (pn : List (Addr × Obj)) x fs, Zc cv dx oe → (∃ vs, oe.data = .fields vs) → PSs (X.suite a ((a, oe) :: pn)) (b₀ :: suite) (liftS (kn.wec (some (a, x, fs, cv, dx))) noW (g x fs))) :
    PS X (.Try body [.ExceptHandler (some (.Name y np)) (i.map fun _ => n) (b₀ :: suite) pos'] [] [] pos)
      (liftS kn W fun σ S => tryD (f σ S) fun x fs σ1 S1 => if kin x y = true then outX i (g x fs (inX i σ1) S1) else .err x fs σ1 S1) := by
  have key : ∀ {N : Ends} {σ : L2.St} {H : Hp} {W' : WX}, (∀ x fs cv dx ρ σd S σ' H', Rel kn ρ H' S → RepEnv kn ρ H' σd σ' → XcR kn ρ H' x fs cv dx → PostS kn W ρ H' (if kin x y = true then outX i (g x fs (inX i σd) S) else .err x fs σd S) N → W' cv dx σ' H') →
      liftS kn W (fun σ S => tryD (f σ S) fun x fs σ1 S1 => if kin x y = true then outX i (g x fs (inX i σ1) S1) else .err x fs σ1 S1) N σ H → liftS kn W' f N σ H := fun {N σ H W'} hw ⟨ρ, σd, S, rl, re, h⟩ => by
    refine ⟨ρ, σd, S, rl, re, ?_⟩
    dsimp only at h
    cases e : f σd S with
    | no => rw [e] at h; exact h
    | nx σ1 S1 => rw [e] at h; exact h
    | rt d S1 => rw [e] at h; exact h
    | bk σ1 S1 => rw [e] at h; exact h
    | ct σ1 S1 => rw [e] at h; exact h
    | err x fs σ1 S1 => rw [e] at h; exact fun cv dx σ' H' ρ' g' rl' re' xr => hw x fs cv dx ρ' σ1 S1 σ' H' rl' re' xr (PostS.gr h g')
  have nm : Names X y (.ref E) := ⟨hg, hd, .inl hmg⟩
  cases i with
  | some j =>
    obtain ⟨hj, hl⟩ := hi j rfl
    refine PS.imp (ps_try_as (Wout := W) (tb := fun W => liftS kn W f) (ts := tsX kn g) hs hf hN hj hl nm tk hb fun a oe cv dx pn hz hv => tsX_ok fun x fs => hsu a oe cv dx pn x fs hz hv) fun N σ H h => key (fun x fs cv dx ρ σd S σ' H' rl re xr q => ?_) h
    obtain ⟨C, h0, h1, rfl, h3⟩ := id xr
    refine ⟨kin x y, hm x C y E h0 h1 hy hE, fun hb a ha => ?_, fun hb => ?_⟩
    · rw [if_pos hb] at q
      exact suite_of (i := some j) hk rl re xr q
    · rw [hb, if_neg Bool.false_ne_true] at q
      exact q _ dx σ' H' ρ .refl rl re xr
  | none =>
    refine PS.imp (ps_try_only (Wout := W) (tb := fun W => liftS kn W f) (ts := tsX kn g) hs hf nm tk hb fun a oe cv dx pn hz hv => tsX_ok fun x fs => hsu a oe cv dx pn x fs hz hv) fun N σ H h => key (fun x fs cv dx ρ σd S σ' H' rl re xr q => ?_) h
    obtain ⟨C, h0, h1, rfl, h3⟩ := id xr
    refine ⟨kin x y, hm x C y E h0 h1 hy hE, fun hb a ha => ?_, fun hb => ?_⟩
    · rw [if_pos hb] at q
      exact suite_of (i := none) hk rl re xr q
    · rw [hb, if_neg Bool.false_ne_true] at q
      exact q _ dx σ' H' ρ .refl rl re xr


/-! ### the exception in hand: its class, its fields -/
/-- what isinstance and the reading of a field ask of the exception classes -/
structure XnOk (K : PySem.W.Frag) (kn : Kn) (kin : Str → Str → Bool) (fld : Str → List Str) : Prop where
  kit : ∀ x C y E, x ∈ kn.xn → kn.cls x = some C → y ∈ kn.xn → kn.cls y = some E → PySem.W.kitOne K (.ref C) (.ref E) = some (kin x y)
  exc : ∀ x C, x ∈ kn.xn → kn.cls x = some C → ExcC K C
  xfc : ∀ x C, x ∈ kn.xn → kn.cls x = some C → XfC K C
  nof : ∀ x C f, x ∈ kn.xn → kn.cls x = some C → f ∈ kn.fns x → PySem.W.findIn K (.ref C) f = some none
  fns : ∀ x, fld x = kn.fns x
/-- a suite's context, the exception told -/
structure SuOk (X : Cx) (kn : Kn) (ec : Option (Str × List D)) : Prop where
  ex : ∃ (Y : Cx) (a : Addr) (oe : Obj) (pn : List (Addr × Obj)) (x : Str) (fs : List D) (cv : Value) (dx : Option Addr), X = Y.suite a ((a, oe) :: pn) ∧ kn.ec = some (a, x, fs, cv, dx) ∧ ec = some (x, fs) ∧ Zc cv dx oe ∧ ∃ vs, oe.data = .fields vs
/-- isinstance(e, c), e the exception with fields that the suite holds -/
def rIsF (K : PySem.W.Frag) (D a d : Addr) : List V → Hp → VK → Prop := fun xs H Q => ∃ (c : V) (cv : Value) (b : Bool) (l : List (Str × V)), xs = [.ref a, c] ∧ (∀ u, RelV c u → u = cv) ∧ PySem.W.kitOne K (.ref D) cv = some b ∧ H d = some (.xd l) ∧ Q (.bl b) H
theorem call_isF {X : Cx} {a D d : Addr} {oe : Obj} {pn : List (Addr × Obj)} (C : ExcC X.K D) (hz : Zc (.ref D) (some d) oe) (hf : ∃ vs, oe.data = .fields vs) : CallR (X.suite a ((a, oe) :: pn)) (.builtin "isinstance") (rIsF X.K D a d) := by
  intro pins s σ H xs us Q I r h
  obtain ⟨c, cv, b, l, rfl, hcv, e, hdd, q⟩ := h
  cases r with
  | cons rx rr =>
    cases rr with
    | cons rt rr =>
      cases rr
      cases rx
      have ec := hcv _ rt
      subst ec
      obtain ⟨hget, _⟩ := I.pin (a, oe) (List.mem_append.mpr (.inl List.mem_cons_self))
      obtain ⟨vs, hv⟩ := hf
      have hx : ObjOk X.prog X.w H s.heap d (.xd l) := I.hok d _ hdd
      obtain ⟨mA, hns, hr⟩ := hx
      obtain ⟨od, ho, hl⟩ := lookIn_ns hns
      have J : PySem.W.InstAt s.heap a oe D (some od) := ⟨hget, hz.1, by unfold PySem.W.notCls; rw [hv] <;> rfl, by rw [hz.2]; exact ho⟩
      obtain ⟨cdD, hcD, _⟩ := PySem.W.any_some C.hd
      exact PySem.W.kia_one (PySem.W.kitx_exc (by rw [hcD]; rfl) C.hg C.hk C.hs C.ha C.hn C.ht C.hm) I.kIn J e (fun z => nomatch z) fun tk => ⟨.bl b, H, I.kept (t' := tk) fun _ _ z => z, rfl, q⟩
theorem q_eis {ec : Option (Str × List D)} {kin : Str → Str → Bool} {fld : Str → List Str} {i : Nat} {n x y : Str} {p p1 p2 pos : Pos} {E : Addr} (hK : kn.K = X.K) (su : SuOk X kn ec) (xo : XnOk kn.K kn kin fld) (bl : Blt X x (.builtin "isinstance")) (hN : X.N[i]? = some n) (hv : Vis X.env.scope n) (hd : (n == ("__debug__" : Str)) = false) (hcd : (n == ("__classdict__" : Str)) = false)
    (hy : y ∈ kn.xn) (hE : kn.cls y = some E) (hg : Gl X y) (hyd : (y == ("__debug__" : Str)) = false) (hmg : X.mg y = some (.ref E)) :
    PE X (.Call (.Name x p) [.Name n p1, .Name y p2] [] pos) (liftE kn W fun σ S => eisD ec kin y (σ[i]?) S) := by
  obtain ⟨Y, a, oe, pn, z, fs, cv, dx, rfl, hec, rfl, hz, hv'⟩ := su.ex
  refine ⟨fun pins s σ H Q I ⟨ρ, σd, S, rl, re, h⟩ => ?_⟩
  cases e : σd[i]? with
  | none => simp only [e] at h; exact h.elim
  | some o =>
    cases o with
    | none => simp only [e] at h; exact h.elim
    | some d =>
      simp only [e] at h
      cases d with
      | exc =>
        · obtain ⟨v, h1, h2⟩ := re.get i .exc e
          rcases h2 with h2 | ⟨_, a', r', e', rfl⟩
          · cases h2
          · rw [hec] at e'
            cases e'
            obtain ⟨C, z0, z1, z2, z3⟩ := re.ex _ _ _ _ _ hec
            have pa : PA (Y.suite a ((a, oe) :: pn)) [.Name n p1, .Name y p2] (tCons (tVar i) (tCons (tC (.ref E)) tNil)) := pa_cons (pe_var hN hv hd hcd) (pa_cons (pe_glob hg hmg rfl hyd) pa_nil rfl) rfl
            rcases z3 with ⟨_, rfl⟩ | ⟨dd, vs', l, z4, rfl, z5, z6, z7⟩
            · subst z2
              refine (pe_callV (call_isE (xo.exc z C z0 z1 |> fun q => (hK ▸ q : ExcC Y.K C)) hz hv') (.inl ⟨_, rfl⟩) bl pa (by
                intro e he
                simp at he
                rcases he with rfl | rfl <;> exact fun _ _ z => nomatch z)).run pins s σ H Q I ?_
              exact ⟨.ref a, h1, .ref E, .ref E, kin z y, rfl, fun u r => r, hK ▸ xo.kit z C y E z0 z1 hy hE, PostE.now h rl .bl⟩
            · subst z2
              refine (pe_callV (call_isF (xo.exc z C z0 z1 |> fun q => (hK ▸ q : ExcC Y.K C)) hz hv') (.inl ⟨_, rfl⟩) bl pa (by
                intro e he
                simp at he
                rcases he with rfl | rfl <;> exact fun _ _ z => nomatch z)).run pins s σ H Q I ?_
              exact ⟨.ref a, h1, .ref E, .ref E, kin z y, l, rfl, fun u r => r, hK ▸ xo.kit z C y E z0 z1 hy hE, z6, PostE.now h rl .bl⟩
      | _ => exact h.elim
theorem zip_lookup {ρ : List Addr} {H : Hp} {f : Str} {d : D} : ∀ {ns : List Str} {fs : List D} {vs : List V}, Reps kn ρ H fs vs → (ns.zip fs).lookup f = some d → ∃ v, (ns.zip vs).lookup f = some v ∧ Rep kn ρ H d v
  | [], _, _, _, h => by simp at h
  | _ :: _, _, _, .nil, h => by simp at h
  | n :: ns, _, _, .cons (d := d') r t, h => by
    rw [List.zip_cons_cons, List.lookup_cons] at h ⊢
    by_cases e : (f == n) = true
    · rw [e] at h ⊢; simp only at h ⊢; cases h; exact ⟨_, rfl, r⟩
    · have e' : (f == n) = false := by simpa using e
      rw [e'] at h ⊢; simp only at h ⊢; exact zip_lookup t h
theorem zip_mem {f : Str} {d : D} : ∀ {ns : List Str} {fs : List D}, (ns.zip fs).lookup f = some d → f ∈ ns
  | [], _, h => by simp at h
  | _ :: _, [], h => by simp at h
  | n :: ns, d' :: fs, h => by
    rw [List.zip_cons_cons, List.lookup_cons] at h
    by_cases e : (f == n) = true
    · exact List.mem_cons.mpr (.inl (by simpa using e))
    · have e' : (f == n) = false := by simpa using e
      rw [e'] at h; simp only at h; exact List.mem_cons_of_mem _ (zip_mem h)
theorem attrBase_name {n f : Str} {p : Pos} {env : Env} {w : Sem Value} : attributeBase (.Name n p) f env w = w := rfl
theorem q_efl {ec : Option (Str × List D)} {kin : Str → Str → Bool} {fld : Str → List Str} {i : Nat} {n f : Str} {p1 pos : Pos} (hK : kn.K = X.K) (su : SuOk X kn ec) (xo : XnOk kn.K kn kin fld) (hN : X.N[i]? = some n) (hv : Vis X.env.scope n) (hd : (n == ("__debug__" : Str)) = false) (hcd : (n == ("__classdict__" : Str)) = false) :
    PE X (.Attribute (.Name n p1) f pos) (liftE kn W fun σ S => eflD ec fld f (σ[i]?) S) := by
  obtain ⟨Y, a, oe, pn, z, fs, cv, dx, rfl, hec, rfl, hz, hv'⟩ := su.ex
  refine ⟨fun pins s σ H Q I ⟨ρ, σd, S, rl, re, h⟩ => ?_⟩
  cases e : σd[i]? with
  | none => simp only [e] at h; exact h.elim
  | some o =>
    cases o with
    | none => simp only [e] at h; exact h.elim
    | some d =>
      simp only [e] at h
      cases d with
      | exc =>
        unfold eflD at h
        dsimp only at h
        cases el : ((fld z).zip fs).lookup f with
        | none => rw [el] at h; exact h.elim
        | some d =>
          rw [el] at h
          obtain ⟨v, h1, h2⟩ := re.get i .exc e
          rcases h2 with h2 | ⟨_, a', r', e', rfl⟩
          · cases h2
          · rw [hec] at e'
            cases e'
            obtain ⟨C, z0, z1, z2, z3⟩ := re.ex _ _ _ _ _ hec
            rcases z3 with ⟨rfl, _⟩ | ⟨dd, vs, ll, _, rfl, z4, z5, z6⟩
            · simp at el
            · subst z2
              rw [xo.fns] at el
              obtain ⟨v, q1, q2⟩ := zip_lookup z4 el
              refine (pe_xf (X := Y) (hK ▸ xo.xfc z C z0 z1) (hK ▸ xo.nof z C f z0 z1 (zip_mem el)) hz hv' (pe_var hN hv hd hcd) attrBase_name).run pins s σ H Q I ?_
              exact ⟨.ref a, h1, rfl, rfl, dd, ll, v, rfl, z5, (z6 f).trans q1, PostE.now h rl q2⟩
      | _ => exact h.elim
end

/-! ### stores -/
section
variable {X : Cx} {kn : Kn} {W : WX} {a b e : Expr}
theorem rs_of2 {α : Type} {r : R α} {σd : Sl} {k : α → Sto → RS} : RS.of r σd k = match r with | .ok a S => k a S | .err x fs S => .err x fs σd S | .no => .no := by cases r <;> rfl
/-- an object of the store is replaced -/
theorem Rel.put {ρ : List Addr} {H : Hp} {S : Sto} {n : Nat} {p : Addr} {o' : Ob} {u u' : HO} (rl : Rel kn ρ H S) (hp : ρ[n]? = some p) (hu : H p = some u) (hf : fixed u = false) (new : ObR kn ρ (upd H p u') p o') : Rel kn ρ (upd H p u') (S.set n o') := by
  have fx : ∀ c v, H c = some v → fixed v = true → upd H p u' c = some v := fun c v e f => by
    rw [upd_ne (fun z => by rw [z, hu] at e; cases e; rw [hf] at f; cases f)]; exact e
  refine ⟨by rw [List.length_set]; exact rl.len, rl.nd, fun i b o e1 e2 => ?_⟩
  by_cases hi : n = i
  · subst hi
    rw [hp] at e1
    cases e1
    have hl : n < S.length := by rw [← rl.len]; exact (List.getElem?_eq_some_iff.mp hp).1
    rw [List.getElem?_set_self hl] at e2
    cases e2
    exact new
  · rw [List.getElem?_set_ne hi] at e2
    refine (rl.obj i b o e1 e2).mono (List.prefix_refl _) fx fun v e => ?_
    have nb : b ≠ p := fun z => by
      subst z
      obtain ⟨h1, q1⟩ := List.getElem?_eq_some_iff.mp hp
      obtain ⟨h2, q2⟩ := List.getElem?_eq_some_iff.mp e1
      exact hi ((List.getElem_inj rl.nd).mp (q1.trans q2.symm))
    rw [upd_ne nb]
    exact e
theorem Gr.put {ρ : List Addr} {H : Hp} {p : Addr} {u u' : HO} (hp : p ∈ ρ) (hu : H p = some u) (hf : fixed u = false) : Gr ρ ρ H (upd H p u') :=
  ⟨List.prefix_refl _, fun _ h n => absurd h n, fun c v e f => by
    rw [upd_ne (fun z => by rw [z, hu] at e; cases e; rw [hf] at f; cases f)]; exact e, fun c v e n => by
    rw [upd_ne (fun z => n (by rw [z]; exact hp))]; exact e⟩
theorem subs_store {o i : Expr} {pos : Pos} {env : Env} (h : ∀ l u s p, i ≠ .Slice l u s p) : ∀ v, assign (.Subscript o i pos) env v = (do
      let ov ← holding [v] (eval o env)
      let iv ← holding [v, ov] (eval i env)
      standAt pos
      holding [v, ov, iv] (setItem ov iv v)
      release [v, ov, iv] []) := by
  cases i <;> first | exact fun _ => rfl | exact absurd rfl (h _ _ _ _)
theorem q_sub {i : Expr} {te ta ti : Sl → Sto → R D} {p pos : Pos} (he : PE X e (liftE kn W te)) (ha : PE X a (liftE kn W ta)) (hi : PE X i (liftE kn W ti)) (hs : ∀ l u s p, i ≠ .Slice l u s p) (hsw : swapsWithSole [.Subscript a i p] e pos.line X.env = pure false) (hw : swappedStores [.Subscript a i p] e X.env = pure none) :
    PS X (.Assign [.Subscript a i p] e pos) (liftS kn W fun σ S => RS.of (te σ S) σ fun d S1 => RS.of (ta σ S1) σ fun x S2 => RS.of (ti σ S2) σ fun k S3 => RS.opt (setD x k d S3) σ) := by
  refine PS.imp (ps_asg he (pg_sub ha hi set_list (subs_store hs)) hsw hw rfl) fun N σ H ⟨ρ, σd, S, rl, re, h⟩ => ⟨ρ, σd, S, rl, re, (PostE.bindS re h).mono fun v H1 ⟨ρ1, d, S1, g1, rl1, r1, h1⟩ => ?_⟩
  refine ⟨ρ1, σd, S1, rl1, re.gr g1, (PostE.bindS (re.gr g1) h1).mono fun w H2 ⟨ρ2, x, S2, g2, rl2, r2, h2⟩ => ?_⟩
  refine ⟨ρ2, σd, S2, rl2, (re.gr g1).gr g2, (PostE.bindS ((re.gr g1).gr g2) h2).mono fun u H3 ⟨ρ3, k, S3, g3, rl3, r3, h3⟩ => ?_⟩
  unfold setD at h3
  split at h3
  · split at h3
    · rename_i ds hn
      split at h3
      · rename_i j hj
        obtain ⟨q, xs, rfl, hq, h4, h5, h6⟩ := rl3.isLst (r2.gr g3) hn
        cases r3
        have gg := Gr.put (ρ := ρ3) (u' := .lst (xs.set j v)) (List.mem_of_getElem? hq) (h6 rfl) rfl
        refine ⟨q, xs, _, j, rfl, rfl, h6 rfl, by rw [← h5.length]; exact hj, ?_⟩
        exact h3 σ _ ρ3 gg (rl3.put hq (h6 rfl) rfl ⟨xs.set j v, upd_same, (h5.gr gg).set (((r1.gr g2).gr g3).gr gg) j⟩) ((((re.gr g1).gr g2).gr g3).gr gg)
      · exact h3.elim
    · exact h3.elim
  · exact h3.elim
theorem ipA {op : Operator} {f : Int → Int → Int} {C : Int → Int → Prop} (h : OpR X (inplaceOp op) (rI C fun i j => .int (f i j))) : PIp X op (rI C fun i j => .int (f i j)) := fun pins s σ H x y v u Q I rx ry q => h pins s σ H x y v u Q I rx ry q
theorem iop_mulI : OpR X (inplaceOp .Mult) (rI (fun i j => IntMulOk i j) fun i j => .int (i * j)) := opI fun _ _ _ _ _ _ _ hc q => imul_int q hc
theorem q_aug {o : BO} {op : Operator} {i : Nat} {x : Str} {te : Sl → Sto → R D} {p pos : Pos} (hop : (o, op) ∈ [(BO.add, Operator.Add), (.sub, .Sub), (.mul, .Mult)]) (hN : X.N.Nodup) (hi : X.N[i]? = some x) (hx : Loc X.env.scope x) (hf : X.fn x = true ∨ X.env.scope.names.lookup x = some .local) (he : PE X e (liftE kn W te)) :
    PS X (.AugAssign (.Name x p) op e pos) (liftS kn W fun σ S => RS.of (locD (σ[i]?) S) σ fun x S1 => RS.of (te σ S1) σ fun y S2 => RS.of (augD o x y S2) σ fun z S3 => .nx (σ.set i (some z)) S3) := by
  have hip : ∃ r : R2, PIp X op r ∧ ∀ (ii jj : Int) (S : Sto) (σ : L2.St) (ρ : List Addr) (H : Hp) (Q : VK), Rel kn ρ H S → PostE kn W σ ρ H (binD o (.int ii) (.int jj) S) Q → r (.int ii) (.int jj) H Q := by
    simp only [List.mem_cons, List.not_mem_nil, or_false, Prod.mk.injEq] at hop
    rcases hop with ⟨rfl, rfl⟩ | ⟨rfl, rfl⟩ | ⟨rfl, rfl⟩
    · exact ⟨_, ip_add, fun ii jj S σ ρ H Q rl h => ⟨ii, jj, rfl, rfl, PostE.now h rl .int⟩⟩
    · exact ⟨_, ip_sub, fun ii jj S σ ρ H Q rl h => ⟨ii, jj, rfl, rfl, PostE.now h rl .int⟩⟩
    · refine ⟨_, ipA iop_mulI, fun ii jj S σ ρ H Q rl h => ?_⟩
      unfold binD at h
      dsimp only at h
      split at h
      · rename_i hm
        exact ⟨ii, jj, rfl, rfl, mulOk_ok hm, PostE.now h rl .int⟩
      · exact h.elim
  obtain ⟨r, hr, hb⟩ := hip
  refine PS.imp (ps_aug hN hi hx he hr hf) fun N σ H ⟨ρ, σd, S, rl, re, h⟩ => ?_
  dsimp only at h
  cases e1 : σd[i]? with
  | none => rw [e1] at h; exact h.elim
  | some o' =>
    cases o' with
    | none => rw [e1] at h; exact h.elim
    | some d =>
      rw [e1] at h
      obtain ⟨v, h1, h2⟩ := re.get i d e1
      rcases h2 with h2 | ⟨rfl, _⟩
      · have h' : PostS kn W ρ H (RS.of (te σd S) σd fun y S2 => RS.of (augD o d y S2) σd fun z S3 => .nx (σd.set i (some z)) S3) N := by
          cases d <;> first | exact h | exact h.elim
        refine ⟨v, h1, ρ, σd, S, rl, re, (PostE.bindS re h').mono fun w H1 ⟨ρ1, y, S1, g1, rl1, r1, h3⟩ => ?_⟩
        unfold augD at h3
        split at h3
        · cases h2
          cases r1
          refine hb _ _ S1 σ ρ1 H1 _ rl1 ((PostE.bindS (re.gr g1) h3).mono fun u H2 ⟨ρ2, z, S2, g2, rl2, r2, h4⟩ => ?_)
          exact h4 _ H2 ρ2 .refl rl2 (((re.gr g1).gr g2).set r2)
        · exact h3.elim
      · exact h.elim
theorem q_par {i j : Nat} {x y : Str} {ta tb : Sl → Sto → R D} {px py pt pos pt2 : Pos} {kt k2} (hc : X.calm = true) (hN : X.N.Nodup) (hi : X.N[i]? = some x) (hj : X.N[j]? = some y) (hij : i ≠ j) (hx : X.env.scope.names.lookup x = some .local) (hy : X.env.scope.names.lookup y = some .local)
    (ha : PE X a (liftE kn W ta)) (hb : PE X b (liftE kn W tb)) (h1 : ∀ x p, a ≠ .Starred x p) (h2 : ∀ x p, b ≠ .Starred x p)
    (hw : swappedStores [.Tuple [.Name x px, .Name y py] kt pt] (.Tuple [a, b] k2 pt2) X.env = pure (some [x, y])) (hs : swapsWithSole [.Tuple [.Name x px, .Name y py] kt pt] (.Tuple [a, b] k2 pt2) pos.line X.env = pure false) :
    PS X (.Assign [.Tuple [.Name x px, .Name y py] kt pt] (.Tuple [a, b] k2 pt2) pos) (liftS kn W fun σ S => RS.of (ta σ S) σ fun x S1 => RS.of (tb σ S1) σ fun y S2 => .nx ((σ.set i (some x)).set j (some y)) S2) := by
  refine PS.imp (ps_par hc hN hi hj hij hx hy (pa_cons ha (pa_cons hb pa_nil (starEach_plain h2)) (starEach_plain h1)) hw hs) fun N σ H ⟨ρ, σd, S, rl, re, h⟩ => ⟨ρ, σd, S, rl, re, (PostE.bindS re h).mono fun v H1 ⟨ρ1, d, S1, g1, rl1, r1, h1⟩ => ?_⟩
  refine ⟨ρ1, σd, S1, rl1, re.gr g1, (PostE.bindS (re.gr g1) h1).mono fun w H2 ⟨ρ2, x, S2, g2, rl2, r2, h2⟩ => ?_⟩
  exact ⟨v, w, rfl, h2 _ H2 ρ2 .refl rl2 ((((re.gr g1).gr g2).set (r1.gr g2)).set r2)⟩

/-! ### append -/
theorem attrBase_any {o : Expr} {f : Str} {env : Env} {w : Sem Value} (h : ∀ id p pos, o ≠ .Call (.Name id p) [] [] pos) : attributeBase o f env w = w := by
  unfold attributeBase
  split
  · exact absurd rfl (h _ _ _)
  · rfl
theorem q_append {ta : Sl → Sto → R D} {tb : Sl → Sto → R (List D)} {apos pos : Pos} (hK : kn.K = X.K) (ha : PE X a (liftE kn W ta)) (hb : QA X kn W [b] tb) (hl : Long tb 1) (h1 : ∀ id p pos, a ≠ .Call (.Name id p) [] [] pos) (h2 : ∀ x p, b ≠ .Starred x p) (hline : (apos.endLine == pos.line) = true) :
    PE X (.Call (.Attribute a "append" apos) [b] [] pos) (liftE kn W fun σ S => (ta σ S).bind fun x S1 => if bmChk .append x S1 = true then (tb σ S1).bind fun ds S2 => bmD .append x ds S2 else .no) := by
  have st : starEach [b] X.env = (false, eval b X.env) :: starEach [] X.env := starEach_plain h2
  refine PE.imp (pe_bm PySem.F.plainAttrs_list PySem.F.slot_list_append PySem.F.type_list_append (fun pins s σ H x xs v us Q I rx rv q => mt_append pins s σ H x xs v us Q I rx rv q) ha hb (attrBase_any h1) (by rw [st]; rfl) hline st rfl) fun σ H Q ⟨ρ, σd, S, rl, re, h⟩ => ⟨ρ, σd, S, rl, re, (PostE.bindE h).mono fun v H1 ⟨ρ1, x, S1, g1, rl1, r1, h1⟩ => ?_⟩
  split at h1
  · rename_i hc
    unfold bmChk at hc
    dsimp only at hc
    split at hc
    · rename_i n
      split at hc
      · rename_i ds hn
        obtain ⟨q, xs, rfl, hq, h4, h5, h6⟩ := rl1.isLst r1 hn
        refine ⟨.inl ⟨rfl, xs, hK ▸ h4⟩, ρ1, σd, S1, rl1, re.gr g1, ?_⟩
        have h1' := PostA.bindE h1
        cases e1 : tb σd S1 with
        | no => rw [e1] at h1'; exact h1'
        | err x fs S' => rw [e1] at h1'; exact h1'
        | ok es S2 =>
          rw [e1] at h1 h1'
          intro vs H2 ρ2 g2 rl2 r2
          have h3 : PostE kn W σ ρ2 H2 (bmD .append (.ref n) es S2) Q := PostE.gr h1 g2
          have l := hl _ _ _ _ e1
          match es, l with
          | [d], _ =>
            obtain ⟨y, rfl, ry⟩ := r2.one
            unfold bmD at h3
            dsimp only at h3
            split at h3
            · rename_i zs hz
              split at h3
              · rename_i hlen
                have r1' : Rep kn ρ2 H2 (.ref n) (.ref q) := .ref (pre_get g2.pre hq)
                obtain ⟨q', ys, eq, hq', k4, k5, k6⟩ := rl2.isLst r1' hz
                cases eq
                have gg := Gr.put (ρ := ρ2) (u' := .lst (ys ++ [y])) (List.mem_of_getElem? hq') (k6 rfl) rfl
                refine ⟨q, ys, y, rfl, rfl, k6 rfl, by rw [← k5.length]; exact Nat.lt_of_lt_of_le hlen big_le, ?_⟩
                exact h3 .non _ ρ2 gg (rl2.put hq' (k6 rfl) rfl ⟨ys ++ [y], upd_same, (k5.gr gg).append (.cons (ry.gr gg) .nil)⟩) .non
              · exact h3.elim
            · exact h3.elim
      · cases hc
    · cases hc
  · exact h1.elim
theorem q_extend {ta : Sl → Sto → R D} {tb : Sl → Sto → R (List D)} {apos pos : Pos} (hK : kn.K = X.K) (ha : PE X a (liftE kn W ta)) (hb : QA X kn W [b] tb) (hl : Long tb 1) (h1 : ∀ id p pos, a ≠ .Call (.Name id p) [] [] pos) (h2 : ∀ x p, b ≠ .Starred x p) (hline : (apos.endLine == pos.line) = true) :
    PE X (.Call (.Attribute a "extend" apos) [b] [] pos) (liftE kn W fun σ S => (ta σ S).bind fun x S1 => if bmChk .extend x S1 = true then (tb σ S1).bind fun ds S2 => bmD .extend x ds S2 else .no) := by
  have st : starEach [b] X.env = (false, eval b X.env) :: starEach [] X.env := starEach_plain h2
  refine PE.imp (pe_bm PySem.F.plainAttrs_list PySem.F.slot_list_extend PySem.F.type_list_extend (fun pins s σ H x xs v us Q I rx rv q => mt_extend pins s σ H x xs v us Q I rx rv q) ha hb (attrBase_any h1) (by rw [st]; rfl) hline st rfl) fun σ H Q ⟨ρ, σd, S, rl, re, h⟩ => ⟨ρ, σd, S, rl, re, (PostE.bindE h).mono fun v H1 ⟨ρ1, x, S1, g1, rl1, r1, h1⟩ => ?_⟩
  split at h1
  · rename_i hc
    unfold bmChk at hc
    dsimp only at hc
    split at hc
    · rename_i n
      split at hc
      · rename_i ds hn
        obtain ⟨q, xs, rfl, hq, h4, h5, h6⟩ := rl1.isLst r1 hn
        refine ⟨.inl ⟨rfl, xs, hK ▸ h4⟩, ρ1, σd, S1, rl1, re.gr g1, ?_⟩
        have h1' := PostA.bindE h1
        cases e1 : tb σd S1 with
        | no => rw [e1] at h1'; exact h1'
        | err x fs S' => rw [e1] at h1'; exact h1'
        | ok es S2 =>
          rw [e1] at h1 h1'
          intro vs H2 ρ2 g2 rl2 r2
          have h3 : PostE kn W σ ρ2 H2 (bmD .extend (.ref n) es S2) Q := PostE.gr h1 g2
          have l := hl _ _ _ _ e1
          match es, l with
          | [d], _ =>
            obtain ⟨y, rfl, ry⟩ := r2.one
            cases d with
            | ref m =>
            unfold bmD at h3
            dsimp only at h3
            split at h3
            all_goals first | exact h3.elim | skip
            rename_i zs ws hz hw
            split at h3
            all_goals first | exact h3.elim | skip
            rename_i hlen
            have r1' : Rep kn ρ2 H2 (.ref n) (.ref q) := .ref (pre_get g2.pre hq)
            obtain ⟨q', ys, eq, hq', k4, k5, k6⟩ := rl2.isLst r1' hz
            cases eq
            obtain ⟨b, us, eb, hb', l4, l5, l6⟩ := rl2.isLst ry hw
            subst eb
            have gg := Gr.put (ρ := ρ2) (u' := .lst (ys ++ us)) (List.mem_of_getElem? hq') (k6 rfl) rfl
            refine ⟨q, b, ys, us, rfl, rfl, k6 rfl, l6 rfl, by rw [← k5.length, ← l5.length]; exact Nat.le_trans hlen big_le, ?_⟩
            exact h3 .non _ ρ2 gg (rl2.put hq' (k6 rfl) rfl ⟨ys ++ us, upd_same, (k5.gr gg).append (l5.gr gg)⟩) .non
            | _ => exact h3.elim
      · cases hc
    · cases hc
  · exact h1.elim
end
end Kq
set_option Elab.async false
set_option linter.all false
set_option maxRecDepth 100000
set_option maxHeartbeats 2000000
set_option autoImplicit false
/-! # The Q layer, part Jm: several except clauses, each with a name or without -/
namespace Kq
open PySem PySem.Spec PyProof.Rows L2
inductive HdL (X : Cx) : List ExceptHandler → List (Value × Option Nat × (Addr → Value → Option Addr → TS)) → Prop
  | nil : HdL X [] []
  | cons {x n : Str} {c : Value} {i : Option Nat} {ts : Addr → Value → Option Addr → TS} {b₀ : Stmt} {suite : List Stmt} {np pos' : Pos} {hds : List ExceptHandler} {l : List (Value × Option Nat × (Addr → Value → Option Addr → TS))} (hc : Names X x c)
      (hi : ∀ j, i = some j → X.N[j]? = some n ∧ X.env.kindOf n = some .local)
      (hsu : ∀ (a : Addr) (oe : Obj) (cls : Value) (d : Option Addr) (pn : List (Addr × Obj)), Zc cls d oe → (∃ vs, oe.data = .fields vs) → PSs (X.suite a ((a, oe) :: pn)) (b₀ :: suite) (ts a cls d)) (r : HdL X hds l) :
      HdL X (.ExceptHandler (some (.Name x np)) (i.map fun _ => n) (b₀ :: suite) pos' :: hds) ((c, i, ts) :: l)
/-- what the clauses wish of an exception of the body, one after the other -/
def wMn (K : PySem.W.Frag) (Wout : WX) (D : Ends) : List (Value × Option Nat × (Addr → Value → Option Addr → TS)) → WX
  | [] => Wout
  | (c, i, ts) :: r => fun cls d σ H => ∃ b, PySem.W.exmOne K cls c = some b ∧ (b = true → ∀ a, H a = none → ts a cls d (endsX i D) (setX i a σ) H) ∧ (b = false → wMn K Wout D r cls d σ H)
section
variable {X : Cx} {body : List Stmt} {h₀ : ExceptHandler} {hds : List ExceptHandler} {l : List (Value × Option Nat × (Addr → Value → Option Addr → TS))} {pos : Pos} {tb : WX → TS} {Wout : WX}
theorem ps_try_mn (hs : X.stack = X.env :: X.outer) (hf : X.env.frame = some X.env.locals) (hN : X.N.Nodup) (tk : Takes X Wout)
    (hb : ∀ (W : WX) (pn : List (Addr × Obj)) (xe : Value → Shared → Prop), Takes (X.tr pn xe) W → PassesOwn (model X.prog X.w) X.A X.env xe → PSs (X.tr pn xe) body (tb W))
    (hh : HdL X (h₀ :: hds) l) : PS X (.Try body (h₀ :: hds) [] [] pos) (fun D σ H => tb (wMn X.K Wout D l) D σ H) := by
  refine ⟨fun pins s σ H D I h => ?_⟩
  have ok := I.ok
  have hfr : X.A.frames = some (X.env :: X.outer) := by rw [ok.frames, hs]
  refine wpAny_Try_except ?_
  refine wpAny_mono ((hb (wMn X.K Wout D l) (X.pn ++ pins) (fun e s₁ => wpAny (model X.prog X.w) X.A (noteFrame e X.env) (fun _ s₂ => wpAny (model X.prog X.w) X.A (setFlight e none) (fun _ s₃ =>
    wpAny (model X.prog X.w) X.A (handleBy e X.env (h₀ :: hds)) (SP X pins D) X.xe s₃) X.xe s₂) X.xe s₁) (fun u s' xx => ?_) PassesOwn.looking).run [] s σ H D (I.toTry _) h) (fun f s1 hsp => ?_) (fun e s1 he => he)
  · -- the catch
    obtain ⟨a, B, sI, pins', σ', H', cls, d, rfl, J', nb, up, sky, na, os, ag, w⟩ := xx
    have J : Inv X pins σ' H' sI := J'.ofTry ok
    have sky' : Sky B (X.env :: X.outer) a (Zc cls d) X.env.locals s'.heap := by rw [← hs]; exact sky
    show wpAny (model X.prog X.w) X.A (noteFrame (.ref a) X.env) _ _ _
    refine Sky.land Zc.steady hfr hf sky' fun h3 fl3 up3 => ?_
    have J3 : Inv X pins σ' H' { s' with heap := h3 } := J.landed nb fl3.1 (up.trans up3) os ag
    obtain ⟨oe3, vs3, he3, hz3, hd3⟩ := fl3.there
    have notFr : ∀ {h : Heap} {o : Obj} {vs : Array Value}, h.FunFrames B (X.env :: X.outer) → h.get? a = some o → o.data = .fields vs → a ∉ frs (X.env :: X.outer) := fun {h o vs} ff e dd hm => by
      obtain ⟨_, o', e', hnf⟩ := ff.mem hm
      rw [e] at e'; cases e'
      exact hnf _ dd
    have nfr := notFr fl3.2.2.1 he3 hd3
    have nL : a ≠ X.env.locals := fun z => nfr (List.mem_filterMap.mpr ⟨X.env, List.mem_cons_self, by rw [hf, z]⟩)
    have nF : a ∉ X.fs := fun hm => by
      obtain ⟨e, he, q⟩ := List.mem_filterMap.mp hm
      exact nfr (List.mem_filterMap.mpr ⟨e, List.mem_cons_of_mem _ he, q⟩)
    have S3 := J3.suite he3 hd3 na nL nF
    have go : ∀ {hds' : List ExceptHandler} {l' : List (Value × Option Nat × (Addr → Value → Option Addr → TS))}, HdL X hds' l' → wMn X.K Wout D l' cls d σ' H' →
        wpAny (model X.prog X.w) X.A (handleBy (.ref a) X.env hds') (SP X pins D) X.xe { s' with heap := h3 } := by
      intro hds' l' hk
      induction hk with
      | nil =>
        intro w
        refine wpAny_handleBy_nil ?_
        obtain ⟨k1, k2, k3, oe, vs, T, oT, ts', he, hz, hd, h1, hr⟩ := id fl3
        unfold PySem.passOn
        refine wpAny_bind (wpAny_field he hd h1 ?_)
        rw [if_neg (show ¬ ((Value.ref T == Value.none) = true) from by simp)]
        have fin : wpAny (model X.prog X.w) X.A (setFlight (.ref a) X.env.frame) (fun _ s4 => wpAny (model X.prog X.w) X.A (throw (.ref a) : Sem Flow) (SP X pins D) X.xe s4) X.xe { s' with heap := h3 } := by
          rw [hf]
          refine HandSPX.setFlight_upZ fl3 fun h4 hh4 up4 => wpAny_throw (tk _ _ ?_)
          exact ⟨a, B, sI, pins, σ', H', cls, d, rfl, J, nb, (up.trans up3).trans up4, .inr (.inr (by rw [hs]; exact hh4)), na, os, ag, w⟩
        first
          | exact wpAny_bind (wpAny_pure (wpAny_bind fin))
          | exact wpAny_bind fin
      | @cons x n c i ts b₀ suite np pos' hds2 l2 hc hi hsu r ih =>
        intro w
        obtain ⟨b, hb1, hyes, hno⟩ := w
        refine wpAny_handleBy_cons (codeAny_handlers_test ?_) (by intro q; cases q)
        have LT : PySem.W.Looks (model X.prog X.w) h3 (typeOf (.ref a)) cls := fun A Q E s k q => wpAny_typeOf_ref (k _ _ he3) (by rw [hz3.1]; exact q)
        have LM := PySem.W.exm_one (M := model X.prog X.w) (J3.kIn) LT hb1
        have test : ∀ {Q : Value → Shared → Prop} {E : Value → Shared → Prop}, Q c { s' with heap := h3 } → wpAny (model X.prog X.w) (X.A.mark (some (.ref a))) (eval (.Name x np) X.env) Q E { s' with heap := h3 } := fun {Q E} q => by
          obtain ⟨hg, hdbg, hm | ⟨hm, hv, hnn⟩⟩ := hc
          · exact ld_glob (X := X.suite a ((a, oe3) :: (X.pn ++ pins))) S3 hg hm q hdbg
          · exact ld_blt (X := X.suite a ((a, oe3) :: (X.pn ++ pins))) S3 hg hm hv q hnn hdbg
        refine test (LM.here ?_)
        cases b with
        | true =>
          cases i with
          | none =>
            refine codeAny_handlers_suite ?_
            refine HandSPX.lands_againZ fl3 fun h4 fl4 up4 => ?_
            have J4 : Inv X pins σ' H' { s' with heap := h4 } := J.landed nb fl4.1 ((up.trans up3).trans up4) os ag
            obtain ⟨oe4, vs4, he4, hz4, hd4⟩ := fl4.there
            have S4 := J4.suite he4 hd4 na nL nF
            refine wpAny_mono ((hsu a oe4 cls d (X.pn ++ pins) hz4 ⟨_, hd4⟩).run [] _ _ H' _ S4 (hyes rfl a na)) (fun f s6 hsp => ?_) (fun _ _ z => False.elim z)
            cases f with
            | next =>
              obtain ⟨σ6, H6, S6, q6⟩ := hsp
              exact ⟨_, _, S6.unsuite ok, q6⟩
            | brk =>
              obtain ⟨σ6, H6, S6, q6⟩ := hsp
              exact ⟨_, _, S6.unsuite ok, q6⟩
            | cont =>
              obtain ⟨σ6, H6, S6, q6⟩ := hsp
              exact ⟨_, _, S6.unsuite ok, q6⟩
            | ret u =>
              obtain ⟨v6, σ6, H6, S6, r6, q6⟩ := hsp
              exact ⟨_, _, _, S6.unsuite ok, r6, q6⟩
          | some j =>
            obtain ⟨hj, hln⟩ := hi j rfl
            have hloc : Loc X.env.scope n := .inl hln
            refine codeAny_handlers_suite_as ?_
            refine HandSPX.lands_againZ fl3 fun h4 fl4 up4 => ?_
            have J4 : Inv X pins σ' H' { s' with heap := h4 } := J.landed nb fl4.1 ((up.trans up3).trans up4) os ag
            obtain ⟨oe4, vs4, he4, hz4, hd4⟩ := fl4.there
            have S4 := J4.suite he4 hd4 na nL nF
            refine store_ok (X := X.suite a ((a, oe4) :: (X.pn ++ pins))) (v := .ref a) S4 hN hj hloc rfl (fun s5 S5 => ?_) (.inr hln)
            refine wpAny_mono ((hsu a oe4 cls d (X.pn ++ pins) hz4 ⟨_, hd4⟩).run [] s5 _ H' _ S5 (hyes rfl a na)) (fun f s6 hsp => ?_) (fun _ _ z => False.elim z)
            have end_ : ∀ {σ6 : L2.St} {H6 : Hp} {Q : Shared → Prop}, Inv (X.suite a ((a, oe4) :: (X.pn ++ pins))) [] σ6 H6 s6 → (∀ s7, Inv X pins (σ6.set j none) H6 s7 → Q s7) →
                wpAny (model X.prog X.w) X.A (do bindName X.env n .none; unbindBehindTheSuite X.env n pos') (fun _ s7 => Q s7) X.xe s6 := fun {σ6 H6 Q} S6 hq => gone_ok (S6.unsuite ok) hN hj hln hq
            cases f with
            | next =>
              obtain ⟨σ6, H6, S6, q6⟩ := hsp
              exact end_ S6 fun s7 J7 => ⟨_, _, J7, q6⟩
            | brk =>
              obtain ⟨σ6, H6, S6, q6⟩ := hsp
              exact end_ S6 fun s7 J7 => ⟨_, _, J7, q6⟩
            | cont =>
              obtain ⟨σ6, H6, S6, q6⟩ := hsp
              exact end_ S6 fun s7 J7 => ⟨_, _, J7, q6⟩
            | ret u =>
              obtain ⟨v6, σ6, H6, S6, r6, q6⟩ := hsp
              exact end_ S6 fun s7 J7 => ⟨_, _, _, J7, r6, q6⟩
        | false =>
          show wpAny _ X.A (handleBy (.ref a) X.env hds2) _ _ _
          exact ih (hno rfl)
    exact go hh w
  · cases f with
    | next =>
      obtain ⟨σ', H', J', q⟩ := hsp
      exact wpAny_execs_nil ⟨σ', H', J'.ofTry ok, q⟩
    | brk =>
      obtain ⟨σ', H', J', q⟩ := hsp
      exact ⟨σ', H', J'.ofTry ok, q⟩
    | cont =>
      obtain ⟨σ', H', J', q⟩ := hsp
      exact ⟨σ', H', J'.ofTry ok, q⟩
    | ret u =>
      obtain ⟨v, σ', H', J', r, q⟩ := hsp
      exact ⟨v, σ', H', J'.ofTry ok, r, q⟩
end
/-- clauses, translated -/
inductive HdC (X : Cx) (kn : Kn) (F : Wd) : List ExceptHandler → Hds → Prop
  | nil : HdC X kn F [] .nil
  | cons {y n : Str} {i : Option Nat} {b₀ : Stmt} {suite : List Stmt} {np pos' : Pos} {E : Addr} {g : Cms} {hs : List ExceptHandler} {r : Hds} (hi : ∀ j, i = some j → X.N[j]? = some n ∧ X.env.kindOf n = some .local)
      (hy : y ∈ kn.xn) (hE : kn.cls y = some E) (hg : Gl X y) (hd : (y == ("__debug__" : Str)) = false) (hmg : X.mg y = some (.ref E))
      (hsu : ∀ (a : Addr) (oe : Obj) (cv : Value) (dx : Option Addr) (pn : List (Addr × Obj)) x fs, Zc cv dx oe → (∃ vs, oe.data = .fields vs) → PSs (X.suite a ((a, oe) :: pn)) (b₀ :: suite) (liftS (kn.wec (some (a, x, fs, cv, dx))) noW fun σ S => evSs g { F with ec := some (x, fs) } σ S))
      (h : HdC X kn F hs r) : HdC X kn F (.ExceptHandler (some (.Name y np)) (i.map fun _ => n) (b₀ :: suite) pos' :: hs) (.cons y i g r)
theorem HdC.all {X : Cx} {kn : Kn} {F : Wd} {W : WX} (hk : kn.ec = none) (hm : ExmOk X kn F.kin) : ∀ {hs : List ExceptHandler} {h : Hds}, HdC X kn F hs h →
    ∃ l, HdL X hs l ∧ ∀ (N : Ends) (x : Str) (fs : List D) (cv : Value) (dx : Option Addr) (ρ : List Addr) (σd : Sl) (S : Sto) (σ' : L2.St) (H' : Hp), Rel kn ρ H' S → RepEnv kn ρ H' σd σ' → XcR kn ρ H' x fs cv dx → PostS kn W ρ H' (evH h F x fs σd S) N → wMn X.K W N l cv dx σ' H' := by
  intro hs h hc
  induction hc with
  | nil => exact ⟨[], .nil, fun N x fs cv dx ρ σd S σ' H' rl re xr q => q cv dx σ' H' ρ .refl rl re xr⟩
  | @cons y n i b₀ suite np pos' E g hs r hi hy hE hg hd hmg hsu _ ih =>
    obtain ⟨l, h1, h2⟩ := ih
    refine ⟨_, .cons ⟨hg, hd, .inl hmg⟩ hi (fun a oe cls d pn hz hv => tsX_ok (f := fun x fs σ S => evSs g { F with ec := some (x, fs) } σ S) fun x fs => hsu a oe cls d pn x fs hz hv) h1, fun N x fs cv dx ρ σd S σ' H' rl re xr q => ?_⟩
    obtain ⟨C, h0, h3, rfl, h5⟩ := id xr
    have q : PostS kn W ρ H' (if F.kin x y = true then outX i (evSs g { F with ec := some (x, fs) } (inX i σd) S) else evH r F x fs σd S) N := q
    refine ⟨F.kin x y, hm x C y E h0 h3 hy hE, fun hb a ha => ?_, fun hb => ?_⟩
    · rw [if_pos hb] at q
      exact suite_of (f := fun x fs σ S => evSs g { F with ec := some (x, fs) } σ S) hk rl re xr q
    · rw [hb, if_neg Bool.false_ne_true] at q
      exact h2 N x fs _ dx ρ σd S σ' H' rl re xr q
theorem q_tryM {X : Cx} {kn : Kn} {F : Wd} {W : WX} {body : List Stmt} {h₀ : ExceptHandler} {hds : List ExceptHandler} {h : Hds} {f : Sl → Sto → RS} {pos : Pos} (hk : kn.ec = none) (hs : X.stack = X.env :: X.outer) (hf : X.env.frame = some X.env.locals) (hN : X.N.Nodup) (tk : Takes X W) (hm : ExmOk X kn F.kin)
    (hb : ∀ (W : WX) (pn : List (Addr × Obj)) (xe : Value → Shared → Prop), Takes (X.tr pn xe) W → PassesOwn (model X.prog X.w) X.A X.env xe → PSs (X.tr pn xe) body (liftS kn W f))
    (hh : HdC X kn F (h₀ :: hds) h) : PS X (.Try body (h₀ :: hds) [] [] pos) (liftS kn W fun σ S => tryD (f σ S) fun x fs σ1 S1 => evH h F x fs σ1 S1) := by
  obtain ⟨l, h1, h2⟩ := HdC.all (W := W) hk hm hh
  refine PS.imp (ps_try_mn (Wout := W) (tb := fun W => liftS kn W f) hs hf hN tk hb h1) fun N σ H ⟨ρ, σd, S, rl, re, q⟩ => ⟨ρ, σd, S, rl, re, ?_⟩
  dsimp only at q
  cases e : f σd S with
  | no => rw [e] at q; exact q
  | nx σ1 S1 => rw [e] at q; exact q
  | rt d S1 => rw [e] at q; exact q
  | bk σ1 S1 => rw [e] at q; exact q
  | ct σ1 S1 => rw [e] at q; exact q
  | err x fs σ1 S1 => rw [e] at q; exact fun cv dx σ' H' ρ' g' rl' re' xr => h2 N x fs cv dx ρ' σ1 S1 σ' H' rl' re' xr (PostS.gr q g')
end Kq
set_option Elab.async false
set_option linter.all false
set_option maxRecDepth 100000
set_option maxHeartbeats 2000000
set_option autoImplicit false
/-! # The Q layer, part K: calls with keywords and defaults; names -/
namespace Kq
open PySem PySem.Spec PyProof.Rows L2

/-! ### texts are compared -/
def lEq : List Nat → List Nat → Bool
  | [], [] => true
  | a :: r, b :: s => Nat.beq a b && lEq r s
  | [], _ :: _ => false
  | _ :: _, [] => false
theorem lEq_iff : ∀ {a b : List Nat}, lEq a b = true ↔ a = b
  | [], [] => by simp [lEq]
  | a :: r, b :: s => by
    unfold lEq
    rw [Bool.and_eq_true, lEq_iff, Nat.beq_eq, List.cons.injEq]
  | [], _ :: _ => by simp [lEq]
  | _ :: _, [] => by simp [lEq]
def sEq (x y : Str) : Bool := lEq x.cps.toList y.cps.toList
theorem sEq_iff {x y : Str} : sEq x y = true ↔ x = y := by
  unfold sEq
  rw [lEq_iff]
  constructor
  · intro h
    cases x; cases y
    congr 1
    exact Array.toList_inj.mp h
  · intro h; rw [h]
def ixOf (x : Str) : List Str → Option Nat
  | [] => none
  | y :: r => if sEq x y = true then some 0 else (ixOf x r).map (· + 1)
theorem ixOf_get {x : Str} : ∀ {N : List Str} {i : Nat}, ixOf x N = some i → N[i]? = some x
  | [], _, h => by cases h
  | y :: r, i, h => by
    unfold ixOf at h
    split at h
    · rename_i e
      cases h
      rw [sEq_iff.mp e]
      rfl
    · rw [Option.map_eq_some_iff] at h
      obtain ⟨j, hj, rfl⟩ := h
      rw [List.getElem?_cons_succ]; exact ixOf_get hj
def kd (x : Str) : List (Str × NameKind) → Option NameKind
  | [] => none
  | (y, k) :: r => if sEq x y = true then some k else kd x r
theorem kd_eq {x : Str} : ∀ {l : List (Str × NameKind)}, kd x l = l.lookup x
  | [] => rfl
  | (y, k) :: r => by
    unfold kd
    rw [List.lookup_cons, kd_eq (l := r)]
    by_cases e : sEq x y = true
    · rw [if_pos e]
      have : x = y := sEq_iff.mp e
      subst this
      simp
    · rw [if_neg e]
      have : ¬x = y := fun z => e (sEq_iff.mpr z)
      have e2 : (x == y) = false := by simpa using this
      rw [e2]

/-! ### calls with keywords and defaults -/
def conV : D → V
  | .bl b => .bl b
  | .int i => .int i
  | .str x => .str x
  | _ => .non
theorem conV_rep {kn : Kn} {ρ : List Addr} {H : Hp} {d : D} (h : flatD d = true) : Rep kn ρ H d (conV d) := by
  cases d <;> first | exact .non | exact .bl | exact .int | exact .str | cases h
theorem conV_reps {kn : Kn} {ρ : List Addr} {H : Hp} : ∀ {ds : List D}, ds.all flatD = true → Reps kn ρ H ds (ds.map conV)
  | [], _ => .nil
  | d :: r, h => by
    rw [List.all_cons, Bool.and_eq_true] at h
    exact .cons (conV_rep h.1) (conV_reps h.2)
def pickV (arr : List Nat) (xs : List V) : List V := arr.map fun i => xs.getD i .non
def pickU (arr : List Nat) (xs : List Value) : List Value := arr.map fun i => xs.getD i .none
theorem vals_getD : ∀ {vs : List V} {us : List Value} (i : Nat), Vals vs us → RelV (vs.getD i .non) (us.getD i .none)
  | _, _, i, .nil => by simp; rfl
  | _, _, 0, .cons h _ => h
  | _, _, i + 1, .cons _ r => by simpa using vals_getD i r
theorem vals_pick {vs : List V} {us : List Value} (h : Vals vs us) : ∀ arr : List Nat, Vals (pickV arr vs) (pickU arr us)
  | [] => .nil
  | i :: r => .cons (vals_getD i h) (vals_pick h r)
theorem reps_getD {kn : Kn} {ρ : List Addr} {H : Hp} : ∀ {ds : List D} {vs : List V} (i : Nat), Reps kn ρ H ds vs → Rep kn ρ H (ds.getD i .non) (vs.getD i .non)
  | _, _, i, .nil => by simp; exact .non
  | _, _, 0, .cons h _ => h
  | _, _, i + 1, .cons _ r => by simpa using reps_getD i r
theorem reps_pick {kn : Kn} {ρ : List Addr} {H : Hp} {ds : List D} {vs : List V} (h : Reps kn ρ H ds vs) : ∀ arr : List Nat, Reps kn ρ H (pickD arr ds) (pickV arr vs)
  | [] => .nil
  | i :: r => .cons (reps_getD i h) (reps_pick h r)
/-- a form of call: n positional arguments, keywords ks, defaults dfl; arr: the parameters' order -/
structure Shape where
  n : Nat
  ks : List Str
  dfl : List D
  arr : List Nat
structure ShOk (K : PySem.W.Frag) (fd : FuncData) (ps : List Str) (z : Shape) : Prop where
  flat : z.dfl.all flatD = true
  len : z.arr.length = ps.length
  ex : ∃ us0 : List Value, Vals (z.dfl.map conV) us0 ∧ ∀ (s : Shared) (us ws : List Value), K.In s.heap → us.length = z.n → ws.length = z.ks.length → BindsTo s fd ⟨us, z.ks.zip ws⟩ (ps.zip (pickU z.arr (us ++ ws ++ us0)))
/-- a def of the program, by what it does to data -/
structure FnB (X : Cx) (kn : Kn) (x : Str) (ps : List Str) (pos : Bool) (sh : List Shape) (g : List D → Sto → R D) : Prop where
  ex : ∃ (fa : Addr) (fd : FuncData) (lev : Nat), X.mg x = some (.ref fa) ∧ PySem.W.keepIn X.K (.ref fa) = true ∧ FnOk X.prog X.w X.K X.mg X.base (L2.CX X.prog X.w) lev fa fd ps (spOf kn ps g) ∧ Room lev X.A ∧
    (pos = true → Binds X.K fd ps []) ∧ ∀ z ∈ sh, ShOk X.K fd ps z
section
variable {X : Cx} {kn : Kn} {W : WX} {a : Expr} {es : List Expr}
theorem FnB.fnK {x : Str} {ps : List Str} {sh : List Shape} {g : List D → Sto → R D} (F : FnB X kn x ps true sh g) : FnK X kn x ps g := by
  obtain ⟨fa, fd, lev, h1, h2, h3, h4, h5, _⟩ := F.ex
  exact ⟨fa, fd, lev, h1, h2, h5 rfl, h3, h4⟩
theorem sp_of {x : Str} {ps : List Str} {g : List D → Sto → R D} {σ : L2.St} {ρ : List Addr} {H : Hp} {S : Sto} {ds : List D} {vs : List V} {Q : VK} (rl : Rel kn ρ H S) (r : Reps kn ρ H ds vs) (hl : vs.length = ps.length) (h2 : PostE kn W σ ρ H (g ds S) Q) : spOf kn ps g vs H Q (WE W σ) := by
  refine ⟨hl, ρ, ds, S, rl, r, ?_⟩
  cases e2 : g ds S with
  | no => rw [e2] at h2; exact h2
  | ok d S2 => rw [e2] at h2; exact h2
  | err y fs S2 => rw [e2] at h2; exact h2
theorem q_call0 {x : Str} {sh : List Shape} {g : List D → Sto → R D} {p pos : Pos} (tk : Takes X W) (F : FnB X kn x [] true sh g) (hg : Gl X x) (hd : (x == ("__debug__" : Str)) = false) :
    PE X (.Call (.Name x p) [] [] pos) (liftE kn W fun _ S => g [] S) := by
  obtain ⟨fa, fd, lev, hm, hk, ok, hr, hb, _⟩ := F.ex
  refine ⟨fun pins s σ H Q I ⟨ρ, σd, S, rl, re, h⟩ => ?_⟩
  refine wpAny_Call_Name_kw (ld_glob I hg hm ?_ hd)
  exact PySem.W.callWith_K0 I.kIn hk (run_fnS (us := []) (E := WE W) ok hr (hb rfl) (passAt tk σ) I .nil (sp_of (x := x) (W := W) (σ := σ) rl .nil rfl h))
abbrev QK (X : Cx) (kn : Kn) (W : WX) (kws : List Keyword) (t : Sl → Sto → R (List D)) : Prop := PK X kws (liftA kn W t)
theorem PK.imp {kws : List Keyword} {t t' : TA} (h : PK X kws t) (i : ∀ σ H Q, t' σ H Q → t σ H Q) : PK X kws t' := ⟨fun p pins s σ H Q I q => h.run p pins s σ H Q I (i σ H Q q)⟩
theorem QK.nil : QK X kn W [] fun _ S => .ok [] S := PK.imp pk_nil fun σ H Q ⟨ρ, σd, S, rl, re, h⟩ => h [] H ρ .refl rl .nil
theorem QK.cons {nm : Option Str} {kpos : Pos} {ta : Sl → Sto → R D} {r : List Keyword} {tr : Sl → Sto → R (List D)} (ha : PE X a (liftE kn W ta)) (hr : QK X kn W r tr) :
    QK X kn W (⟨nm, a, kpos⟩ :: r) fun σ S => (ta σ S).bind fun d S1 => (tr σ S1).bind fun ds S2 => .ok (d :: ds) S2 := by
  refine PK.imp (pk_cons ha hr) fun σ H Q ⟨ρ, σd, S, rl, re, h⟩ => ⟨ρ, σd, S, rl, re, (PostE.bindA h).mono fun v1 H1 ⟨ρ1, d1, S1, g1, rl1, r1, h1⟩ => ?_⟩
  refine ⟨ρ1, σd, S1, rl1, re.gr g1, (PostA.bindA h1).mono fun v2 H2 ⟨ρ2, d2, S2, g2, rl2, r2, h2⟩ => ?_⟩
  exact h2 (v1 :: v2) H2 ρ2 .refl rl2 (.cons (r1.gr g2) r2)
/-- the keywords' names are told -/
def KwN (kws : List Keyword) (ks : List Str) : Prop := ∀ (pos : Pos) (env : Env), (backToKw pos (keywordEach kws env)).all (·.1.isSome) = true ∧ (backToKw pos (keywordEach kws env)).filterMap (·.1) = ks ∧ (backToKw pos (keywordEach kws env)).any (·.1.isNone) = false
theorem KwN.nil : KwN [] [] := fun _ _ => ⟨rfl, rfl, rfl⟩
theorem KwN.cons {k : Str} {e : Expr} {p : Pos} {r : List Keyword} {ks : List Str} (h : KwN r ks) : KwN (⟨some k, e, p⟩ :: r) (k :: ks) := fun pos env => by
  obtain ⟨h1, h2, h3⟩ := h pos env
  unfold keywordEach
  unfold backToKw at h1 h2 h3 ⊢
  rw [List.map_cons, List.all_cons, List.filterMap_cons, List.any_cons]
  exact ⟨by rw [h1]; rfl, by simp only; rw [h2], by rw [h3]; rfl⟩
theorem star_cons {env : Env} {pos : Pos} (hs : ∀ e ∈ a :: es, ∀ x p, e ≠ .Starred x p) : (backTo pos (starEach (a :: es) env)).any (·.1) = false := star_none hs
theorem q_callB {x : Str} {ps : List Str} {po : Bool} {sh : List Shape} {z : Shape} {g : List D → Sto → R D} {t t' : Sl → Sto → R (List D)} {kws : List Keyword} {p pos : Pos} (tk : Takes X W) (F : FnB X kn x ps po sh g) (hz : z ∈ sh) (hg : Gl X x) (hd : (x == ("__debug__" : Str)) = false)
    (ha : QA X kn W (a :: es) t) (hl : Long t z.n) (hs : ∀ e ∈ a :: es, ∀ x p, e ≠ .Starred x p) (hk' : QK X kn W kws t') (hlk : Long t' z.ks.length) (hn : KwN kws z.ks) :
    PE X (.Call (.Name x p) (a :: es) kws pos) (liftE kn W fun σ S => (t σ S).bind fun ds S1 => (t' σ S1).bind fun es S2 => g (pickD z.arr (ds ++ es ++ z.dfl)) S2) := by
  obtain ⟨fa, fd, lev, hm, hk, ok, hr, _, hsh⟩ := F.ex
  obtain ⟨flat, len, us0, hv0, hb⟩ := hsh z hz
  obtain ⟨n1, n2, n3⟩ := hn pos X.env
  refine ⟨fun pins s σ H Q I ⟨ρ, σd, S, rl, re, h⟩ => ?_⟩
  refine wpAny_Call_Name_kw (ld_glob I hg hm ?_ hd)
  have h0 := PostA.bindE h
  cases e1 : t σd S with
  | no => simp only [e1] at h0; exact h0.elim
  | err y fs S1 =>
    simp only [e1] at h0
    refine PySem.W.callWith_KW (h₀ := X.base) I.ok.mod.kin hk n1 (thn (ha.run pos pins s σ H (fun _ _ => False) I ⟨ρ, σd, S, rl, re, by rw [e1]; exact h0⟩) fun us s1 ⟨_, _, _, _, q⟩ => q.elim) (by rw [star_cons hs, n3]; rfl) (starEach_plain (hs a List.mem_cons_self))
  | ok ds S1 =>
    have hds := hl _ _ _ _ e1
    refine PySem.W.callWith_KW (h₀ := X.base) I.ok.mod.kin hk n1 (thn (ha.run pos pins s σ H (fun vs H1 => ∃ ρ1, Gr ρ ρ1 H H1 ∧ Rel kn ρ1 H1 S1 ∧ Reps kn ρ1 H1 ds vs) I ⟨ρ, σd, S, rl, re, by rw [e1]; exact fun v H' ρ' g1 rl1 r1 => ⟨ρ', g1, rl1, r1⟩⟩) fun us s1 ⟨vs, H1, I1, r1, ρ1, g1, rl1, q1⟩ => ?_) (by rw [star_cons hs, n3]; rfl) (starEach_plain (hs a List.mem_cons_self))
    simp only [e1, R.bind_ok] at h
    have h1 : PostE kn W σ ρ1 H1 ((t' σd S1).bind fun es S2 => g (pickD z.arr (ds ++ es ++ z.dfl)) S2) Q := PostE.gr h g1
    cases e2 : t' σd S1 with
    | no => rw [e2] at h1; exact h1.elim
    | err y fs S2 =>
      rw [e2] at h1
      exact thn (hk'.run pos pins s1 σ H1 (fun _ _ => False) I1 ⟨ρ1, σd, S1, rl1, re.gr g1, by rw [e2]; exact h1⟩) fun us s1 ⟨_, _, _, _, q⟩ => q.elim
    | ok dk S2 =>
      have hdk := hlk _ _ _ _ e2
      rw [e2, R.bind_ok] at h1
      refine thn (hk'.run pos pins s1 σ H1 (fun vs H2 => ∃ ρ2, Gr ρ1 ρ2 H1 H2 ∧ Rel kn ρ2 H2 S2 ∧ Reps kn ρ2 H2 dk vs) I1 ⟨ρ1, σd, S1, rl1, re.gr g1, by rw [e2]; exact fun v H' ρ' g1 rl1 r1 => ⟨ρ', g1, rl1, r1⟩⟩) fun ws s2 ⟨zs, H2, I2, r2, ρ2, g2, rl2, q2⟩ => ⟨I2.kIn, ?_⟩
      rw [n2]
      have h2 : PostE kn W σ ρ2 H2 (g (pickD z.arr (ds ++ dk ++ z.dfl)) S2) Q := PostE.gr h1 g2
      have rv := vals_pick ((r1.append r2).append hv0) z.arr
      have rr : Reps kn ρ2 H2 (pickD z.arr (ds ++ dk ++ z.dfl)) (pickV z.arr (vs ++ zs ++ z.dfl.map conV)) := reps_pick (((q1.gr g2).append q2).append (conV_reps flat)) z.arr
      refine wpAny_call (codeAny_mono (ok.run X.A X.stack s2 H2 ⟨us, z.ks.zip ws⟩ _ _ Q (WE W σ) hr I2.env0 (hb s2 us ws I2.kIn (by rw [← r1.length, ← q1.length, hds]) (by rw [← r2.length, ← q2.length, hdk])) rv (sp_of (x := x) rl2 rr (by unfold pickV; rw [List.length_map, len]) h2)) fun r s' hq => ?_)
      cases r with
      | error e => exact passAt tk σ pins H2 s2 e s' I2 hq
      | ok fl =>
        cases fl with
        | ret u => exact I2.after hq
        | next => exact False.elim hq
        | brk => exact False.elim hq
        | cont => exact False.elim hq
end
end Kq
set_option Elab.async false
set_option linter.all false
set_option maxRecDepth 100000
set_option maxHeartbeats 2000000
set_option autoImplicit false
/-! # The Q layer, part Km: objects of own classes: fields, methods, making -/
namespace Kq
open PySem PySem.Spec PyProof.Rows L2

/-- the classes that are told, and the names of fields that no class has -/
structure PnOk (kn : Kn) : Prop where
  c : ∀ c C, c ∈ kn.pn → kn.cls c = some C → Cls kn.K C
  f : ∀ c C f, (c, f) ∈ kn.pf → kn.cls c = some C → NoAttr kn.K C f
theorem lEqB_eq : ∀ {a b : List Nat}, lEqB a b = lEq a b
  | [], [] => rfl
  | a :: r, b :: s => by unfold lEqB lEq; rw [lEqB_eq]
  | [], _ :: _ => rfl
  | _ :: _, [] => rfl
theorem memS_mem {x : Str} : ∀ {l : List Str}, memS x l = true → x ∈ l
  | [], h => by cases h
  | y :: r, h => by
    unfold memS at h
    rw [Bool.or_eq_true] at h
    rcases h with h | h
    · rw [lEqB_eq] at h
      have : x = y := sEq_iff.mp h
      subst this
      exact List.mem_cons_self
    · exact List.mem_cons_of_mem _ (memS_mem h)
theorem mkOf_mem {c k : Str} : ∀ {l : List (Str × Str)}, mkOf c l = some k → (c, k) ∈ l
  | [], h => by cases h
  | (d, k') :: r, h => by
    unfold mkOf at h
    split at h
    · rename_i e
      cases h
      rw [lEqB_eq] at e
      have : c = d := sEq_iff.mp e
      subst this
      exact List.mem_cons_self
    · exact List.mem_cons_of_mem _ (mkOf_mem h)
section
variable {kn : Kn} {ρ : List Addr} {H : Hp} {S : Sto} {v : V}
theorem FReps.lookupN {x : Str} : ∀ {ds : List (Str × D)} {vs : List (Str × V)}, FReps kn ρ H ds vs → ds.lookup x = none → vs.lookup x = none
  | _, _, .nil, _ => rfl
  | _, _, .cons (a := p) (b := q) h r, e => by
    rw [List.lookup_cons] at e ⊢
    rw [← h.1]
    by_cases hx : (x == p.1) = true
    · rw [hx] at e; cases e
    · have hx' : (x == p.1) = false := by simpa using hx
      rw [hx'] at e ⊢; simp only at e ⊢; exact FReps.lookupN r e
theorem FReps.length : ∀ {ds : List (Str × D)} {vs : List (Str × V)}, FReps kn ρ H ds vs → ds.length = vs.length
  | _, _, .nil => rfl
  | _, _, .cons _ r => congrArg (· + 1) (FReps.length r)
theorem FReps.put {f : Str} {d : D} {y : V} (h : Rep kn ρ H d y) : ∀ {ds : List (Str × D)} {vs : List (Str × V)}, FReps kn ρ H ds vs → FReps kn ρ H (putD f d ds) (putF f y vs)
  | _, _, .nil => .cons ⟨rfl, h⟩ .nil
  | _, _, .cons (a := p) (b := q) g r => by
    obtain ⟨g1, e1⟩ := p
    obtain ⟨g2, e2⟩ := q
    have : g1 = g2 := g.1
    subst this
    unfold putD putF
    by_cases e : g1 = f
    · rw [if_pos e, if_pos e]; exact .cons ⟨rfl, h⟩ r
    · rw [if_neg e, if_neg e]; exact .cons g (FReps.put h r)
/-- an object at hand -/
theorem Rel.isIns {n : Nat} {c : Str} {fs : List (Str × D)} (rl : Rel kn ρ H S) (h : Rep kn ρ H (.ref n) v) (e : S[n]? = some (.ins c fs)) : ∃ a C dx vs, v = .ref a ∧ ρ[n]? = some a ∧ c ∈ kn.pn ∧ kn.cls c = some C ∧ H a = some (.ins C dx vs) ∧ FReps kn ρ H fs vs := by
  cases h with
  | ref h => 
    obtain ⟨C, dx, vs, h1, h2, h3, h4⟩ := rl.obj _ _ _ h e
    exact ⟨_, C, dx, vs, rfl, h, h1, h2, h3, h4⟩
end
section
variable {X : Cx} {kn : Kn} {W : WX} {a e : Expr} {es : List Expr}
/-- a.f -/
theorem q_fld {cs : List Str} {f : Str} {ta : Sl → Sto → R D} {pos : Pos} (hK : kn.K = X.K) (po : PnOk kn) (hf : ∀ c ∈ cs, (c, f) ∈ kn.pf) (ha : PE X a (liftE kn W ta)) (h1 : ∀ id p pos, a ≠ .Call (.Name id p) [] [] pos) :
    PE X (.Attribute a f pos) (liftE kn W fun σ S => (ta σ S).bind fun x S1 => fldD cs x f S1) := by
  refine PE.imp (pe_fld ha (attrBase_any h1)) fun σ H Q ⟨ρ, σd, S, rl, re, h⟩ => ⟨ρ, σd, S, rl, re, (PostE.bindE h).mono fun v H1 ⟨ρ1, x, S1, g1, rl1, r1, h1⟩ => ?_⟩
  unfold fldD at h1
  split at h1
  · rename_i n
    split at h1
    · rename_i c fs hn
      split at h1
      · rename_i d hc hd
        obtain ⟨p, C, dx, vs, rfl, hp, c1, c2, c3, c4⟩ := rl1.isIns r1 hn
        obtain ⟨w, w1, w2⟩ := c4.lookup hd
        exact ⟨p, C, dx, vs, w, rfl, c3, hK ▸ po.c c C c1 c2, hK ▸ po.f c C f (hf c (memS_mem hc)) c2, w1, h1 w H1 ρ1 .refl rl1 w2⟩
      · exact h1.elim
    · exact h1.elim
  · exact h1.elim
/-- a.f = e -/
theorem q_fst {cs : List Str} {f : Str} {ta te : Sl → Sto → R D} {pos' pos : Pos} (hK : kn.K = X.K) (po : PnOk kn) (hf : ∀ c ∈ cs, (c, f) ∈ kn.pf) (ha : PE X a (liftE kn W ta)) (he : PE X e (liftE kn W te)) (hs : swapsWith e (some (.Attribute a f pos')) pos.line X.env = pure false) :
    PS X (.Assign [.Attribute a f pos'] e pos) (liftS kn W fun σ S => RS.of (te σ S) σ fun d S1 => RS.of (ta σ S1) σ fun x S2 => RS.opt (setF cs x f d S2) σ) := by
  refine PS.imp (ps_fld ha he hs) fun N σ H ⟨ρ, σd, S, rl, re, h⟩ => ⟨ρ, σd, S, rl, re, (PostE.bindS re h).mono fun v H1 ⟨ρ1, d, S1, g1, rl1, r1, h1⟩ => ?_⟩
  refine ⟨ρ1, σd, S1, rl1, re.gr g1, (PostE.bindS (re.gr g1) h1).mono fun w H2 ⟨ρ2, x, S2, g2, rl2, r2, h2⟩ => ?_⟩
  unfold setF at h2
  split at h2
  · rename_i n
    split at h2
    · rename_i c fs hn
      split at h2
      · rename_i hl
        obtain ⟨p, C, dx, vs, rfl, hp, c1, c2, c3, c4⟩ := rl2.isIns r2 hn
        have gg := Gr.put (ρ := ρ2) (u' := .ins C dx (putF f v vs)) (List.mem_of_getElem? hp) c3 rfl
        refine ⟨p, C, dx, vs, rfl, c3, hK ▸ po.c c C c1 c2, hK ▸ po.f c C f (hf c (memS_mem hl.1)) c2, by rw [← c4.length]; omega, ?_⟩
        exact h2 σ _ ρ2 gg (rl2.put hp c3 rfl ⟨C, dx, putF f v vs, c1, c2, upd_same, FReps.put ((r1.gr g2).gr gg) (FReps.mono gg.pre gg.fix c4)⟩) (((re.gr g1).gr g2).gr gg)
      · exact h2.elim
    · exact h2.elim
  · exact h2.elim

/-! ### methods -/
/-- a method of a class of the program, by what it does to data -/
structure MtB (X : Cx) (kn : Kn) (c m : Str) (ps : List Str) (g : List D → Sto → R D) : Prop where
  ex : ∃ (C f : Addr) (fd : FuncData) (lev : Nat), kn.cls c = some C ∧ Meth X.K C m f ∧ FnOk X.prog X.w X.K X.mg X.base (L2.CX X.prog X.w) lev f fd ps (spOf kn ps g) ∧ Room lev X.A ∧ Binds X.K fd ps []
/-- the tree of a method call of few arguments -/
theorem meth_call {o : Expr} {name : Str} {apos pos : Pos} {args : List Expr} {env : Env} {prog : Program} {w : World} {A : Around} {Q : Value → Shared → Prop} {E : Value → Shared → Prop} {s : Shared} (hbase : attributeBase o name env (eval o env) = eval o env)
    (hfew : methodCallForm (args.length + ([] : List Keyword).length) (backTo pos (starEach args env)) (backToKw pos (keywordEach [] env)) = true) (hline : (apos.endLine == pos.line) = true)
    (h : wpAny (model prog w) A (eval o env) (fun ov s₁ => ∀ pl, wpAny (model prog w) A (getMethod ov name pl) (fun fx s₂ => wpAny (model prog w) A (callWith pos fx.1 fx.2 (backTo pos (starEach args env)) (backToKw pos (keywordEach [] env))) Q E s₂) E s₁) E s) :
    wpAny (model prog w) A (eval (.Call (.Attribute o name apos) args [] pos) env) Q E s := by
  rw [arm_eval_Call, hbase]
  refine wpAny_bind (wpAny_mono h (fun ov s₁ h₁ => ?_) fun _ _ e => e)
  refine wpAny_bind (wpAny_standAt ?_)
  have hpos : methodCallPos true o env apos pos = pure pos := by unfold methodCallPos; simp [hline]
  unfold methodCall
  rw [hfew]
  refine wpAny_bind (wpAny_holding (wpAny_mono (h₁ _) (fun fx s₂ h₂ => ?_) fun _ _ x => x))
  exact wpAny_bind (wpAny_of_eq hpos h₂)
theorem few_ok {pos : Pos} {env : Env} (hs : ∀ e ∈ es, ∀ x p, e ≠ .Starred x p) (hn : Nat.ble es.length 25 = true) : methodCallForm (es.length + ([] : List Keyword).length) (backTo pos (starEach es env)) (backToKw pos (keywordEach [] env)) = true := by
  have sn := star_none (env := env) (pos := pos) hs
  have hn' := Nat.le_of_ble_eq_true hn
  have : (backTo pos (starEach es env)).all (fun x => !x.1) = true := by
    rw [List.all_eq_true]
    intro z hz
    rw [List.any_eq_false] at sn
    have := sn z hz
    simpa using this
  unfold methodCallForm
  rw [this]
  have e1 : ([] : List Keyword).length = 0 := rfl
  have e2 : (backToKw pos (keywordEach [] env)).all (fun x => x.1.isSome) = true := rfl
  have e3 : (backToKw pos (keywordEach [] env)).isEmpty = true := rfl
  rw [e1, e2, e3]
  simp
  omega
/-- what a method of an object is -/
theorem mth_at {cs : List (Str × Str)} {m k : Str} {ps : Str → List Str} {g : Str → List D → Sto → R D} {ρ : List Addr} {H : Hp} {x : D} {v : V} {S : Sto} (hK : kn.K = X.K) (po : PnOk kn) (hm : ∀ c k, (c, k) ∈ cs → c ∈ kn.pn ∧ MtB X kn c m (ps k) (g k))
    (rl : Rel kn ρ H S) (r : Rep kn ρ H x v) (ek : mthK cs m x S = some k) : ∃ p C dx vs f fd lev, v = .ref p ∧ H p = some (.ins C dx vs) ∧ vs.lookup m = none ∧ Cls X.K C ∧ Meth X.K C m f ∧ FnOk X.prog X.w X.K X.mg X.base (L2.CX X.prog X.w) lev f fd (ps k) (spOf kn (ps k) (g k)) ∧ Room lev X.A ∧ Binds X.K fd (ps k) [] := by
  unfold mthK at ek
  split at ek
  · rename_i n
    split at ek
    · rename_i c fs hn1
      split at ek
      · rename_i hlk
        obtain ⟨p, C, dx, vs, rfl, hp, c1, c2, c3, c4⟩ := rl.isIns r hn1
        obtain ⟨q1, ⟨C', f, fd, lev, k1, k2, k3, k4, k5⟩⟩ := hm c k (mkOf_mem ek)
        rw [c2] at k1
        cases k1
        exact ⟨p, C, dx, vs, f, fd, lev, rfl, c3, c4.lookupN hlk, hK ▸ po.c c C c1 c2, k2, k3, k4, k5⟩
      · cases ek
    · cases ek
  · cases ek
abbrev mthG (cs : List (Str × Str)) (m : Str) (g : Str → List D → Sto → R D) (x : D) (S1 : Sto) (ds : List D) (S2 : Sto) : R D := match mthK cs m x S1 with | some k => g k (x :: ds) S2 | none => .no
theorem q_meth0 {cs : List (Str × Str)} {m : Str} {ps : Str → List Str} {g : Str → List D → Sto → R D} {ta : Sl → Sto → R D} {apos pos : Pos} (tk : Takes X W) (hK : kn.K = X.K) (po : PnOk kn) (hm : ∀ c k, (c, k) ∈ cs → c ∈ kn.pn ∧ MtB X kn c m (ps k) (g k)) (hp : ∀ c k, (c, k) ∈ cs → (ps k).length = 1)
    (ha : PE X a (liftE kn W ta)) (h1 : ∀ id p pos, a ≠ .Call (.Name id p) [] [] pos) (hline : (apos.endLine == pos.line) = true) :
    PE X (.Call (.Attribute a m apos) [] [] pos) (liftE kn W fun σ S => (ta σ S).bind fun x S1 => if (mthK cs m x S1).isSome = true then mthG cs m g x S1 [] S1 else .no) := by
  refine ⟨fun pins s σ H Q I ⟨ρ, σd, S, rl, re, h⟩ => ?_⟩
  refine meth_call (attrBase_any h1) (few_ok (fun _ z => nomatch z) rfl) hline (thn (ha.run pins s σ H _ I ⟨ρ, σd, S, rl, re, PostE.bindE h⟩) fun u s1 ⟨v, H1, I1, rv, ρ1, x, S1, g1, rl1, r1, h2⟩ pl => ?_)
  cases ek : mthK cs m x S1 with
  | none => simp only [ek] at h2; exact h2.elim
  | some k =>
    simp only [mthG, ek, Option.isSome_some, if_true] at h2
    obtain ⟨p, C, dx, vs, f, fd, lev, rfl, c3, c4, c5, k2, k3, k4, k5⟩ := mth_at hK po hm rl1 r1 ek
    obtain rfl : u = Value.ref p := rv
    have hl : (ps k).length = 1 := by
      unfold mthK at ek
      split at ek
      · split at ek
        · split at ek
          · exact hp _ k (mkOf_mem ek)
          · cases ek
        · cases ek
      · cases ek
    refine getmeth_ok I1 c3 c5 k2 c4 ?_
    refine PySem.W.callWith_K0 (first := [.ref p]) I1.kIn k2.kp ?_
    exact run_fnS (us := [.ref p]) (vs := [.ref p]) (E := WE W) k3 k4 k5 (passAt tk σ) I1 (.cons rfl .nil) (sp_of (x := m) (W := W) (σ := σ) rl1 (.cons r1 .nil) (by rw [hl]; rfl) h2)
theorem q_meth {cs : List (Str × Str)} {m : Str} {ps : Str → List Str} {g : Str → List D → Sto → R D} {b : Expr} {ta : Sl → Sto → R D} {t : Sl → Sto → R (List D)} {apos pos : Pos} (tk : Takes X W) (hK : kn.K = X.K) (po : PnOk kn) (hm : ∀ c k, (c, k) ∈ cs → c ∈ kn.pn ∧ MtB X kn c m (ps k) (g k)) (hp : ∀ c k, (c, k) ∈ cs → (ps k).length = es.length + 2)
    (ha : PE X a (liftE kn W ta)) (h1 : ∀ id p pos, a ≠ .Call (.Name id p) [] [] pos) (hb : QA X kn W (b :: es) t) (hl : Long t (b :: es).length) (hs : ∀ e ∈ b :: es, ∀ x p, e ≠ .Starred x p) (hn : Nat.ble (b :: es).length 25 = true) (hline : (apos.endLine == pos.line) = true) :
    PE X (.Call (.Attribute a m apos) (b :: es) [] pos) (liftE kn W fun σ S => (ta σ S).bind fun x S1 => if (mthK cs m x S1).isSome = true then (t σ S1).bind fun ds S2 => mthG cs m g x S1 ds S2 else .no) := by
  refine ⟨fun pins s σ H Q I ⟨ρ, σd, S, rl, re, h⟩ => ?_⟩
  refine meth_call (attrBase_any h1) (few_ok hs hn) hline (thn (ha.run pins s σ H _ I ⟨ρ, σd, S, rl, re, PostE.bindE h⟩) fun u s1 ⟨v, H1, I1, rv, ρ1, x, S1, g1, rl1, r1, h2⟩ pl => ?_)
  cases ek : mthK cs m x S1 with
  | none => simp only [ek] at h2; exact h2.elim
  | some k =>
    simp only [mthG, ek, Option.isSome_some, if_true] at h2
    obtain ⟨p, C, dx, vs, f, fd, lev, rfl, c3, c4, c5, k2, k3, k4, k5⟩ := mth_at hK po hm rl1 r1 ek
    obtain rfl : u = Value.ref p := rv
    have hl2 : (ps k).length = es.length + 2 := by
      unfold mthK at ek
      split at ek
      · split at ek
        · split at ek
          · exact hp _ k (mkOf_mem ek)
          · cases ek
        · cases ek
      · cases ek
    refine getmeth_ok I1 c3 c5 k2 c4 ?_
    have st : starEach (b :: es) X.env = (false, eval b X.env) :: starEach es X.env := starEach_plain (hs b List.mem_cons_self)
    have sp := star_none (env := X.env) (pos := pos) fun e he => hs e (List.mem_cons_of_mem _ he)
    have h0 := PostA.bindE h2
    cases e1 : t σd S1 with
    | no => simp only [e1] at h0; exact h0.elim
    | err y fs S2 =>
      simp only [e1] at h0
      exact PySem.W.callWith_K (first := [.ref p]) (h₀ := X.base) I1.ok.mod.kin k2.kp (thn (hb.run pos pins s1 σ H1 (fun _ _ => False) I1 ⟨ρ1, σd, S1, rl1, re.gr g1, by rw [e1]; exact h0⟩) fun us s1 ⟨_, _, _, _, q⟩ => q.elim) st sp
    | ok ds S2 =>
      have hds := hl _ _ _ _ e1
      refine PySem.W.callWith_K (first := [.ref p]) (h₀ := X.base) I1.ok.mod.kin k2.kp (thn (hb.run pos pins s1 σ H1 (fun vs H2 => ∃ ρ2, Gr ρ1 ρ2 H1 H2 ∧ Rel kn ρ2 H2 S2 ∧ Reps kn ρ2 H2 ds vs) I1 ⟨ρ1, σd, S1, rl1, re.gr g1, by rw [e1]; exact fun v H' ρ' g1 rl1 r1 => ⟨ρ', g1, rl1, r1⟩⟩) fun us s2 ⟨ws, H2, I2, rv2, ρ2, g2, rl2, r2⟩ => ⟨I2.kIn, ?_⟩) st sp
      rw [e1, R.bind_ok] at h2
      exact run_fnS (us := .ref p :: us) (vs := .ref p :: ws) (E := WE W) k3 k4 k5 (passAt tk σ) I2 (.cons rfl rv2) (sp_of (x := m) (W := W) (σ := σ) rl2 (.cons (r1.gr g2) r2) (by rw [List.length_cons, ← r2.length, hds, hl2, List.length_cons]) (PostE.gr h2 g2))

/-! ### making -/
/-- a class of the program that is made, by what its __init__ does -/
structure MkB (X : Cx) (kn : Kn) (x : Str) (ps : List Str) (g : List D → Sto → R D) : Prop where
  ex : ∃ (C f : Addr) (fd : FuncData) (lev : Nat), X.mg x = some (.ref C) ∧ x ∈ kn.pn ∧ kn.cls x = some C ∧ Mk X.K C f ∧ FnOk X.prog X.w X.K X.mg X.base (L2.CX X.prog X.w) lev f fd ps (spOf kn ps g) ∧ Room (lev + 1) X.A ∧ Binds X.K fd ps []
theorem run_makeS {C f : Addr} {fd : FuncData} {k : Nat} {ps : List Str} {sp : Sp} {pins : List (Addr × Obj)} {σ : L2.St} {H : Hp} {s : Shared} {Q : VK} {us : List Value} {vs : List V} (tk : Takes X W) (M : Mk X.K C f) (F : FnOk X.prog X.w X.K X.mg X.base (L2.CX X.prog X.w) k f fd ps sp) (hr : Room (k + 1) X.A) (hb : Binds X.K fd ps [])
    (I : Inv X pins σ H s) (r : Vals vs us)
    (h : ∀ x dx, H x = none → H dx = none → dx ≠ x → sp (.ref x :: vs) (upd (upd H dx (.own x)) x (.ins C dx [])) (fun v H2 => v = .non ∧ Q (.ref x) H2) (WE W σ)) :
    wpAny (model X.prog X.w) X.A (call (.ref C) us) (EP X pins σ Q) X.xe s := by
  have hq := h (s.heap.objs.size + 1) s.heap.objs.size (I.hok.fresh (Nat.le_succ _)) (I.hok.fresh (Nat.le_refl _)) (Nat.ne_of_lt (Nat.lt_succ_self _))
  have I2 := Inv.made (C := C) I
  have r2 : Vals (V.ref (s.heap.objs.size + 1) :: vs) (Value.ref (s.heap.objs.size + 1) :: us) := .cons rfl r
  have hl : (Value.ref (s.heap.objs.size + 1) :: us ++ []).length = ps.length := by
    have e := r2.length
    rw [F.len _ _ _ _ hq] at e
    rw [List.append_nil]
    exact e.symm
  refine wpAny_call (make_map (f := f) I.kIn M.makes M.init (beq_iff_eq.mp M.fn) (codeAny_mono (F.run _ X.stack _ _ ⟨Value.ref (s.heap.objs.size + 1) :: us, []⟩ (Value.ref (s.heap.objs.size + 1) :: us) _ _ (WE W σ) (hr.make C us [])
    (I2.env0.make C us []) (by have := hb _ (Value.ref (s.heap.objs.size + 1) :: us) I2.kIn hl; rw [List.append_nil] at this; exact this) r2 hq) fun r s' hq' => ?_))
  cases r with
  | error e => exact passAt tk σ pins _ _ e s' I2 hq'
  | ok fl =>
    cases fl with
    | ret u =>
      obtain ⟨v, H', I3, rv, ev, q3⟩ := I2.after hq'
      subst ev
      exact ⟨rv, ⟨V.ref (s.heap.objs.size + 1), H', I3, rfl, q3⟩⟩
    | next => exact False.elim hq'
    | brk => exact False.elim hq'
    | cont => exact False.elim hq'
/-- making, over data -/
theorem made {C : Addr} {x : Str} {ps : List Str} {g : List D → Sto → R D} {ρ : List Addr} {H : Hp} {S : Sto} {ds : List D} {vs : List V} {σ : L2.St} {Q : VK} (h1 : x ∈ kn.pn) (h2 : kn.cls x = some C) (rl : Rel kn ρ H S) (r : Reps kn ρ H ds vs) (hl : vs.length + 1 = ps.length)
    (h : PostE kn W σ ρ H (mkR S.length (g (.ref S.length :: ds) (S ++ [.ins x []]))) Q) (p dx : Addr) (hp : H p = none) (hd : H dx = none) (ne : dx ≠ p) : spOf kn ps g (.ref p :: vs) (upd (upd H dx (.own p)) p (.ins C dx [])) (fun v H2 => v = .non ∧ Q (.ref p) H2) (WE W σ) := by
  have hp' : upd H dx (.own p) p = none := by rw [upd_ne (fun z => ne z.symm)]; exact hp
  have gg : Gr ρ (ρ ++ [p]) H (upd (upd H dx (.own p)) p (.ins C dx [])) := (Gr.lay (ρ := ρ) hd).trans (Gr.name hp')
  have rl' : Rel kn (ρ ++ [p]) (upd (upd H dx (.own p)) p (.ins C dx [])) (S ++ [.ins x []]) := (rl.lay hd).nameO hp' ⟨C, dx, [], h1, h2, upd_same, .nil⟩
  have rn : (ρ ++ [p])[S.length]? = some p := by rw [← rl.len]; simp
  refine ⟨by rw [List.length_cons, hl], ρ ++ [p], .ref S.length :: ds, S ++ [.ins x []], rl', .cons (.ref rn) (r.gr gg), ?_⟩
  have h3 := PostE.gr h gg
  cases e : g (.ref S.length :: ds) (S ++ [.ins x []]) with
  | no => rw [e] at h3; exact h3.elim
  | err y fs S2 => rw [e] at h3; exact h3
  | ok d S2 =>
    rw [e] at h3
    cases d with
    | non => 
      intro v H' ρ' g2 rl2 r2
      cases r2
      exact ⟨rfl, h3 (.ref p) H' ρ' g2 rl2 (.ref (pre_get g2.pre rn))⟩
    | _ => exact h3.elim
theorem q_mk0 {x : Str} {ps : List Str} {g : List D → Sto → R D} {p pos : Pos} (tk : Takes X W) (F : MkB X kn x ps g) (hp : ps.length = 1) (hg : Gl X x) (hd : (x == ("__debug__" : Str)) = false) :
    PE X (.Call (.Name x p) [] [] pos) (liftE kn W fun _ S => mkR S.length (g [.ref S.length] (S ++ [.ins x []]))) := by
  obtain ⟨C, f, fd, lev, hm, h1, h2, M, ok, hr, hb⟩ := F.ex
  refine ⟨fun pins s σ H Q I ⟨ρ, σd, S, rl, re, h⟩ => ?_⟩
  refine wpAny_Call_Name_kw (ld_glob I hg hm ?_ hd)
  refine PySem.W.callWith_K0 I.kIn M.kp (run_makeS (us := []) tk M ok hr hb I .nil fun q dx hq hdx ne => ?_)
  exact made h1 h2 rl .nil (by rw [hp]; rfl) h q dx hq hdx ne
theorem q_mk {x : Str} {ps : List Str} {g : List D → Sto → R D} {t : Sl → Sto → R (List D)} {p pos : Pos} (tk : Takes X W) (F : MkB X kn x ps g) (hp : ps.length = (a :: es).length + 1) (hg : Gl X x) (hd : (x == ("__debug__" : Str)) = false)
    (ha : QA X kn W (a :: es) t) (hl : Long t (a :: es).length) (hs : ∀ e ∈ a :: es, ∀ x p, e ≠ .Starred x p) :
    PE X (.Call (.Name x p) (a :: es) [] pos) (liftE kn W fun σ S => (t σ S).bind fun ds S1 => mkR S1.length (g (.ref S1.length :: ds) (S1 ++ [.ins x []]))) := by
  obtain ⟨C, f, fd, lev, hm, h1, h2, M, ok, hr, hb⟩ := F.ex
  refine ⟨fun pins s σ H Q I ⟨ρ, σd, S, rl, re, h⟩ => ?_⟩
  refine wpAny_Call_Name_kw (ld_glob I hg hm ?_ hd)
  have st : starEach (a :: es) X.env = (false, eval a X.env) :: starEach es X.env := starEach_plain (hs a List.mem_cons_self)
  have sp := star_none (env := X.env) (pos := pos) fun e he => hs e (List.mem_cons_of_mem _ he)
  have h0 := PostA.bindE h
  cases e1 : t σd S with
  | no => simp only [e1] at h0; exact h0.elim
  | err y fs S2 =>
    simp only [e1] at h0
    exact PySem.W.callWith_K (h₀ := X.base) I.ok.mod.kin M.kp (thn (ha.run pos pins s σ H (fun _ _ => False) I ⟨ρ, σd, S, rl, re, by rw [e1]; exact h0⟩) fun us s1 ⟨_, _, _, _, q⟩ => q.elim) st sp
  | ok ds S1 =>
    have hds := hl _ _ _ _ e1
    simp only [e1, R.bind_ok] at h
    refine PySem.W.callWith_K (h₀ := X.base) I.ok.mod.kin M.kp (thn (ha.run pos pins s σ H (fun vs H1 => ∃ ρ1, Gr ρ ρ1 H H1 ∧ Rel kn ρ1 H1 S1 ∧ Reps kn ρ1 H1 ds vs) I ⟨ρ, σd, S, rl, re, by rw [e1]; exact fun v H' ρ' g1 rl1 r1 => ⟨ρ', g1, rl1, r1⟩⟩) fun us s1 ⟨vs, H1, I1, r1, ρ1, g1, rl1, q1⟩ => ⟨I1.kIn, ?_⟩) st sp
    refine run_makeS (us := us) tk M ok hr hb I1 r1 fun q dx hq hdx ne => ?_
    exact made h1 h2 rl1 q1 (by rw [← q1.length, hds, hp]) (PostE.gr h g1) q dx hq hdx ne
end
end Kq
set_option Elab.async false
set_option linter.all false
set_option maxRecDepth 100000
set_option maxHeartbeats 2000000
set_option autoImplicit false
/-! # The Q layer, part Kq: repr of a tuple, a written table asked -/
namespace Kq
open PySem PySem.Spec PyProof.Rows L2
section
variable {X : Cx} {kn : Kn} {W : WX} {a b : Expr}
def rRep (K : PySem.W.Frag) : List V → Hp → VK → Prop := fun xs H Q => ∃ (p : Addr) (d : PyData), xs = [.ref p] ∧ Dp K H (.ref p) d ∧ repOk d = true ∧ Q (.str d.shown) H
theorem cr_rep (hg : X.A.guards = some []) (hu : X.A.units + 66 < cLine) : CallR X (.builtin "repr") (rRep X.K) := by
  intro pins s σ H vs us Q I r h
  obtain ⟨p, d, rfl, hd, ok, q⟩ := h
  unfold repOk at ok
  simp only [Bool.and_eq_true, Bool.not_eq_true'] at ok
  obtain ⟨⟨⟨h1, h2⟩, h3⟩, h4⟩ := ok
  have h3 := Nat.le_of_ble_eq_true h3
  have h2 := Nat.le_of_ble_eq_true h2
  rw [Vals.ref1 r]
  obtain ⟨as, rd⟩ := Dp.reads I d (.ref p) (.ref p) hd rfl
  exact repr_of_reads' rd h1 (fun z => by rw [h4] at z; cases z) hg (by omega) (fun _ _ e => e) (fun h' u tk hk => ⟨.str _, H, I.kept hk, ⟨_, rfl⟩, q⟩) (Nat.le_trans h2 (by rw [sizeLine_eq]; decide))
theorem q_rep {es : List Expr} {t : Sl → Sto → R (List D)} {p pos : Pos} (hK : kn.K = X.K) (hg : X.A.guards = some []) (hu : X.A.units + 66 < cLine) (gl : Gl X "repr") (hm : X.mg "repr" = none) (ha : QA X kn W (a :: es) t) (hs : ∀ e ∈ a :: es, ∀ x p, e ≠ .Starred x p) :
    PE X (.Call (.Name "repr" p) (a :: es) [] pos) (liftE kn W fun σ S => (t σ S).bind fun ds S1 => repD ds S1) :=
  q_callr (pe_callV (cr_rep hg hu) (.inl ⟨_, rfl⟩) ⟨gl, hm, rfl, by decide, by decide⟩ ha hs) fun σ ρ H S ds vs Q rl r h => by
    unfold repD at h
    split at h
    · split at h
      · rename_i xs d hd
        split at h
        · rename_i ok
          obtain ⟨v, rfl, q⟩ := r.one
          obtain ⟨p, ys, rfl, _, _⟩ := q.tup_inv
          exact ⟨p, d, rfl, hK ▸ toP_Dp _ _ _ q hd, ok, PostE.now h rl .str⟩
        · exact h.elim
      · exact h.elim
    · exact h.elim
/-- a global name is a written table with texts as keys -/
structure DicB (X : Cx) (kn : Kn) (x : Str) (kvs : List (Str × D)) : Prop where
  ex : ∃ (d : Addr) (es : Array DictEntry) (n : Nat), X.mg x = some (.ref d) ∧ KDict X.K X.w d es n ∧ ∀ z, ∃ o, PySem.W.nsIn X.K d z = some o ∧ ∃ v, RelV v (o.getD .none) ∧ ∀ ρ H, Rep kn ρ H (lkS z kvs) v
theorem pe_dgt {d : Addr} {es : Array DictEntry} {n : Nat} {te : TE} {x : Str} {p apos cpos : Pos} (D : KDict X.K X.w d es n) (hg : Gl X x) (hm : X.mg x = some (.ref d)) (hd : (x == ("__debug__" : Str)) = false) (he : PE X a te) (hs : ∀ y p, a ≠ .Starred y p) (hl : (apos.endLine == cpos.line) = true) :
    PE X (.Call (.Attribute (.Name x p) "get" apos) [a] [] cpos) (fun σ H Q => te σ H fun y H1 => ∃ z o v, y = .str z ∧ PySem.W.nsIn X.K d z = some o ∧ RelV v (o.getD .none) ∧ Q v H1) := by
  refine ⟨fun pins s σ H Q I h => ?_⟩
  have st : starEach [a] X.env = (false, eval a X.env) :: starEach [] X.env := starEach_plain hs
  refine wpAny_Call_method_late (attrBase_any fun id p pos z => nomatch z) (by rw [st]; rfl) hl rfl (ld_glob I hg hm ?_ hd)
  have M1 := PySem.W.mapOf_K (prog := X.prog) (w := X.w) I.kIn D.at_ D.lit
  refine ⟨"dict", "dict.get", PySem.F.plainAttrs_dict, PySem.F.slot_dict_get, PySem.F.type_dict_get, M1.typeIs, fun b e => ?_, ?_⟩
  · cases e; exact ⟨_, I.kIn _ _ D.at_, rfl⟩
  · rw [st]
    refine Calls.callWith_builtin rfl (Calls.evalArgs_plain (Calls.spliced_cons (thn (he.run pins s σ H _ I h) fun iv s2 hv => Calls.spliced_nil ?_)))
    obtain ⟨y, H2, I2, ry, z, o, v, rfl, en, rv, q⟩ := hv
    obtain ⟨t, rfl⟩ := ry
    have M2 := PySem.W.mapOf_K (prog := X.prog) (w := X.w) I2.kIn D.at_ D.lit
    refine call_meetsIn PySem.F.slot_dict_get M2.typeIs PySem.F.entry_dict_get (PySem.F.args_dict_get_2 _ _) (meets_dict_get (strKind X.prog X.w) d (PySem.strKind_is X.prog X.w z t) D.low) ⟨_, M2, ?_⟩
    rw [PySem.W.find_K D.at_ en]
    exact ⟨v, H2, I2.tok _, rv, q⟩
theorem q_dgt {kvs : List (Str × D)} {ta : Sl → Sto → R D} {x : Str} {p apos cpos : Pos} (B : DicB X kn x kvs) (hg : Gl X x) (hd : (x == ("__debug__" : Str)) = false) (ha : PE X a (liftE kn W ta)) (hs : ∀ y p, a ≠ .Starred y p) (hl : (apos.endLine == cpos.line) = true) :
    PE X (.Call (.Attribute (.Name x p) "get" apos) [a] [] cpos) (liftE kn W fun σ S => (ta σ S).bind fun x S1 => dgtD kvs x S1) := by
  obtain ⟨d, es, n, hm, D, hv⟩ := B.ex
  refine PE.imp (pe_dgt D hg hm hd ha hs hl) fun σ H Q ⟨ρ, σd, S, rl, re, h⟩ => ⟨ρ, σd, S, rl, re, (PostE.bindE h).mono fun v1 H1 ⟨ρ1, d1, S1, g1, rl1, r1, h1⟩ => ?_⟩
  unfold dgtD at h1
  split at h1
  · rename_i z
    cases r1
    obtain ⟨o, e1, v, e2, e3⟩ := hv z
    exact ⟨z, o, v, rfl, e1, e2, PostE.now h1 rl1 (e3 _ _)⟩
  · exact h1.elim
end
end Kq
set_option Elab.async false
set_option linter.all false
set_option maxRecDepth 100000
set_option maxHeartbeats 2000000
set_option autoImplicit false
/-! # The Q layer, part Mt: match over a tuple with a text ahead -/
namespace Kq
open PySem PySem.Spec PyProof.Rows L2

section
variable {X : Cx} {pins : List (Addr × Obj)} {σ : L2.St} {H : Hp} {s : Shared}
/-- names only -/
def capP (ps : List (Str × Pos)) : List Pattern := ps.map fun p => .MatchAs none (some p.1) p.2
theorem each_caps {M : Model} {A : Around} {E : Value → Shared → Prop} {env : Env} {s : Shared} : ∀ (ps : List (Str × Pos)) (us : List Value), us.length = ps.length → ∀ {Q : Option (List (Str × Value)) → Shared → Prop}, Q (some ((ps.map (·.1)).zip us)) s → wpAny M A (matchEach (capP ps) env us) Q E s
  | [], [], _, _, h => wpAny_matchEach_nil h
  | p :: ps, u :: us, hl, Q, h => by
    refine wpAny_matchEach_cons (wpAny_matchPattern_Capture ?_)
    show wpAny M A (matchEach (capP ps) env us) _ E s
    refine each_caps ps us (by simpa using hl) ?_
    exact h
def setAll (σ : L2.St) : List Nat → List V → L2.St
  | i :: is, v :: vs => setAll (σ.set i (some v)) is vs
  | _, _ => σ
theorem bind_caps {Q : Unit → Shared → Prop} (hN : X.N.Nodup) : ∀ (ns : List Str) (is : List Nat) (xs : List V) (us : List Value) (σ : L2.St) (s : Shared), ns.length = is.length → (∀ (j : Nat) (n : Str) (i : Nat), ns[j]? = some n → is[j]? = some i → X.N[i]? = some n ∧ Loc X.env.scope n ∧ X.fn n = true) → Vals xs us → us.length = ns.length → Inv X pins σ H s →
    (∀ s', Inv X pins (setAll σ is xs) H s' → Q () s') → wpAny (model X.prog X.w) X.A (assignInOrder ((ns.zip us).map fun (n, _) => bindName X.env n) ((ns.zip us).map (·.2))) Q X.xe s
  | [], [], xs, us, σ, s, _, _, hv, hl, I, h => by
    cases us with
    | nil => cases hv; exact assignInOrder_nil (h _ I)
    | cons => simp at hl
  | n :: ns, i :: is, xs, us, σ, s, h1, h2, hv, hl, I, h => by
    cases hv with
    | nil => simp at hl
    | @cons v u vs us r rr =>
      obtain ⟨a1, a2, a3⟩ := h2 0 n i rfl rfl
      refine assignInOrder_cons (wpAny_bindName (store_ok I hN a1 a2 r (fun s' I' => ?_) (.inl a3)))
      exact bind_caps hN ns is vs us _ s' (by simpa using h1) (fun j m k e1 e2 => h2 (j + 1) m k e1 e2) rr (by simpa using hl) I' h
/-- one case: what is asked -/
structure MC where
  lit : Str
  ns : List (Str × Pos)
  is : List Nat
  body : List Stmt
  j : Nat
  p1 : Pos
  p2 : Pos
  p3 : Pos
def MC.case (m : MC) : MatchCase := ⟨.MatchSequence (.MatchValue (.Constant (.str m.lit) m.j m.p1) m.p2 :: capP m.ns) m.p3, none, m.body⟩
def tCs (K : PySem.W.Frag) : List (MC × TS) → V → TS
  | [], _ => fun D σ H => D.nx σ H
  | (m, t) :: r, v => fun D σ H => ∃ a xs, v = .ref a ∧ SqT K H a xs ∧ if xs.length = m.ns.length + 1 then ∃ w, xs[0]? = some (.str w) ∧ if w = m.lit then t D (setAll σ m.is (xs.drop 1)) H else tCs K r v D σ H else tCs K r v D σ H
theorem cases_ok (hc : X.calm = true) (hN : X.N.Nodup) : ∀ (cs : List (MC × TS)), (∀ c ∈ cs, PSs X c.1.body c.2 ∧ c.1.ns.length = c.1.is.length ∧ ∀ (j : Nat) (n : Str) (i : Nat), (c.1.ns.map (·.1))[j]? = some n → c.1.is[j]? = some i → X.N[i]? = some n ∧ Loc X.env.scope n ∧ X.fn n = true) →
    ∀ (first : Bool) (s : Shared) (σ : L2.St) (H : Hp) (D : Ends) (v : V) (u : Value), Inv X pins σ H s → RelV v u → tCs X.K cs v D σ H → wpAny (model X.prog X.w) X.A (matchCases (cs.map fun c => c.1.case) X.env u first) (SP X pins D) X.xe s
  | [], _, first, s, σ, H, D, v, u, I, r, h => wpAny_matchCases_nil ⟨σ, H, I, h⟩
  | (m, t) :: cs, hcs, first, s, σ, H, D, v, u, I, r, h => by
    obtain ⟨a, xs, rfl, hq, h⟩ := h
    have ru : u = .ref a := by cases r; rfl
    subst ru
    obtain ⟨its, rv, ht, hz⟩ := I.tuple hq
    obtain ⟨b1, b2, b3⟩ := hcs (m, t) (by simp)
    have rest : tCs X.K cs (.ref a) D σ H → ∀ (s' : Shared) , Inv X pins σ H s' → wpAny (model X.prog X.w) X.A (matchCases (cs.map fun c => c.1.case) X.env (.ref a) false) (SP X pins D) X.xe s' := fun h s' I' => cases_ok hc hN cs (fun c hc => hcs c (by simp [hc])) false s' σ H D (.ref a) (.ref a) I' rfl h
    have zl : its.toArray.size = xs.length := by simp [rv.length]
    have fit : (its.toArray.size : Int) < 2 ^ 63 := by rw [zl]; rw [sizeLine_eq] at hz; omega
    have pl : ∀ (p : Pattern), (p :: capP m.ns).length = m.ns.length + 1 := fun p => by simp [capP]
    have star : ((Pattern.MatchValue (.Constant (.str m.lit) m.j m.p1) m.p2) :: capP m.ns).findIdx? (·.isStar) = none := by
      rw [List.findIdx?_eq_none_iff]
      intro p hp
      rcases List.mem_cons.mp hp with rfl | hp
      · rfl
      · obtain ⟨q, _, rfl⟩ := List.mem_map.mp hp
        rfl
    have wild : (((Pattern.MatchValue (.Constant (.str m.lit) m.j m.p1) m.p2) :: capP m.ns).all fun p => p.isWildcard || (p.isStar && p.names.isEmpty)) = false := by
      rw [List.all_cons]
      rfl
    show wpAny _ _ (matchCases (⟨_, none, m.body⟩ :: _) X.env (.ref a) first) _ _ _
    refine wpAny_matchCases_cons ?_
    by_cases hl : xs.length = m.ns.length + 1
    · rw [if_pos hl] at h
      obtain ⟨w, hw, h⟩ := h
      refine matchSeq_tuple_hit ht fit (by rw [zl, hl, pl]) ?_ star wild
      have en : ((Pattern.MatchValue (.Constant (.str m.lit) m.j m.p1) m.p2) :: capP m.ns).length = its.toArray.size := by rw [pl, zl, hl]
      rw [en]
      refine unpackItems_tuple (I.ok.hd hc) ht fun h' hx => ?_
      have I1 : Inv X pins σ H { s with heap := h', toks := s.toks + 1 + 1 } := I.kept (t' := s.toks + 1 + 1) fun b o e => hx b o (Nat.ne_of_lt (Heap.lt_size e)) e
      clear fit hz ht zl en hq hx star wild pl
      cases rv with
      | nil => cases hw
      | @cons x0 i0 xs its r0 rr =>
        have e0 : x0 = .str w := Option.some.inj hw
        subst e0
        show wpAny _ _ (matchEach (_ :: capP m.ns) X.env (i0 :: its)) _ _ _
        refine wpAny_matchEach_cons (wpAny_matchPattern_Value ?_)
        refine thn ((pe_str (X := X) (x := m.lit) (j := m.j) (pos := m.p1)).run pins _ σ H (fun y H' => y = .str m.lit ∧ H' = H) I1 ⟨rfl, rfl⟩) fun z s1 ⟨y, H1, I2, ry, e1, e2⟩ => ?_
        subst e1; subst e2
        refine thn (op_eq pins s1 σ H1 (.str w) (.str m.lit) i0 z (fun y H' => y = .bl (decide (V.str w = V.str m.lit)) ∧ H' = H1) I2 r0 ry ⟨rfl, rfl, rfl⟩) fun z2 s2 ⟨y2, H2, I3, ry2, e1, e2⟩ => ?_
        subst e1; subst e2
        have ez : z2 = .bool (decide (V.str w = V.str m.lit)) := by cases ry2; rfl
        subst ez
        refine wpAny_truthy_bool ?_
        by_cases hwl : w = m.lit
        · rw [if_pos hwl] at h
          subst hwl
          rw [decide_eq_true rfl, if_pos rfl]
          have ll : its.length = m.ns.length := by have := rr.length; simp at hl; omega
          refine each_caps m.ns its ll ?_
          show wpAny _ _ (assignInOrder (((m.ns.map (·.1)).zip its).map _) _) _ _ _
          refine bind_caps hN (m.ns.map (·.1)) m.is xs its σ s2 (by simpa using b2) b3 rr (by simpa using ll) I3 fun s3 I4 => ?_
          exact b1.run pins s3 _ _ D I4 h
        · rw [if_neg hwl] at h
          rw [decide_eq_false (fun z => hwl (by injection z)), if_neg (by decide)]
          exact rest h s2 I3
    · rw [if_neg hl] at h
      refine matchSeq_tuple_miss ht fit (by rw [zl, pl]; exact hl) ?_ star wild
      exact rest h _ (I.kept (t' := s.toks + 1 + 1) fun b o e => e)
end
end Kq
set_option Elab.async false
set_option linter.all false
set_option maxRecDepth 100000
set_option maxHeartbeats 2000000
set_option autoImplicit false
/-! # The Q layer, part Mu: match as nested ifs of my code -/
namespace Kq
open PySem PySem.Spec PyProof.Rows L2
def matA (i : Nat) : List Nat → Nat → Cms → Cms
  | [], _, b => b
  | s :: r, k, b => .cons (.asg (.nm s) (.idx (.loc i) (.con (.int (k : Nat))))) (matA i r (k + 1) b)
def matC (i : Nat) : List (Str × List Nat × Cms) → Cm
  | [] => .pass
  | (lit, is, b) :: r => .ite (.ands (.cmp .eq (.bi .len (.cons (.bin .add (.loc i) (.tup .nil)) .nil)) (.con (.int ((is.length + 1 : Nat) : Int)))) (.cmp .eq (.bin .add (.idx (.loc i) (.con (.int 0))) (.con (.str ""))) (.con (.str lit)))) (matA i is 1 b) (.cons (matC i r) .nil)
def setAllD (σ : Sl) : List Nat → List D → Sl
  | i :: is, d :: ds => setAllD (σ.set i (some d)) is ds
  | _, _ => σ
theorem atI_ok {α : Type} {xs : List α} {k : Nat} (h : k < xs.length) : L2.atI xs (k : Int) = some xs[k] := by
  unfold L2.atI L2.ixN
  rw [if_pos (Int.natCast_nonneg k), if_pos (by exact_mod_cast h)]
  simp [h]
theorem matA_ev {F : Wd} {i : Nat} {ds : List D} {b : Cms} : ∀ (is : List Nat) (k : Nat) (σ : Sl) (S : Sto), σ[i]? = some (some (.tup ds)) → (∀ s ∈ is, s ≠ i) → k + is.length = ds.length → evSs (matA i is k b) F σ S = evSs b F (setAllD σ is (ds.drop k)) S
  | [], k, σ, S, _, _, _ => by
    unfold matA setAllD
    rfl
  | s :: r, k, σ, S, h, hne, hl => by
    have hk : k < ds.length := by rw [← hl]; simp
    have e1 : (evA F (.idx (.loc i) (.con (.int (k : Nat))))).v σ S = .ok ds[k] S := by
      simp only [evA, Ev3.of, h]
      show (idxD (.tup ds) (.int (k : Nat)) S) = _
      unfold idxD
      simp only [atI_ok hk]
    have e2 : evS (.asg (.nm s) (.idx (.loc i) (.con (.int (k : Nat))))) F σ S = .nx (σ.set s (some ds[k])) S := by
      simp only [evS, e1]
      rfl
    show evSs (.cons (.asg (.nm s) (.idx (.loc i) (.con (.int (k : Nat))))) (matA i r (k + 1) b)) F σ S = _
    show RS.seq (evS (.asg (.nm s) (.idx (.loc i) (.con (.int (k : Nat))))) F σ S) (fun σ S => evSs (matA i r (k + 1) b) F σ S) = _
    rw [e2]
    show evSs (matA i r (k + 1) b) F (σ.set s (some ds[k])) S = _
    rw [matA_ev r (k + 1) _ S (by rw [List.getElem?_set_ne (hne s (by simp))]; exact h) (fun t ht => hne t (by simp [ht])) (by simp at hl; omega)]
    rw [List.drop_eq_getElem_cons hk]
    rfl
theorem setAll_rep {kn : Kn} {ρ : List Addr} {H : Hp} : ∀ (is : List Nat) {ds : List D} {xs : List V} {σd : Sl} {σ : L2.St}, RepEnv kn ρ H σd σ → Reps kn ρ H ds xs → RepEnv kn ρ H (setAllD σd is ds) (setAll σ is xs)
  | [], _, _, _, _, re, _ => by unfold setAllD setAll; exact re
  | _ :: _, [], [], _, _, re, _ => by unfold setAllD setAll; exact re
  | i :: is, d :: ds, x :: xs, σd, σ, re, .cons r rr => by
    unfold setAllD setAll
    exact setAll_rep is (re.set r) rr
theorem str_nil (w : Str) : w ++ ("" : Str) = w := by
  obtain ⟨a⟩ := w
  show Str.mk (a ++ _) = _
  congr 1
theorem evSs_one {a : Cm} {F : Wd} {σ : Sl} {S : Sto} : evSs (.cons a .nil) F σ S = evS a F σ S := by
  show RS.seq (evS a F σ S) (fun σ S => evSs .nil F σ S) = _
  cases evS a F σ S <;> rfl
theorem eqD_ii (S : Sto) (i j : Int) : eqD S (.int i) (.int j) = some (decide (i = j)) := by
  unfold eqD
  simp only [toPS, toP]
  rw [if_pos ⟨rfl, rfl⟩]
  unfold PyData.eqv
  first | rfl | simp
theorem eqD_ss {S : Sto} {x y : Str} {k : Bool} (h : eqD S (.str x) (.str y) = some k) : k = decide (x = y) := by
  unfold eqD at h
  simp only [toPS, toP] at h
  split at h
  · cases h
    unfold PyData.eqv
    by_cases e : x = y
    · subst e; simp
    · simp [e]
  · cases h
theorem matC_tup {kn : Kn} {W : WX} {F : Wd} {i : Nat} {m : MC} {b : Cms} {cs : List (MC × Cms)} {N : Ends} {H : Hp} {ρ : List Addr} {σd : Sl} {S : Sto} (h : PostS kn W ρ H (evS (matC i (((m, b) :: cs).map fun c => (c.1.lit, c.1.is, c.2))) F σd S) N) : ∃ ds, σd[i]? = some (some (.tup ds)) ∧ ds.length ≤ big := by
  have h : PostS kn W ρ H (RS.of ((evA F (.ands (.cmp .eq (.bi .len (.cons (.bin .add (.loc i) (.tup .nil)) .nil)) (.con (.int ((m.is.length + 1 : Nat) : Int)))) (.cmp .eq (.bin .add (.idx (.loc i) (.con (.int 0))) (.con (.str ""))) (.con (.str m.lit))))).t σd S) σd fun k S1 => if k = true then evSs (matA i m.is 1 b) F σd S1 else evSs (.cons (matC i (cs.map fun c => (c.1.lit, c.1.is, c.2))) .nil) F σd S1) N := h
  have hno : ((evA F (.bin .add (.loc i) (.tup .nil))).v σd S = .no) → False := fun e => by
    simp only [evA, Ev3.of, evs] at e h
    simp only [e, R.bind_no, RS.of] at h
    exact h
  have hd : ∃ ds, σd[i]? = some (some (.tup ds)) ∧ ds.length ≤ big := by
    cases e : σd[i]? with
    | none => exact (hno (by simp only [evA, Ev3.of, evs, e, locD, R.bind_no])).elim
    | some o =>
      cases o with
      | none => exact (hno (by simp only [evA, Ev3.of, evs, e, locD, R.bind_no])).elim
      | some d =>
        cases d with
        | tup ds =>
          by_cases hb : ds.length ≤ big
          · exact ⟨ds, rfl, hb⟩
          · refine (hno ?_).elim
            simp only [evA, Ev3.of, evs, e, locD, R.bind_ok, binD]
            rw [if_neg (by simpa using hb)]
        | exc => exact (hno (by simp only [evA, Ev3.of, evs, e, locD, R.bind_no])).elim
        | _ => exact (hno (by simp only [evA, Ev3.of, evs, e, locD, R.bind_ok, binD])).elim
  exact hd
/-- what the code of a case's test gives -/
theorem matC_post {kn : Kn} {W : WX} {F : Wd} {i : Nat} {v : V} : ∀ (cs : List (MC × Cms)), (∀ c ∈ cs, (∀ s ∈ c.1.is, s ≠ i) ∧ c.1.ns.length = c.1.is.length) → ∀ (N : Ends) (σ : L2.St) (H : Hp) (ρ : List Addr) (σd : Sl) (S : Sto), (∀ ds, σd[i]? = some (some (.tup ds)) → Rep kn ρ H (.tup ds) v) → Rel kn ρ H S → RepEnv kn ρ H σd σ → PostS kn W ρ H (evS (matC i (cs.map fun c => (c.1.lit, c.1.is, c.2))) F σd S) N →
    tCs kn.K (cs.map fun c => (c.1, liftS kn W fun σ S => evSs c.2 F σ S)) v N σ H
  | [], _, N, σ, H, ρ, σd, S, hv, rl, re, h => h σ H ρ .refl rl re
  | (m, b) :: cs, hcs, N, σ, H, ρ, σd, S, hv, rl, re, h => by
    obtain ⟨a1, a2⟩ := hcs (m, b) (by simp)
    dsimp only at a1 a2
    have h0 := h
    have h : PostS kn W ρ H (RS.of ((evA F (.ands (.cmp .eq (.bi .len (.cons (.bin .add (.loc i) (.tup .nil)) .nil)) (.con (.int ((m.is.length + 1 : Nat) : Int)))) (.cmp .eq (.bin .add (.idx (.loc i) (.con (.int 0))) (.con (.str ""))) (.con (.str m.lit))))).t σd S) σd fun k S1 => if k = true then evSs (matA i m.is 1 b) F σd S1 else evSs (.cons (matC i (cs.map fun c => (c.1.lit, c.1.is, c.2))) .nil) F σd S1) N := h
    have hd := matC_tup (cs := cs) h0
    obtain ⟨ds, hds, hb⟩ := hd
    have r := hv ds hds
    cases r with
    | @tup _ a xs sq rs =>
      have hlen := rs.length
      refine ⟨a, xs, rfl, sq, ?_⟩
      dsimp only
      have eA : (evA F (.cmp .eq (.bi .len (.cons (.bin .add (.loc i) (.tup .nil)) .nil)) (.con (.int ((m.is.length + 1 : Nat) : Int))))).t σd S = .ok (decide ((ds.length : Int) = ((m.is.length + 1 : Nat) : Int))) S := by
        simp only [evA, Ev3.of, evs, hds, locD, R.bind_ok, binD]
        rw [if_pos (by simpa using hb)]
        simp only [R.bind_ok, List.append_nil, biD, itemsD, cmpD, eqD_ii, truD]
      have rest : PostS kn W ρ H (evSs (.cons (matC i (cs.map fun c => (c.1.lit, c.1.is, c.2))) .nil) F σd S) N → tCs kn.K (cs.map fun c => (c.1, liftS kn W fun σ S => evSs c.2 F σ S)) (.ref a) N σ H := fun h => by
        rw [evSs_one] at h
        exact matC_post cs (fun c hc => hcs c (by simp [hc])) N σ H ρ σd S hv rl re h
      have eT : (evA F (.ands (.cmp .eq (.bi .len (.cons (.bin .add (.loc i) (.tup .nil)) .nil)) (.con (.int ((m.is.length + 1 : Nat) : Int)))) (.cmp .eq (.bin .add (.idx (.loc i) (.con (.int 0))) (.con (.str ""))) (.con (.str m.lit))))).t σd S = ((evA F (.cmp .eq (.bi .len (.cons (.bin .add (.loc i) (.tup .nil)) .nil)) (.con (.int ((m.is.length + 1 : Nat) : Int))))).t σd S).bind fun k S1 => if k = true then (evA F (.cmp .eq (.bin .add (.idx (.loc i) (.con (.int 0))) (.con (.str ""))) (.con (.str m.lit)))).t σd S1 else .ok false S1 := by
        simp only [evA]
      rw [eT, eA] at h
      by_cases hl : ds.length = m.is.length + 1
      · rw [if_pos (by omega)]
        simp only [R.bind_ok, decide_eq_true (show (ds.length : Int) = ((m.is.length + 1 : Nat) : Int) by omega), if_true] at h
        match ds, xs, rs, hl, hds with
        | d0 :: ds, x0 :: xs, .cons r0 rr, hl, hds =>
          have eB : (evA F (.cmp .eq (.bin .add (.idx (.loc i) (.con (.int 0))) (.con (.str ""))) (.con (.str m.lit)))).t σd S = (((binD .add d0 (.str "") S).bind fun x S2 => cmpD .eq x (.str m.lit) S2).bind truD) := by
            simp only [evA, Ev3.of, evs, hds, locD, R.bind_ok]
            have : idxD (.tup (d0 :: ds)) (.int 0) S = .ok d0 S := by
              unfold idxD
              have := atI_ok (xs := d0 :: ds) (k := 0) (by simp)
              simp only [Int.natCast_zero] at this
              simp only [show L2.atI (d0 :: ds) (0 : Int) = some d0 from this]
            rw [this]
            rfl
          rw [eB] at h
          cases r0 with
          | @str w =>
            refine ⟨w, rfl, ?_⟩
            by_cases hw : w.length + ("" : Str).length ≤ big
            · have e2 : binD .add (.str w) (.str "") S = .ok (.str (w ++ "")) S := by
                unfold binD
                simp only
                rw [if_pos hw]
              rw [e2, str_nil] at h
              simp only [R.bind_ok] at h
              have e3 : cmpD .eq (.str w) (.str m.lit) S = (match eqD S (.str w) (.str m.lit) with
                | some k => .ok (.bl k) S
                | none => .no) := rfl
              rw [e3] at h
              cases e4 : eqD S (.str w) (.str m.lit) with
              | none => rw [e4] at h; exact (show False from h).elim
              | some k =>
                rw [e4] at h
                have ek := eqD_ss e4
                subst ek
                by_cases hwl : w = m.lit
                · rw [if_pos hwl]
                  rw [decide_eq_true hwl] at h
                  have h2 : PostS kn W ρ H (evSs (matA i m.is 1 b) F σd S) N := h
                  rw [matA_ev m.is 1 σd S hds a1 (by simp at hl ⊢; omega)] at h2
                  exact ⟨ρ, _, S, rl, setAll_rep m.is re rr, h2⟩
                · rw [if_neg hwl]
                  rw [decide_eq_false hwl] at h
                  exact rest h
            · have e2 : binD .add (.str w) (.str "") S = .no := by
                unfold binD
                simp only
                rw [if_neg hw]
              rw [e2] at h
              exact (show False from h).elim
          | _ => exact (show False from h).elim
      · rw [if_neg (by omega)]
        simp only [R.bind_ok, decide_eq_false (show ¬(ds.length : Int) = ((m.is.length + 1 : Nat) : Int) by omega), Bool.false_eq_true, if_false] at h
        exact rest h
/-- match over a local name -/
theorem q_mat {X : Cx} {kn : Kn} {W : WX} {F : Wd} {i : Nat} {sj : Expr} {pos : Pos} {cs : List (MC × Cms)} (hK : kn.K = X.K) (hc : X.calm = true) (hN : X.N.Nodup) (hs : PE X sj (liftE kn W (evA F (.loc i)).v)) (h0 : cs ≠ [])
    (hcs : ∀ c ∈ cs, PSs X c.1.body (liftS kn W fun σ S => evSs c.2 F σ S) ∧ (∀ s ∈ c.1.is, s ≠ i) ∧ c.1.ns.length = c.1.is.length ∧ ∀ (j : Nat) (n : Str) (k : Nat), (c.1.ns.map (·.1))[j]? = some n → c.1.is[j]? = some k → X.N[k]? = some n ∧ Loc X.env.scope n ∧ X.fn n = true) :
    PS X (.Match sj (cs.map fun c => c.1.case) pos) (liftS kn W fun σ S => evS (matC i (cs.map fun c => (c.1.lit, c.1.is, c.2))) F σ S) := by
  refine ⟨fun pins s σ H D I ⟨ρ, σd, S, rl, re, h⟩ => wpAny_Match ?_⟩
  obtain ⟨⟨m, b⟩, cs', rfl⟩ : ∃ c cs', cs = c :: cs' := by
    cases cs with
    | nil => exact absurd rfl h0
    | cons c r => exact ⟨c, r, rfl⟩
  obtain ⟨ds, hds, hb⟩ := matC_tup h
  refine thn (hs.run pins s σ H (fun v H' => tCs kn.K (((m, b) :: cs').map fun c => (c.1, liftS kn W fun σ S => evSs c.2 F σ S)) v D σ H') I ⟨ρ, σd, S, rl, re, ?_⟩) fun u s1 ⟨v, H1, I1, r1, q⟩ => ?_
  · show PostE kn W σ ρ H (locD (σd[i]?) S) _
    rw [hds]
    intro v H' ρ' g rl' r'
    exact matC_post ((m, b) :: cs') (fun c hc => ⟨(hcs c hc).2.1, (hcs c hc).2.2.1⟩) D σ H' ρ' σd S (fun es he => by rw [hds] at he; cases he; exact r') rl' (re.gr g) (h.gr g)
  · rw [hK] at q
    have := cases_ok (pins := pins) hc hN (((m, b) :: cs').map fun c => (c.1, liftS kn W fun σ S => evSs c.2 F σ S)) (fun c hc => by
      obtain ⟨d, hd, rfl⟩ := List.mem_map.mp hc
      exact ⟨(hcs d hd).1, (hcs d hd).2.2⟩) true s1 σ H1 D v u I1 r1 q
    rw [List.map_map] at this
    exact this
end Kq
set_option Elab.async false
set_option linter.all false
set_option maxRecDepth 100000
set_option maxHeartbeats 2000000
set_option autoImplicit false
/-! # The Q layer, part Mv: raising exceptions with fields (own classes over ValueError whose __init__ stores its arguments) -/
namespace Kq
open PySem PySem.Spec PyProof.Rows L2

/-- what stands behind the stores of an __init__ -/
structure Made (H H' : Hp) (a C d : Addr) (l : List (Str × V)) : Prop where
  ea : H' a = some (exo a C (some d))
  ed : H' d = some (exd d l)
  oth : ∀ b, b ≠ a → b ≠ d → H' b = H b
def spInit (C : Addr) (fs : List Str) : Sp := fun vs H Q _ => ∃ (a : Addr) (ws : List V), vs = .ref a :: ws ∧ ws.length = fs.length ∧ H a = some (exo a C none) ∧
  ∀ (d : Addr) (H' : Hp), H d = none → d ≠ a → Made H H' a C d (fs.zip ws).reverse → Q .non H'
/-- self.f = f, one behind another; the parameters from slot i on -/
def isInit (N : List Str) : Nat → List Stmt → Option (List Str)
  | _, [] => some []
  | i, .Assign [.Attribute (.Name s _) f _] (.Name x _) _ :: r => (match ixOf s N, ixOf x N, isInit N (i + 1) r with
    | some 0, some j, some fs => if j = i then some (f :: fs) else none
    | _, _, _ => none)
  | _, _ :: _ => none
section
variable {X : Cx} {N : List Str}
theorem isInit_cons {i : Nat} {s : Stmt} {r : List Stmt} {fs : List Str} (h : isInit N i (s :: r) = some fs) : ∃ sl p1 f p2 x p3 p4 fs', s = .Assign [.Attribute (.Name sl p1) f p2] (.Name x p3) p4 ∧ fs = f :: fs' ∧ ixOf sl N = some 0 ∧ ixOf x N = some i ∧ isInit N (i + 1) r = some fs' := by
  unfold isInit at h
  split at h
  · rename_i heq
    cases heq
  · rename_i i' sl p1 f p2 x p3 p4 r' heq
    cases heq
    split at h
    · rename_i j fs' h1 h2 h3
      split at h
      · rename_i hj
        cases h
        subst hj
        exact ⟨_, _, _, _, _, _, _, _, rfl, rfl, h1, h2, h3⟩
      · cases h
    · cases h
  · cases h
theorem rest_ok {C : Addr} (T : OexC X.K C) (hN : X.N = N) (vis : ∀ x ∈ N, Vis X.env.scope x) (nb : ∀ x ∈ N, (x == ("__debug__" : Str)) = false ∧ (x == ("__classdict__" : Str)) = false) :
    ∀ (r : List Stmt) (i : Nat) (fs : List Str), isInit N i r = some fs → (∀ f ∈ fs, PySem.W.findIn X.K (.ref C) f = some none) →
      PSs X r (fun D σ H => ∃ (a d : Addr) (acc : List (Str × V)) (ws : List V), σ[0]? = some (some (.ref a)) ∧ (∀ k w, ws[k]? = some w → σ[i + k]? = some (some w)) ∧ ws.length = fs.length ∧ acc.length + ws.length ≤ 900 ∧ H a = some (exo a C (some d)) ∧ H d = some (exd d acc) ∧ d ≠ a ∧
        ∀ H', Made H H' a C d ((fs.zip ws).reverse ++ acc) → D.nx σ H')
  | [], i, fs, h, _ => by
    cases h
    refine PSs.imp pss_nil fun D σ H ⟨a, d, acc, ws, h0, hs, hl, hz, ha, hd, hne, k⟩ => k H ⟨ha, ?_, fun _ _ _ => rfl⟩
    have : ws = [] := List.eq_nil_of_length_eq_zero hl
    subst this
    exact hd
  | s :: r, i, fs, h, hf => by
    obtain ⟨sl, p1, f, p2, x, p3, p4, fs', rfl, rfl, h1, h2, h3⟩ := isInit_cons h
    have m1 := ixOf_get h1
    have m2 := ixOf_get h2
    have ih := rest_ok T hN vis nb r (i + 1) fs' h3 fun g hg => hf g (by simp [hg])
    have q0 : PE X (.Name sl p1) (tVar 0) := pe_var (hN ▸ m1) (vis _ (List.mem_of_getElem? m1)) (nb _ (List.mem_of_getElem? m1)).1 (nb _ (List.mem_of_getElem? m1)).2
    have qi : PE X (.Name x p3) (tVar i) := pe_var (hN ▸ m2) (vis _ (List.mem_of_getElem? m2)) (nb _ (List.mem_of_getElem? m2)).1 (nb _ (List.mem_of_getElem? m2)).2
    refine PSs.imp (pss_cons (ps_ost q0 qi) ih) fun D σ H ⟨a, d, acc, ws, h0, hs, hl, hz, ha, hd, hne, k⟩ => ?_
    match ws, hl with
    | w :: ws, hl =>
      refine ⟨w, hs 0 w rfl, .ref a, h0, a, C, rfl, T, hf f (by simp), .inr ⟨d, acc, ha, hd, by simp at hz; omega, ?_⟩⟩
      refine ⟨a, d, (f, w) :: acc, ws, h0, fun j v e => by rw [show i + 1 + j = i + (j + 1) by omega]; exact hs (j + 1) v (by simpa using e), by simpa using hl, by simp at hz ⊢; omega, by rw [upd_ne hne.symm]; exact ha, upd_same, hne, fun H' M => k H' ⟨M.ea, ?_, fun b h1 h2 => (M.oth b h1 h2).trans (upd_ne h2)⟩⟩
      have := M.ed
      rw [List.zip_cons_cons, List.reverse_cons, List.append_assoc]
      exact this
theorem first_ok {C : Addr} (T : OexC X.K C) (hN : X.N = N) (vis : ∀ x ∈ N, Vis X.env.scope x) (nb : ∀ x ∈ N, (x == ("__debug__" : Str)) = false ∧ (x == ("__classdict__" : Str)) = false)
    {r : List Stmt} {fs : List Str} (h : isInit N 1 r = some fs) (h0 : fs ≠ []) (hf : ∀ f ∈ fs, PySem.W.findIn X.K (.ref C) f = some none) :
      PSs X r (fun D σ H => ∃ (a : Addr) (ws : List V), σ[0]? = some (some (.ref a)) ∧ (∀ k w, ws[k]? = some w → σ[1 + k]? = some (some w)) ∧ ws.length = fs.length ∧ ws.length ≤ 800 ∧ H a = some (exo a C none) ∧
        ∀ d H', H d = none → d ≠ a → Made H H' a C d (fs.zip ws).reverse → D.nx σ H') := by
  match r, h with
  | [], h => cases h; exact absurd rfl h0
  | s :: r, h =>
    obtain ⟨sl, p1, f, p2, x, p3, p4, fs', rfl, rfl, h1, h2, h3⟩ := isInit_cons h
    have m1 := ixOf_get h1
    have m2 := ixOf_get h2
    have ih := rest_ok T hN vis nb r 2 fs' h3 fun g hg => hf g (by simp [hg])
    have q0 : PE X (.Name sl p1) (tVar 0) := pe_var (hN ▸ m1) (vis _ (List.mem_of_getElem? m1)) (nb _ (List.mem_of_getElem? m1)).1 (nb _ (List.mem_of_getElem? m1)).2
    have qi : PE X (.Name x p3) (tVar 1) := pe_var (hN ▸ m2) (vis _ (List.mem_of_getElem? m2)) (nb _ (List.mem_of_getElem? m2)).1 (nb _ (List.mem_of_getElem? m2)).2
    refine PSs.imp (pss_cons (ps_ost q0 qi) ih) fun D σ H ⟨a, ws, h0, hs, hl, hz, ha, k⟩ => ?_
    match ws, hl with
    | w :: ws, hl =>
      refine ⟨w, hs 0 w rfl, .ref a, h0, a, C, rfl, T, hf f (by simp), .inl ⟨ha, fun d hd hne => ?_⟩⟩
      refine ⟨a, d, [(f, w)], ws, h0, fun j v e => by rw [show 2 + j = 1 + (j + 1) by omega]; exact hs (j + 1) v (by simpa using e), by simpa using hl, by simp at hz ⊢; omega, upd_same, by rw [upd_ne hne]; exact upd_same, hne, fun H' M => k d H' hd hne ⟨M.ea, ?_, fun b h1 h2 => (M.oth b h1 h2).trans (by rw [upd_ne h1, upd_ne h2])⟩⟩
      have := M.ed
      rw [List.zip_cons_cons, List.reverse_cons]
      exact this
end
/-- such an __init__ keeps its promise -/
theorem init_ok {P : Program} {w : World} {K : PySem.W.Frag} {mg : Str → Option Value} {base : Heap} {name qual : Str} {params : Arguments} {body : List Stmt} {scope : Scope} {fI : Addr} {fd : FuncData} {N : List Str} {C : Addr} {fs : List Str}
    (FD : FunD K name qual params body scope [] [] fI fd) (S : FnScope N N scope) (nb : ∀ x ∈ N, (x == ("__debug__" : Str)) = false ∧ (x == ("__classdict__" : Str)) = false) (hb : isInit N 1 body = some fs) (h0 : fs ≠ []) (hl : N.length = fs.length + 1) (h8 : fs.length ≤ 800)
    (T : OexC K C) (hf : ∀ f ∈ fs, PySem.W.findIn K (.ref C) f = some none) : FnOk P w K mg base (L2.CX P w) 1 fI fd N (spInit C fs) := by
  refine FunD.ok FD S (fun vs H Q E ⟨a, ws, e, hlw, _⟩ => by subst e; simp [hlw, hl]) fun cdv A outer s H vs Q E room ⟨a, ws, e, hlw, ha, k⟩ => ?_
  subst e
  let X := cxOf (L2.CX P w) P w K mg base N qual scope fI cdv A outer s H E
  have vis : ∀ x ∈ N, Vis X.env.scope x := fun x hx => by
    rcases S.par x hx with h | h
    · exact .inl h
    · exact .inr (.inl h)
  refine ⟨_, first_ok (X := X) (N := N) T rfl vis nb hb h0 hf, a, ws, ?_, fun j v e => ?_, hlw, by omega, ha, fun d H' hd hne M => k d H' hd hne M⟩
  · rfl
  · show (L2.start N (V.ref a :: ws))[1 + j]? = _
    unfold L2.start
    rw [List.map_cons, List.cons_append, Nat.add_comm 1 j, List.getElem?_cons_succ]
    obtain ⟨h1, h2⟩ := List.getElem?_eq_some_iff.mp e
    rw [List.getElem?_append_left (by simpa using h1), List.getElem?_map, e]
    rfl

/-- an own exception class with such an __init__, as raise asks it -/
structure ExI (X : Cx) (kn : Kn) (x : Str) : Prop where
  ex : ∃ (C fI : Addr) (fd : FuncData) (ps : List Str) (k : Nat), x ∈ kn.xn ∧ kn.cls x = some C ∧ X.mg x = some (.ref C) ∧ OexC X.K C ∧ PySem.W.findIn X.K (.ref C) "__init__" = some (some (.ref fI)) ∧ PySem.W.typeIn X.K (.ref fI) = some (.type "function") ∧
    FnOk X.prog X.w X.K X.mg X.base (L2.CX X.prog X.w) k fI fd ps (spInit C (kn.fns x)) ∧ Room (k + 1) X.A ∧ Binds X.K fd ps [] ∧ kn.fns x ≠ [] ∧ (kn.fns x).Nodup ∧ (kn.fns x).length ≤ 800
theorem zip_fst_mem {f : Str} {v : V} : ∀ {ns : List Str} {vs : List V}, (f, v) ∈ ns.zip vs → f ∈ ns
  | _, _, h => (List.of_mem_zip h).1
theorem lookup_app {f : Str} : ∀ {l m : List (Str × V)}, (l ++ m).lookup f = (l.lookup f).or (m.lookup f)
  | [], m => by simp
  | (g, v) :: l, m => by
    rw [List.cons_append, List.lookup_cons, List.lookup_cons]
    cases (f == g) with
    | true => rfl
    | false => exact lookup_app
theorem lookup_rev : ∀ {ns : List Str} {vs : List V} {f : Str}, ns.Nodup → (ns.zip vs).reverse.lookup f = (ns.zip vs).lookup f
  | [], _, _, _ => rfl
  | _ :: _, [], _, _ => rfl
  | n :: ns, v :: vs, f, h => by
    rw [List.nodup_cons] at h
    rw [List.zip_cons_cons, List.reverse_cons, lookup_app, lookup_rev h.2, List.lookup_cons]
    by_cases e : (f == n) = true
    · have : f = n := by simpa using e
      subst this
      have : (ns.zip vs).lookup f = none := by
        cases q : (ns.zip vs).lookup f with
        | none => rfl
        | some u =>
          have key : ∀ {l : List (Str × V)}, l.lookup f = some u → (f, u) ∈ l := by
            intro l
            induction l with
            | nil => intro h; cases h
            | cons p l ih =>
              intro h
              rw [List.lookup_cons] at h
              by_cases e : (f == p.1) = true
              · rw [e] at h
                cases h
                have : f = p.1 := by simpa using e
                rw [this]
                exact List.mem_cons_self
              · have e' : (f == p.1) = false := by simpa using e
                rw [e'] at h
                exact List.mem_cons_of_mem _ (ih h)
          exact absurd (zip_fst_mem (key q)) h.1
      rw [this, e]
      simp [List.lookup]
    · have e' : (f == n) = false := by simpa using e
      rw [e']
      simp [List.lookup, e']
section
variable {X : Cx} {kn : Kn} {W : WX} {e : Expr} {es : List Expr}
theorem q_rseA {x : Str} {t : Sl → Sto → R (List D)} {p pos pos2 : Pos} (hc : X.calm = true) (tk : Takes X W) (K : ExI X kn x) (hg : Gl X x) (hd : (x == ("__debug__" : Str)) = false) (ha : QA X kn W (e :: es) t) (hl : Long t (kn.fns x).length) (hs : ∀ a ∈ e :: es, ∀ x p, a ≠ .Starred x p) :
    PS X (.Raise (some (.Call (.Name x p) (e :: es) [] pos)) none pos2) (liftS kn W fun σ S => RS.of (t σ S) σ fun ds S1 => .err x ds σ S1) := by
  obtain ⟨C, fI, fd, ps, k, h0, h1, h2, T, iC, tI, F, hr, hb, hne, hnd, h8⟩ := K.ex
  refine PS.imp (ps_raise hc tk (pmk_oex (dvs := []) (ds := []) T iC tI F hr hb .nil (passes_call tk fun _ _ _ _ h => h.elim) hg h2 ha hd (starEach_plain (hs e List.mem_cons_self)) (star_none fun a he => hs a (List.mem_cons_of_mem _ he)))) fun N σ H ⟨ρ, σd, S, rl, re, h⟩ => ?_
  refine ⟨ρ, σd, S, rl, re, ?_⟩
  have h' := PostA.bindS re h
  cases e1 : t σd S with
  | no => rw [e1] at h'; exact h'
  | err x fs S' => rw [e1] at h'; exact h'
  | ok ds S' =>
    have l := hl _ _ _ _ e1
    rw [e1] at h'
    intro vs H1 ρ1 g1 rl1 r1
    obtain ⟨ρ2, ds2, S2, g2, rl2, r2, h3⟩ := h' vs H1 ρ1 g1 rl1 r1
    have l2 : ds2.length = (kn.fns x).length := by rw [r2.length, ← r1.length]; exact l
    refine ⟨by rw [← r2.length]; omega, fun a hna => ⟨a, vs, by rw [List.append_nil], by rw [← r2.length]; exact l2, upd_same, fun d H' hd hda M => ?_⟩⟩
    rw [upd_ne hda] at hd
    refine ⟨rfl, d, _, M.ea, M.ed, hd, ?_⟩
    have eH : upd (del H' a) d (.xd ((kn.fns x).zip vs).reverse) = upd H1 d (.xd ((kn.fns x).zip vs).reverse) := by
      funext b
      by_cases hb : b = d
      · subst hb; rw [upd_same, upd_same]
      · rw [upd_ne hb, upd_ne hb]
        by_cases hba : b = a
        · subst hba; rw [del_same, hna]
        · rw [del_ne hba, M.oth b hba hb, upd_ne hba]
    rw [eH]
    have gl := Gr.lay (ρ := ρ2) (o := HO.xd ((kn.fns x).zip vs).reverse) hd
    exact h3 (.ref C) (some d) σ _ ρ2 gl (rl2.lay hd) ((re.gr g2).gr gl) ⟨C, h0, h1, rfl, .inr ⟨d, vs, _, fun z => by rw [z] at l2; exact hne (List.eq_nil_of_length_eq_zero l2.symm), rfl, r2.gr gl, upd_same, fun f => lookup_rev hnd⟩⟩
end
end Kq
set_option Elab.async false
set_option linter.all false
set_option maxRecDepth 100000
set_option maxHeartbeats 2000000
set_option autoImplicit false
/-! # The Q layer, part L: expressions are translated -/
namespace Kq
open PySem PySem.Spec PyProof.Rows L2

/-- what a global name is -/
inductive Sg where
  | fn (ps : List Str) (pos : Bool) (sh : List Shape)
  | exc (fs : List Str)
  | blt
  | bif (b : Bi)
  | con (d : D)
  | cls (key : Str) (ps : List Str)
  | met (c m : Str) (ps : List Str)
  | hint (cs : List (Str × Str))
  | fld (f : Str) (cs : List Str)
  | rep
  | dic (kvs : List (Str × D))
structure CC where
  N : List Str
  sc : Scope
  fn : Str → Bool
  calm : Bool
  suite : Bool
  sg : List (Str × Sg)
def sgOf (x : Str) : List (Str × Sg) → Option Sg
  | [] => none
  | (y, s) :: r => if sEq x y = true then some s else sgOf x r
def isGlob (c : CC) (x : Str) : Bool := match kd x c.sc.names with
  | some .globalImplicit => true
  | _ => false
def isVis (c : CC) (x : Str) : Bool := match kd x c.sc.names with
  | some .local => true
  | some .cell => true
  | some .free => true
  | _ => false
/-- an own exception class, as raise asks it: its fields are fs -/
def ExQ (X : Cx) (kn : Kn) (x : Str) : List Str → Prop
  | [] => ExK X kn x
  | f :: fs => kn.fns x = f :: fs ∧ ExI X kn x
def SgF (X : Cx) (kn : Kn) (F : Wd) (calm : Bool) (x : Str) : Sg → Prop
  | .fn ps po sh => calm = true → FnB X kn x ps po sh (F.fn x)
  | .exc fs => ∃ E, x ∈ kn.xn ∧ kn.cls x = some E ∧ X.mg x = some (.ref E) ∧ (calm = true → ExQ X kn x fs)
  | .blt => X.mg x = none
  | .bif b => X.mg x = some b.val ∧ ∃ id, b.val = .builtin id
  | .con d => ∃ v u, X.mg x = some u ∧ RelV v u ∧ ∀ ρ H, Rep kn ρ H d v
  | .cls key ps => calm = true → MkB X kn x ps (F.fn key)
  | .met c m ps => c ∈ kn.pn ∧ (calm = true → MtB X kn c m ps (F.fn x))
  | .hint _ => True
  | .fld f cs => ∀ c ∈ cs, (c, f) ∈ kn.pf
  | .rep => X.mg x = none ∧ (calm = true → X.A.guards = some [])
  | .dic kvs => DicB X kn x kvs
/-- a context fits what the translation was told -/
structure XOk (c : CC) (X : Cx) (kn : Kn) (F : Wd) (W : WX) : Prop where
  hK : kn.K = X.K
  N : X.N = c.N
  nd : c.N.Nodup
  nb : ∀ x ∈ c.N, (x == ("__debug__" : Str)) = false ∧ (x == ("__classdict__" : Str)) = false
  sc : X.env.scope = c.sc
  fn : X.fn = c.fn
  calm : X.calm = c.calm
  kind : c.sc.kind = .function
  tk : Takes X W
  un : X.A.units + 66 < cLine
  sg : ∀ x s, sgOf x c.sg = some s → (x == ("__debug__" : Str)) = false ∧ SgF X kn F c.calm x s
  po : PnOk kn
  su : c.suite = true → SuOk X kn F.ec ∧ XnOk kn.K kn F.kin F.fld

def tmpB : Ex → Bool
  | .lst _ => true
  | .lc _ _ _ _ _ => true
  | _ => false
/-- what is shown of an expression -/
structure PQ (X : Cx) (kn : Kn) (W : WX) (F : Wd) (e : Expr) (x : Ex) : Prop where
  q : Q3 X kn W e (evA F x)
  n : tmpB x = true → QN X kn W e (evA F x).l
  st : ∀ y p, e ≠ .Starred y p
  sl : ∀ l u s p, e ≠ .Slice l u s p
  se : ∀ env y, foldedSetIterable e env y = pure y
abbrev Rec := CC → Expr → Option Ex
def Snd (rec : Rec) : Prop := ∀ c e x, rec c e = some x → ∀ X kn W F, XOk c X kn F W → PQ X kn W F e x

section
variable {c : CC} {X : Cx} {kn : Kn} {F : Wd} {W : WX} {rec : Rec}
theorem XOk.gl (h : XOk c X kn F W) {x : Str} (g : isGlob c x = true) : Gl X x := by
  unfold isGlob at g
  rw [kd_eq, ← h.sc] at g
  show X.env.scope.names.lookup x = _
  split at g
  · rename_i e; exact e
  · cases g
theorem XOk.vis (h : XOk c X kn F W) {x : Str} (g : isVis c x = true) : Vis X.env.scope x := by
  unfold isVis at g
  rw [kd_eq, ← h.sc] at g
  split at g
  · rename_i e; exact .inl e
  · rename_i e; exact .inr (.inl e)
  · rename_i e; exact .inr (.inr e)
  · cases g
theorem XOk.ix (h : XOk c X kn F W) {x : Str} {i : Nat} (g : ixOf x c.N = some i) : X.N[i]? = some x ∧ (x == ("__debug__" : Str)) = false ∧ (x == ("__classdict__" : Str)) = false := by
  rw [h.N]
  exact ⟨ixOf_get g, h.nb x (List.mem_of_getElem? (ixOf_get g))⟩
theorem XOk.nd' (h : XOk c X kn F W) : X.N.Nodup := by rw [h.N]; exact h.nd

/-! ### constants, names -/
def cCon : Const → Option D
  | .none => some .non
  | .bool b => some (.bl b)
  | .int i => some (.int i)
  | .str s => some (.str s)
  | _ => none
theorem cCon_ok {k : Const} {j : Nat} {pos : Pos} {d : D} (hx : XOk c X kn F W) (h : cCon k = some d) : PQ X kn W F (.Constant k j pos) (.con d) := by
  refine ⟨?_, (fun h => nomatch h), (fun _ _ z => nomatch z), (fun _ _ _ _ z => nomatch z), fun _ _ => rfl⟩
  cases k <;> simp only [cCon, Option.some.injEq, reduceCtorEq] at h <;> subst h
  · exact Q3.of hx.hK (q_con pe_non fun _ _ => .non) fun _ => rfl
  · exact Q3.of hx.hK (q_con pe_bl fun _ _ => .bl) fun _ => rfl
  · exact Q3.of hx.hK (q_con pe_int fun _ _ => .int) fun _ => rfl
  · exact Q3.of hx.hK (q_con pe_str fun _ _ => .str) fun _ => rfl
def cName (c : CC) (x : Str) : Option Ex :=
  if isVis c x = true then (ixOf x c.N).map .loc
  else if isGlob c x = true then (match sgOf x c.sg with
    | some (.con d) => some (.con d)
    | _ => none)
  else none
theorem cName_ok {x : Str} {pos : Pos} {e : Ex} (hx : XOk c X kn F W) (h : cName c x = some e) : PQ X kn W F (.Name x pos) e := by
  unfold cName at h
  split at h
  · rename_i hv
    rw [Option.map_eq_some_iff] at h
    obtain ⟨i, hi, rfl⟩ := h
    obtain ⟨h1, h2, h3⟩ := hx.ix hi
    exact ⟨Q3.of hx.hK (q_loc h1 (hx.vis hv) h2 h3) fun _ => rfl, (fun h => nomatch h), (fun _ _ z => nomatch z), (fun _ _ _ _ z => nomatch z), fun _ _ => rfl⟩
  · split at h
    · rename_i hg
      split at h
      · rename_i d hs
        cases h
        obtain ⟨hd, v, u, hm, hr, hf⟩ := hx.sg _ _ hs
        exact ⟨Q3.of hx.hK (q_con (pe_glob (hx.gl hg) hm hr hd) hf) fun _ => rfl, (fun h => nomatch h), (fun _ _ z => nomatch z), (fun _ _ _ _ z => nomatch z), fun _ _ => rfl⟩
      · cases h
    · cases h

/-! ### lists of expressions -/
def cEs (f : Expr → Option Ex) : List Expr → Option Exs
  | [] => some .nil
  | e :: r => match f e with
    | some a => (match cEs f r with
      | some s => some (.cons a s)
      | none => none)
    | none => none
structure QEs (X : Cx) (kn : Kn) (W : WX) (F : Wd) (es : List Expr) (as : Exs) : Prop where
  q : QA X kn W es (evs F as)
  l : Long (evs F as) es.length
  st : ∀ e ∈ es, ∀ x p, e ≠ .Starred x p
theorem Long.cons {ta : Sl → Sto → R D} {tr : Sl → Sto → R (List D)} {n : Nat} (h : Long tr n) : Long (fun σ S => (ta σ S).bind fun d S1 => (tr σ S1).bind fun ds S2 => .ok (d :: ds) S2) (n + 1) := fun σ S ds S' e => by
  try dsimp only at e
  cases e1 : ta σ S with
  | no => rw [e1] at e; cases e
  | err _ _ _ => rw [e1] at e; cases e
  | ok d S1 =>
    rw [e1, R.bind_ok] at e
    cases e2 : tr σ S1 with
    | no => rw [e2] at e; cases e
    | err _ _ _ => rw [e2] at e; cases e
    | ok ds S2 =>
      rw [e2, R.bind_ok] at e
      cases e
      rw [List.length_cons, h _ _ _ _ e2]
theorem Long.nil : Long (fun _ S => .ok [] S) 0 := fun σ S ds S' e => by cases e; rfl
theorem cEs_ok (hr : Snd rec) (hx : XOk c X kn F W) : ∀ {es : List Expr} {as : Exs}, cEs (rec c) es = some as → QEs X kn W F es as
  | [], _, h => by
    cases h
    exact ⟨QA.nil, Long.nil, fun _ z => nomatch z⟩
  | e :: r, as, h => by
    unfold cEs at h
    split at h
    · rename_i a h1
      split at h
      · rename_i s h2
        cases h
        have p := hr c e a h1 X kn W F hx
        obtain ⟨q1, q2, q3⟩ := cEs_ok hr hx h2
        refine ⟨QA.cons p.st p.q.hv q1, Long.cons q2, fun e' he => ?_⟩
        rcases List.mem_cons.mp he with rfl | he
        · exact p.st
        · exact q3 e' he
      · cases h
    · cases h
def cKs (f : Expr → Option Ex) : List Keyword → Option (List Str × Exs)
  | [] => some ([], .nil)
  | ⟨some k, e, _⟩ :: r => match f e with
    | some a => (match cKs f r with
      | some (ks, s) => some (k :: ks, .cons a s)
      | none => none)
    | none => none
  | ⟨none, _, _⟩ :: _ => none
theorem cKs_ok (hr : Snd rec) (hx : XOk c X kn F W) : ∀ {es : List Keyword} {ks : List Str} {as : Exs}, cKs (rec c) es = some (ks, as) → QK X kn W es (evs F as) ∧ Long (evs F as) ks.length ∧ KwN es ks
  | [], _, _, h => by
    cases h
    exact ⟨QK.nil, Long.nil, .nil⟩
  | ⟨some k, e, _⟩ :: r, ks, as, h => by
    unfold cKs at h
    split at h
    · rename_i a h1
      split at h
      · rename_i ks' s h2
        cases h
        have p := hr c e a h1 X kn W F hx
        obtain ⟨q1, q2, q3⟩ := cKs_ok hr hx h2
        exact ⟨QK.cons p.q.hv q1, Long.cons q2, q3.cons⟩
      · cases h
    · cases h
  | ⟨none, _, _⟩ :: _, _, _, h => by unfold cKs at h; cases h

/-! ### operators -/
def boOf : Operator → Option BO
  | .Add => some .add
  | .Sub => some .sub
  | .Mult => some .mul
  | .FloorDiv => some .fdiv
  | .Mod => some .mod
  | .Pow => some .pow
  | .LShift => some .shl
  | _ => none
def cBin (rec : Rec) (c : CC) (a : Expr) (op : Operator) (b : Expr) : Option Ex := match boOf op, rec c a, rec c b with
  | some o, some x, some y => some (.bin o x y)
  | _, _, _ => none
theorem cBin_ok {a b : Expr} {op : Operator} {pos : Pos} {x : Ex} (hr : Snd rec) (hx : XOk c X kn F W) (h : cBin rec c a op b = some x) : PQ X kn W F (.BinOp a op b pos) x := by
  unfold cBin at h
  split at h
  · rename_i o x y h1 h2 h3
    cases h
    refine ⟨Q3.of hx.hK (q_binop hx.hK ?_ (hr _ _ _ h2 X kn W F hx).q.hv (hr _ _ _ h3 X kn W F hx).q.hv) fun _ => rfl, (fun h => nomatch h), (fun _ _ z => nomatch z), (fun _ _ _ _ z => nomatch z), fun _ _ => rfl⟩
    cases op <;> simp only [boOf, Option.some.injEq, reduceCtorEq] at h1 <;> subst h1 <;> simp
  · cases h
def cUn (rec : Rec) (c : CC) (op : UnaryOp) (a : Expr) : Option Ex := match op, rec c a with
  | .USub, some x => some (.neg x)
  | .Not, some x => some (.nt x)
  | _, _ => none
theorem cUn_ok {a : Expr} {op : UnaryOp} {pos : Pos} {x : Ex} (hr : Snd rec) (hx : XOk c X kn F W) (h : cUn rec c op a = some x) : PQ X kn W F (.UnaryOp op a pos) x := by
  unfold cUn at h
  split at h
  · rename_i x h2
    cases h
    exact ⟨Q3.of hx.hK (q_neg (hr _ _ _ h2 X kn W F hx).q.hv) fun _ => rfl, (fun h => nomatch h), (fun _ _ z => nomatch z), (fun _ _ _ _ z => nomatch z), fun _ _ => rfl⟩
  · rename_i x h2
    cases h
    exact ⟨Q3.nt (hr _ _ _ h2 X kn W F hx).q, (fun h => nomatch h), (fun _ _ z => nomatch z), (fun _ _ _ _ z => nomatch z), fun _ _ => rfl⟩
  · cases h
def cAnds (f : Expr → Option Ex) : List Expr → Option Ex
  | [] => none
  | [e] => f e
  | e :: r => match f e, cAnds f r with
    | some a, some b => some (.ands a b)
    | _, _ => none
def cOrs (f : Expr → Option Ex) : List Expr → Option Ex
  | [] => none
  | [e] => f e
  | e :: r => match f e, cOrs f r with
    | some a, some b => some (.ors a b)
    | _, _ => none
theorem cAnds_ok {pos : Pos} (hr : Snd rec) (hx : XOk c X kn F W) : ∀ {es : List Expr} {x : Ex}, cAnds (rec c) es = some x → ∃ t, QB X kn W (.BoolOp .And es pos) t ∧ t.v = (evA F x).v ∧ t.t = (evA F x).t
  | [], _, h => by cases h
  | [e], x, h => ⟨_, QB.and1 (hr _ _ _ h X kn W F hx).q, rfl, rfl⟩
  | e :: e' :: r, x, h => by
    unfold cAnds at h
    split at h
    · rename_i a b h1 h2
      cases h
      obtain ⟨t, q1, q2, q3⟩ := cAnds_ok hr hx h2
      refine ⟨_, QB.and (hr _ _ _ h1 X kn W F hx).q q1, ?_, ?_⟩
      · show (and3 (evA F a) t).v = (evA F (.ands a b)).v
        unfold and3
        rw [q2]
        rfl
      · show (and3 (evA F a) t).t = (evA F (.ands a b)).t
        unfold and3
        rw [q3]
        rfl
    · cases h
theorem cOrs_ok {pos : Pos} (hr : Snd rec) (hx : XOk c X kn F W) : ∀ {es : List Expr} {x : Ex}, cOrs (rec c) es = some x → ∃ t, QB X kn W (.BoolOp .Or es pos) t ∧ t.v = (evA F x).v ∧ t.t = (evA F x).t
  | [], _, h => by cases h
  | [e], x, h => ⟨_, QB.or1 (hr _ _ _ h X kn W F hx).q, rfl, rfl⟩
  | e :: e' :: r, x, h => by
    unfold cOrs at h
    split at h
    · rename_i a b h1 h2
      cases h
      obtain ⟨t, q1, q2, q3⟩ := cOrs_ok hr hx h2
      refine ⟨_, QB.or (hr _ _ _ h1 X kn W F hx).q q1, ?_, ?_⟩
      · show (or3 (evA F a) t).v = (evA F (.ors a b)).v
        unfold or3
        rw [q2]
        rfl
      · show (or3 (evA F a) t).t = (evA F (.ors a b)).t
        unfold or3
        rw [q3]
        rfl
    · cases h
def cBool (rec : Rec) (c : CC) (op : BoolOp) (es : List Expr) : Option Ex := match es with
  | _ :: _ :: _ => (match op with
    | .And => cAnds (rec c) es
    | .Or => cOrs (rec c) es)
  | _ => none
theorem cBool_ok {es : List Expr} {op : BoolOp} {pos : Pos} {x : Ex} (hr : Snd rec) (hx : XOk c X kn F W) (h : cBool rec c op es = some x) : PQ X kn W F (.BoolOp op es pos) x := by
  unfold cBool at h
  split at h
  · rename_i e e' r
    split at h
    · obtain ⟨t, q1, q2, q3⟩ := cAnds_ok (pos := pos) hr hx h
      unfold cAnds at h
      split at h
      · cases h
        refine ⟨?_, (fun h => nomatch h), (fun _ _ z => nomatch z), (fun _ _ _ _ z => nomatch z), fun _ _ => rfl⟩
        have := q1.q3
        rw [q2, q3] at this
        exact this
      · cases h
    · obtain ⟨t, q1, q2, q3⟩ := cOrs_ok (pos := pos) hr hx h
      unfold cOrs at h
      split at h
      · cases h
        refine ⟨?_, (fun h => nomatch h), (fun _ _ z => nomatch z), (fun _ _ _ _ z => nomatch z), fun _ _ => rfl⟩
        have := q1.q3
        rw [q2, q3] at this
        exact this
      · cases h
  · cases h
def cIte (rec : Rec) (c : CC) (t a b : Expr) : Option Ex := match rec c t, rec c a, rec c b with
  | some x, some y, some z => some (.ite x y z)
  | _, _, _ => none
theorem cIte_ok {t a b : Expr} {pos : Pos} {x : Ex} (hr : Snd rec) (hx : XOk c X kn F W) (h : cIte rec c t a b = some x) : PQ X kn W F (.IfExp t a b pos) x := by
  unfold cIte at h
  split at h
  · rename_i x y z h1 h2 h3
    cases h
    exact ⟨Q3.ite (hr _ _ _ h1 X kn W F hx).q (hr _ _ _ h2 X kn W F hx).q (hr _ _ _ h3 X kn W F hx).q, (fun h => nomatch h), (fun _ _ z => nomatch z), (fun _ _ _ _ z => nomatch z), fun _ _ => rfl⟩
  · cases h
def cCmp (rec : Rec) (c : CC) (a : Expr) (ops : List CmpOp) (bs : List Expr) : Option Ex := match ops, bs with
  | [o], [b] => (match behindInMarks o b, rec c a, rec c b with
    | false, some x, some y => some (.cmp (coOp o) x y)
    | _, _, _ => none)
  | [o, p], [b, d] => (match lastMarks [o, p] [b, d], rec c a, rec c b, rec c d with
    | false, some x, some y, some z => some (.chn (coOp o) (coOp p) x y z)
    | _, _, _, _ => none)
  | _, _ => none
theorem cCmp_ok {a : Expr} {ops : List CmpOp} {bs : List Expr} {pos : Pos} {x : Ex} (hr : Snd rec) (hx : XOk c X kn F W) (h : cCmp rec c a ops bs = some x) : PQ X kn W F (.Compare a ops bs pos) x := by
  unfold cCmp at h
  split at h
  · split at h
    · rename_i x y h1 h2 h3
      cases h
      exact ⟨Q3.cmp hx.hK hx.un h1 (hr _ _ _ h2 X kn W F hx).q (hr _ _ _ h3 X kn W F hx).q, (fun h => nomatch h), (fun _ _ z => nomatch z), (fun _ _ _ _ z => nomatch z), fun _ _ => rfl⟩
    · cases h
  · split at h
    · rename_i x y z h1 h2 h3 h4
      cases h
      exact ⟨Q3.chain hx.hK hx.un h1 (hr _ _ _ h2 X kn W F hx).q (hr _ _ _ h3 X kn W F hx).q (hr _ _ _ h4 X kn W F hx).q, (fun h => nomatch h), (fun _ _ z => nomatch z), (fun _ _ _ _ z => nomatch z), fun _ _ => rfl⟩
    · cases h
  · cases h

/-! ### displays, indices -/
def lenB {α : Type} (l : List α) : Bool := Nat.ble l.length 1000
theorem lenB_big {α : Type} {l : List α} (h : lenB l = true) : l.length ≤ big := by
  unfold lenB at h
  have := Nat.le_of_ble_eq_true h
  have e : big = 1000000 := rfl
  omega
def cTup (rec : Rec) (c : CC) (es : List Expr) : Option Ex := match lenB es, cEs (rec c) es with
  | true, some as => some (.tup as)
  | _, _ => none
theorem cTup_ok {es : List Expr} {k : Nat} {pos : Pos} {x : Ex} (hr : Snd rec) (hx : XOk c X kn F W) (h : cTup rec c es = some x) : PQ X kn W F (.Tuple es k pos) x := by
  unfold cTup at h
  split at h
  · rename_i as h1 h2
    cases h
    obtain ⟨q1, q2, q3⟩ := cEs_ok hr hx h2
    exact ⟨Q3.tup hx.hK q1 q2 (lenB_big h1), (fun h => nomatch h), (fun _ _ z => nomatch z), (fun _ _ _ _ z => nomatch z), fun _ _ => rfl⟩
  · cases h
def cLst (rec : Rec) (c : CC) (es : List Expr) : Option Ex := match lenB es, cEs (rec c) es with
  | true, some as => some (.lst as)
  | _, _ => none
theorem cLst_ok {es : List Expr} {pos : Pos} {x : Ex} (hr : Snd rec) (hx : XOk c X kn F W) (h : cLst rec c es = some x) : PQ X kn W F (.List es pos) x := by
  unfold cLst at h
  split at h
  · rename_i as h1 h2
    cases h
    obtain ⟨q1, q2, q3⟩ := cEs_ok hr hx h2
    have qn : QN X kn W (.List es pos) (evs F as) := QN.lst q1 q2 (lenB_big h1)
    exact ⟨QN.q3 hx.hK qn fun _ => rfl, fun _ => qn, (fun _ _ z => nomatch z), (fun _ _ _ _ z => nomatch z), fun _ _ => rfl⟩
  · cases h
def cPart (f : Expr → Option Ex) : Option Expr → Option Exs
  | none => some .nil
  | some e => match f e with
    | some x => some (.cons x .nil)
    | none => none
theorem cPart_ok {o : Option Expr} {as : Exs} (hr : Snd rec) (hx : XOk c X kn F W) (h : cPart (rec c) o = some as) : QPart X kn W o (evs F as) := by
  unfold cPart at h
  split at h
  · cases h; exact fun _ _ => rfl
  · split at h
    · rename_i x h1
      cases h
      exact ⟨_, (hr _ _ _ h1 X kn W F hx).q.hv, fun _ _ => rfl⟩
    · cases h
def cSub (rec : Rec) (c : CC) (a i : Expr) : Option Ex := match i with
  | .Slice lo hi none _ => (match rec c a, cPart (rec c) lo, cPart (rec c) hi with
    | some x, some l, some h => some (.sl x l h)
    | _, _, _ => none)
  | .Slice none none (some (.UnaryOp .USub (.Constant (.int j) _ _) _)) _ => (match decide (j = 1), rec c a with
    | true, some x => some (.bin .rev x (.con .non))
    | _, _ => none)
  | i => (match rec c a, rec c i with
    | some x, some y => some (.idx x y)
    | _, _ => none)
theorem cSub_ok {a i : Expr} {pos : Pos} {x : Ex} (hr : Snd rec) (hx : XOk c X kn F W) (h : cSub rec c a i = some x) : PQ X kn W F (.Subscript a i pos) x := by
  unfold cSub at h
  split at h
  · split at h
    · rename_i x l u h1 h2 h3
      cases h
      exact ⟨Q3.of hx.hK (q_slice hx.hK (hr _ _ _ h1 X kn W F hx).q.hv (cPart_ok hr hx h2) (cPart_ok hr hx h3)) fun _ => rfl, (fun h => nomatch h), (fun _ _ z => nomatch z), (fun _ _ _ _ z => nomatch z), fun _ _ => rfl⟩
    · cases h
  · split at h
    · rename_i x h1 h2
      cases h
      have := of_decide_eq_true h1
      subst this
      exact ⟨Q3.of hx.hK (q_rev hx.hK (hr _ _ _ h2 X kn W F hx).q.hv) fun _ => rfl, (fun h => nomatch h), (fun _ _ z => nomatch z), (fun _ _ _ _ z => nomatch z), fun _ _ => rfl⟩
    · cases h
  · split at h
    · rename_i x y h1 h2
      cases h
      have p2 := hr _ _ _ h2 X kn W F hx
      exact ⟨Q3.of hx.hK (q_idx hx.hK (hr _ _ _ h1 X kn W F hx).q.hv p2.q.hv p2.sl) fun _ => rfl, (fun h => nomatch h), (fun _ _ z => nomatch z), (fun _ _ _ _ z => nomatch z), fun _ _ => rfl⟩
    · cases h
end
end Kq
set_option Elab.async false
set_option linter.all false
set_option maxRecDepth 100000
set_option maxHeartbeats 2000000
set_option autoImplicit false
/-! # The Q layer, part M: calls, comprehensions are translated -/
namespace Kq
open PySem PySem.Spec PyProof.Rows L2

section
variable {c : CC} {X : Cx} {kn : Kn} {F : Wd} {W : WX} {rec : Rec}
/-! ### names of the interpreter -/
def isB (c : CC) (x : Str) : Bool := match isGlob c x, sgOf x c.sg with
  | true, some .blt => true
  | _, _ => false
theorem isB_ok {x : Str} {u : Value} (hx : XOk c X kn F W) (h : isB c x = true) (hb : bootBuiltins x = some u) (hn : x ≠ "__name__") : Blt X x u := by
  unfold isB at h
  split at h
  · rename_i h1 h2
    obtain ⟨hd, hm⟩ := hx.sg _ _ h2
    exact ⟨hx.gl h1, hm, hb, hn, hd⟩
  · cases h
def biTab : List (Str × Bi) := [("len", .len), ("abs", .abs), ("int", .int), ("max", .max), ("min", .min), ("all", .all), ("any", .any), ("sum", .sum), ("str", .str), ("range", .rng)]
def biIn (x : Str) : List (Str × Bi) → Option Bi
  | [] => none
  | (y, b) :: r => if sEq x y = true then some b else biIn x r
def biOf (x : Str) : Option Bi := biIn x biTab
theorem biIn_ok {x : Str} {b : Bi} : ∀ {l : List (Str × Bi)}, (∀ p ∈ l, bootBuiltins p.1 = some p.2.val ∧ p.1 ≠ "__name__" ∧ ((∃ id, p.2.val = .builtin id) ∨ ∃ T, p.2.val = .type T)) → biIn x l = some b → bootBuiltins x = some b.val ∧ x ≠ "__name__" ∧ ((∃ id, b.val = .builtin id) ∨ ∃ T, b.val = .type T)
  | [], _, h => by cases h
  | (y, c) :: r, hl, h => by
    unfold biIn at h
    split at h
    · rename_i e
      cases h
      have := sEq_iff.mp e
      subst this
      exact hl (x, b) (by simp)
    · exact biIn_ok (fun p hp => hl p (by simp [hp])) h
theorem biOf_ok {x : Str} {b : Bi} (h : biOf x = some b) : bootBuiltins x = some b.val ∧ x ≠ "__name__" ∧ ((∃ id, b.val = .builtin id) ∨ ∃ T, b.val = .type T) := by
  refine biIn_ok (fun p hp => ?_) h
  simp only [biTab, List.mem_cons, List.not_mem_nil, or_false] at hp
  rcases hp with rfl | rfl | rfl | rfl | rfl | rfl | rfl | rfl | rfl | rfl
  all_goals first | exact ⟨rfl, by decide, .inl ⟨_, rfl⟩⟩ | exact ⟨rfl, by decide, .inr ⟨_, rfl⟩⟩
def tyN (x : Str) : Option String :=
  if sEq x "int" = true then some "int" else if sEq x "bool" = true then some "bool" else if sEq x "tuple" = true then some "tuple" else if sEq x "str" = true then some "str" else if sEq x "list" = true then some "list" else none
theorem tyN_ok {x : Str} {b : String} (h : tyN x = some b) : bootBuiltins x = some (.type b) ∧ x ≠ "__name__" ∧ b ∈ isTy := by
  unfold tyN at h
  split at h
  · rename_i e; cases h; rw [sEq_iff.mp e]; exact ⟨rfl, by decide, by decide⟩
  · split at h
    · rename_i e; cases h; rw [sEq_iff.mp e]; exact ⟨rfl, by decide, by decide⟩
    · split at h
      · rename_i e; cases h; rw [sEq_iff.mp e]; exact ⟨rfl, by decide, by decide⟩
      · split at h
        · rename_i e; cases h; rw [sEq_iff.mp e]; exact ⟨rfl, by decide, by decide⟩
        · split at h
          · rename_i e; cases h; rw [sEq_iff.mp e]; exact ⟨rfl, by decide, by decide⟩
          · cases h

/-! ### calls of the interpreter's functions -/
def cBi (rec : Rec) (c : CC) (x : Str) (as : List Expr) : Option Ex := match isB c x, biOf x, as, cEs (rec c) as with
  | true, some b, _ :: _, some es => if (c.calm || b.hot) = true then some (.bi b es) else none
  | _, _, _, _ => none
theorem cBi_ok {x : Str} {as : List Expr} {p pos : Pos} {e : Ex} (hr : Snd rec) (hx : XOk c X kn F W) (h : cBi rec c x as = some e) : PQ X kn W F (.Call (.Name x p) as [] pos) e := by
  unfold cBi at h
  split at h
  · rename_i b a r es h2 h3 h5
    split at h
    · rename_i h1
      cases h
      obtain ⟨b1, b2, b3⟩ := biOf_ok h3
      obtain ⟨q1, q2, q3⟩ := cEs_ok hr hx h5
      exact ⟨Q3.of hx.hK (q_bi hx.hK (by rw [hx.calm]; exact h1) b3 (isB_ok hx h2 b1 b2) q1 q3) fun _ => rfl, (fun h => nomatch h), (fun _ _ z => nomatch z), (fun _ _ _ _ z => nomatch z), fun _ _ => rfl⟩
    · cases h
  · cases h
def lrgT (x : Str) : Option Bool := if sEq x "tuple" = true then some true else if sEq x "list" = true then some false else none
/-- list(range(..)), tuple(range(..)) -/
def cLrg (rec : Rec) (c : CC) (x : Str) (a : Expr) : Option Ex := match a with
  | .Call (.Name y _) bs [] _ => if sEq y "range" = true then (match isB c x, isB c y, c.calm, lrgT x, bs with
      | true, true, true, some tu, [b] => (match rec c b with
        | some e => some (.lrg tu (.cons e .nil))
        | none => none)
      | true, true, true, some tu, [b, b2] => (match rec c b, rec c b2 with
        | some e, some e2 => some (.lrg tu (.cons e (.cons e2 .nil)))
        | _, _ => none)
      | _, _, _, _, _ => none) else none
  | _ => none
theorem cLrg_ok {x : Str} {a : Expr} {p pos : Pos} {e : Ex} (hr : Snd rec) (hx : XOk c X kn F W) (h : cLrg rec c x a = some e) : PQ X kn W F (.Call (.Name x p) [a] [] pos) e := by
  have plain : ∀ {x : Str} {a : Expr} {v : Sl → Sto → R D}, PE X (.Call (.Name x p) [a] [] pos) (liftE kn W v) → Ev3.of v = evA F e → tmpB e = false → PQ X kn W F (.Call (.Name x p) [a] [] pos) e := fun h1 h2 h3 =>
    ⟨h2 ▸ Q3.of hx.hK h1 fun _ => rfl, (fun h => by rw [h3] at h; cases h), (fun _ _ z => nomatch z), (fun _ _ _ _ z => nomatch z), fun _ _ => rfl⟩
  unfold cLrg at h
  split at h
  · rename_i y py bs pb
    split at h
    · rename_i hy
      have := sEq_iff.mp hy
      subst this
      split at h
      · rename_i tu b h1 h2 h3 h4
        split at h
        · rename_i eb hb
          cases h
          have pb := hr _ _ _ hb X kn W F hx
          unfold lrgT at h4
          split at h4
          · rename_i hx2
            have := sEq_iff.mp hx2
            subst this
            cases h4
            exact plain (q_trg1 (hx.calm.trans h3) (isB_ok hx h1 rfl (by decide)) (isB_ok hx h2 rfl (by decide)) pb.q.hv pb.st) rfl rfl
          · split at h4
            · rename_i hx2
              have := sEq_iff.mp hx2
              subst this
              cases h4
              exact plain (q_lrg1 (hx.calm.trans h3) (isB_ok hx h1 rfl (by decide)) (isB_ok hx h2 rfl (by decide)) pb.q.hv pb.st) rfl rfl
            · cases h4
        · cases h
      · rename_i tu b b2 h1 h2 h3 h4
        split at h
        · rename_i eb eb2 hb hb2
          cases h
          have pb := hr _ _ _ hb X kn W F hx
          have pb2 := hr _ _ _ hb2 X kn W F hx
          unfold lrgT at h4
          split at h4
          · rename_i hx2
            have := sEq_iff.mp hx2
            subst this
            cases h4
            exact plain (q_trg2 (hx.calm.trans h3) (isB_ok hx h1 rfl (by decide)) (isB_ok hx h2 rfl (by decide)) pb.q.hv pb2.q.hv pb.st pb2.st) rfl rfl
          · split at h4
            · rename_i hx2
              have := sEq_iff.mp hx2
              subst this
              cases h4
              exact plain (q_lrg2 (hx.calm.trans h3) (isB_ok hx h1 rfl (by decide)) (isB_ok hx h2 rfl (by decide)) pb.q.hv pb2.q.hv pb.st pb2.st) rfl rfl
            · cases h4
        · cases h
      · cases h
    · cases h
  · cases h
def cB1' (rec : Rec) (c : CC) (x : Str) (a : Expr) : Option Ex := match isB c x, rec c a with
  | true, some y =>
    if sEq x "tuple" = true then some (.bl .tup y)
    else if sEq x "list" = true then some (.bl .lst y)
    else if sEq x "all" = true then (if (c.calm && tmpB y) = true then some (.bl .all y) else cBi rec c x [a])
    else if sEq x "any" = true then (if (c.calm && tmpB y) = true then some (.bl .any y) else cBi rec c x [a])
    else cBi rec c x [a]
  | _, _ => none
theorem cB1_ok' {x : Str} {a : Expr} {p pos : Pos} {e : Ex} (hr : Snd rec) (hx : XOk c X kn F W) (h : cB1' rec c x a = some e) : PQ X kn W F (.Call (.Name x p) [a] [] pos) e := by
  unfold cB1' at h
  split at h
  · rename_i y h1 h2
    have pa := hr _ _ _ h2 X kn W F hx
    split at h
    · rename_i e
      cases h
      have := sEq_iff.mp e
      subst this
      exact ⟨Q3.of hx.hK (q_tuple hx.hK (isB_ok hx h1 rfl (by decide)) pa.q.hl pa.st) fun _ => rfl, (fun h => nomatch h), (fun _ _ z => nomatch z), (fun _ _ _ _ z => nomatch z), fun _ _ => rfl⟩
    · split at h
      · rename_i e
        cases h
        have := sEq_iff.mp e
        subst this
        exact ⟨Q3.of hx.hK (q_list hx.hK (isB_ok hx h1 rfl (by decide)) pa.q.hl pa.st) fun _ => rfl, (fun h => nomatch h), (fun _ _ z => nomatch z), (fun _ _ _ _ z => nomatch z), fun _ _ => rfl⟩
      · split at h
        · rename_i e
          split at h
          · rename_i ht
            rw [Bool.and_eq_true] at ht
            cases h
            have := sEq_iff.mp e
            subst this
            exact ⟨Q3.of hx.hK (q_all hx.hK (hx.calm.trans ht.1) (isB_ok hx h1 rfl (by decide)) (pa.n ht.2) pa.st) fun _ => rfl, (fun h => nomatch h), (fun _ _ z => nomatch z), (fun _ _ _ _ z => nomatch z), fun _ _ => rfl⟩
          · exact cBi_ok hr hx h
        · split at h
          · rename_i e
            split at h
            · rename_i ht
              rw [Bool.and_eq_true] at ht
              cases h
              have := sEq_iff.mp e
              subst this
              exact ⟨Q3.of hx.hK (q_any hx.hK (hx.calm.trans ht.1) (isB_ok hx h1 rfl (by decide)) (pa.n ht.2) pa.st) fun _ => rfl, (fun h => nomatch h), (fun _ _ z => nomatch z), (fun _ _ _ _ z => nomatch z), fun _ _ => rfl⟩
            · exact cBi_ok hr hx h
          · exact cBi_ok hr hx h
  · cases h
def cB1 (rec : Rec) (c : CC) (x : Str) (a : Expr) : Option Ex := match cLrg rec c x a with
  | some e => some e
  | none => cB1' rec c x a
theorem cB1_ok {x : Str} {a : Expr} {p pos : Pos} {e : Ex} (hr : Snd rec) (hx : XOk c X kn F W) (h : cB1 rec c x a = some e) : PQ X kn W F (.Call (.Name x p) [a] [] pos) e := by
  unfold cB1 at h
  split at h
  · rename_i e' he
    cases h
    exact cLrg_ok hr hx he
  · exact cB1_ok' hr hx h
def cIsi (rec : Rec) (c : CC) (a : Expr) (t : Str) : Option Ex := match isB c "isinstance", isB c t, tyN t with
  | true, true, some T => (match rec c a with
    | some y => some (.isi y T)
    | none => none)
  | true, _, _ => (match c.suite, isGlob c t, sgOf t c.sg, a with
    | true, true, some (.exc _), .Name n _ => (match isVis c n, ixOf n c.N with
      | true, some i => some (.eis i t)
      | _, _ => none)
    | _, _, _, _ => none)
  | _, _, _ => none
theorem cIsi_ok {t : Str} {a : Expr} {p p2 pos : Pos} {e : Ex} (hr : Snd rec) (hx : XOk c X kn F W) (h : cIsi rec c a t = some e) : PQ X kn W F (.Call (.Name "isinstance" p) [a, .Name t p2] [] pos) e := by
  have plain : ∀ {v : Sl → Sto → R D}, PE X (.Call (.Name "isinstance" p) [a, .Name t p2] [] pos) (liftE kn W v) → Ev3.of v = evA F e → tmpB e = false → PQ X kn W F (.Call (.Name "isinstance" p) [a, .Name t p2] [] pos) e := fun h1 h2 h3 =>
    ⟨h2 ▸ Q3.of hx.hK h1 fun _ => rfl, (fun h => by rw [h3] at h; cases h), (fun _ _ z => nomatch z), (fun _ _ _ _ z => nomatch z), fun _ _ => rfl⟩
  unfold cIsi at h
  split at h
  · rename_i T h1 h2 h3
    obtain ⟨t1, t2, t3⟩ := tyN_ok h3
    split at h
    · rename_i y h4
      cases h
      have pa := hr _ _ _ h4 X kn W F hx
      exact plain (q_isi hx.hK (isB_ok hx h1 rfl (by decide)) (isB_ok hx h2 t1 t2) t3 pa.q.hv pa.st) rfl rfl
    · cases h
  · rename_i h1 _
    split at h
    · rename_i n pn g1 g2 g3
      split at h
      · rename_i i k1 k2
        cases h
        obtain ⟨su, xo⟩ := hx.su g1
        obtain ⟨hd, E, e1, e2, e3, _⟩ := hx.sg _ _ g3
        obtain ⟨i1, i2, i3⟩ := hx.ix k2
        exact plain (q_eis hx.hK su xo (isB_ok hx h1 rfl (by decide)) i1 (hx.vis k1) i2 i3 e1 e2 (hx.gl g2) hd e3) rfl rfl
      · cases h
    · cases h
  · cases h
def cBlt (rec : Rec) (c : CC) (x : Str) (as : List Expr) : Option Ex := match as with
  | [a] => cB1 rec c x a
  | [a, .Name t _] => if sEq x "isinstance" = true then cIsi rec c a t else cBi rec c x as
  | _ => cBi rec c x as
theorem cBlt_ok {x : Str} {as : List Expr} {p pos : Pos} {e : Ex} (hr : Snd rec) (hx : XOk c X kn F W) (h : cBlt rec c x as = some e) : PQ X kn W F (.Call (.Name x p) as [] pos) e := by
  unfold cBlt at h
  split at h
  · exact cB1_ok hr hx h
  · split at h
    · rename_i e
      have := sEq_iff.mp e
      subst this
      exact cIsi_ok hr hx h
    · exact cBi_ok hr hx h
  · exact cBi_ok hr hx h

/-! ### calls of the program's defs -/
def strsEq : List Str → List Str → Bool
  | [], [] => true
  | a :: r, b :: s => sEq a b && strsEq r s
  | _, _ => false
theorem strsEq_iff : ∀ {a b : List Str}, strsEq a b = true → a = b
  | [], [], _ => rfl
  | a :: r, b :: s, h => by
    unfold strsEq at h
    rw [Bool.and_eq_true] at h
    rw [sEq_iff.mp h.1, strsEq_iff h.2]
  | [], _ :: _, h => by cases h
  | _ :: _, [], h => by cases h
def findSh (n : Nat) (ks : List Str) : List Shape → Option Shape
  | [] => none
  | z :: r => if (Nat.beq z.n n && strsEq z.ks ks) = true then some z else findSh n ks r
theorem findSh_ok {n : Nat} {ks : List Str} : ∀ {l : List Shape} {z : Shape}, findSh n ks l = some z → z ∈ l ∧ z.n = n ∧ z.ks = ks
  | [], _, h => by cases h
  | y :: r, z, h => by
    unfold findSh at h
    split at h
    · rename_i e
      rw [Bool.and_eq_true] at e
      cases h
      exact ⟨List.mem_cons_self, Nat.eq_of_beq_eq_true e.1, strsEq_iff e.2⟩
    · obtain ⟨h1, h2⟩ := findSh_ok h
      exact ⟨List.mem_cons_of_mem _ h1, h2⟩
def cFn (rec : Rec) (c : CC) (x : Str) (ps : List Str) (po : Bool) (sh : List Shape) (as : List Expr) (kws : List Keyword) : Option Ex := match as with
  | [] => (match c.calm, kws, ps, po with
    | true, [], [], true => some (.call x .nil)
    | _, _, _, _ => none)
  | _ :: _ => (match c.calm, cEs (rec c) as with
    | true, some es => (match po, kws, Nat.beq as.length ps.length with
      | true, [], true => some (.call x es)
      | _, _, _ => (match cKs (rec c) kws with
        | some (ks, es') => (match findSh as.length ks sh with
          | some z => some (.cal x z.dfl z.arr es es')
          | none => none)
        | none => none))
    | _, _ => none)
theorem cFn_ok {x : Str} {ps : List Str} {po : Bool} {sh : List Shape} {as : List Expr} {kws : List Keyword} {p pos : Pos} {e : Ex} (hr : Snd rec) (hx : XOk c X kn F W) (hg : isGlob c x = true) (hs : sgOf x c.sg = some (.fn ps po sh)) (h : cFn rec c x ps po sh as kws = some e) : PQ X kn W F (.Call (.Name x p) as kws pos) e := by
  have plain : ∀ {v : Sl → Sto → R D}, PE X (.Call (.Name x p) as kws pos) (liftE kn W v) → Ev3.of v = evA F e → tmpB e = false → PQ X kn W F (.Call (.Name x p) as kws pos) e := fun h1 h2 h3 =>
    ⟨h2 ▸ Q3.of hx.hK h1 fun _ => rfl, (fun h => by rw [h3] at h; cases h), (fun _ _ z => nomatch z), (fun _ _ _ _ z => nomatch z), fun _ _ => rfl⟩
  obtain ⟨hd, hf⟩ := hx.sg _ _ hs
  unfold cFn at h
  split at h
  · split at h
    · rename_i h1
      cases h
      exact plain (q_call0 hx.tk (hf h1) (hx.gl hg) hd) rfl rfl
    · cases h
  · rename_i a r
    split at h
    · rename_i es h1 h2
      have FB := hf h1
      obtain ⟨q1, q2, q3⟩ := cEs_ok hr hx h2
      split at h
      · rename_i hl
        cases h
        have e0 := Nat.eq_of_beq_eq_true hl
        rw [e0] at q2
        exact plain (q_call hx.tk FB.fnK (hx.gl hg) hd q1 q2 q3) rfl rfl
      · split at h
        · rename_i ks es' h3
          split at h
          · rename_i z h4
            cases h
            obtain ⟨z1, z2, z3⟩ := findSh_ok h4
            obtain ⟨k1, k2, k3⟩ := cKs_ok hr hx h3
            rw [← z2] at q2
            rw [← z3] at k2 k3
            exact plain (q_callB hx.tk FB z1 (hx.gl hg) hd q1 q2 q3 k1 k2 k3) rfl rfl
          · cases h
        · cases h
    · cases h
def cCallN (rec : Rec) (c : CC) (x : Str) (as : List Expr) (kws : List Keyword) : Option Ex := match isGlob c x, sgOf x c.sg, kws with
  | true, some (.fn ps po sh), kws => cFn rec c x ps po sh as kws
  | true, some .blt, [] => cBlt rec c x as
  | true, some (.cls key ps), [] => (match c.calm, cEs (rec c) as with
    | true, some es => if (sEq key key && Nat.beq ps.length (as.length + 1)) = true then some (.mk x key es) else none
    | _, _ => none)
  | true, some (.bif b), [] => (match c.calm, as, cEs (rec c) as with
    | true, _ :: _, some es => some (.bi b es)
    | _, _, _ => none)
  | true, some .rep, [] => (match c.calm && sEq x "repr", as, cEs (rec c) as with
    | true, _ :: _, some es => some (.rep es)
    | _, _, _ => none)
  | _, _, _ => none
theorem cCallN_ok {x : Str} {as : List Expr} {kws : List Keyword} {p pos : Pos} {e : Ex} (hr : Snd rec) (hx : XOk c X kn F W) (h : cCallN rec c x as kws = some e) : PQ X kn W F (.Call (.Name x p) as kws pos) e := by
  unfold cCallN at h
  split at h
  · rename_i h1 h2
    exact cFn_ok hr hx h1 h2 h
  · exact cBlt_ok hr hx h
  · rename_i key ps h1 h2
    split at h
    · rename_i es g1 g3
      split at h
      · rename_i hl
        cases h
        rw [Bool.and_eq_true] at hl
        have hl := Nat.eq_of_beq_eq_true hl.2
        obtain ⟨hd, hm⟩ := hx.sg _ _ h2
        have M := hm g1
        cases as with
        | nil =>
          cases g3
          exact ⟨Q3.of hx.hK (q_mk0 hx.tk M hl (hx.gl h1) hd) fun _ => rfl, (fun h => nomatch h), (fun _ _ z => nomatch z), (fun _ _ _ _ z => nomatch z), fun _ _ => rfl⟩
        | cons a r =>
          obtain ⟨q1, q2, q3⟩ := cEs_ok hr hx g3
          exact ⟨Q3.of hx.hK (q_mk hx.tk M hl (hx.gl h1) hd q1 q2 q3) fun _ => rfl, (fun h => nomatch h), (fun _ _ z => nomatch z), (fun _ _ _ _ z => nomatch z), fun _ _ => rfl⟩
      · cases h
    · cases h
  · rename_i h1 h2
    split at h
    · rename_i a r es g1 g3
      cases h
      obtain ⟨hd, hm, id, hu⟩ := hx.sg _ _ h2
      obtain ⟨q1, q2, q3⟩ := cEs_ok hr hx g3
      exact ⟨Q3.of hx.hK (q_bif hx.hK (by rw [hx.calm, g1]; rfl) hu (hx.gl h1) (hm.trans (by rw [hu])) hd q1 q3) fun _ => rfl, (fun h => nomatch h), (fun _ _ z => nomatch z), (fun _ _ _ _ z => nomatch z), fun _ _ => rfl⟩
    · cases h
  · rename_i h1 h2
    split at h
    · rename_i a r es g1 g3
      cases h
      rw [Bool.and_eq_true] at g1
      have := sEq_iff.mp g1.2
      subst this
      obtain ⟨hd, hm, hg⟩ := hx.sg _ _ h2
      obtain ⟨q1, q2, q3⟩ := cEs_ok hr hx g3
      exact ⟨Q3.of hx.hK (q_rep hx.hK (hg g1.1) hx.un (hx.gl h1) hm q1 q3) fun _ => rfl, (fun h => nomatch h), (fun _ _ z => nomatch z), (fun _ _ _ _ z => nomatch z), fun _ _ => rfl⟩
    · cases h
  · cases h

/-! ### methods, fields -/
def bareCall : Expr → Bool
  | .Call (.Name _ _) [] [] _ => true
  | _ => false
/-- the names of hints: a dot, a colon ahead -/
def dotS (m : Str) : Str := ⟨(46 :: m.cps.toList).toArray⟩
def colS (m : Str) : Str := ⟨(58 :: m.cps.toList).toArray⟩
/-- every class of the hint has the method, with so many parameters -/
def metsB (c : CC) (m : Str) (n : Nat) : List (Str × Str) → Bool
  | [] => true
  | (cl, key) :: r => (match sgOf key c.sg with
    | some (.met cl' m' ps) => sEq cl cl' && sEq m m' && Nat.beq ps.length n && metsB c m n r
    | _ => false)
def psOf (c : CC) (key : Str) : List Str := match sgOf key c.sg with
  | some (.met _ _ ps) => ps
  | _ => []
theorem metsB_ok {m : Str} {n : Nat} (hx : XOk c X kn F W) (hc : c.calm = true) : ∀ {cs : List (Str × Str)}, metsB c m n cs = true → (∀ cl k, (cl, k) ∈ cs → cl ∈ kn.pn ∧ MtB X kn cl m (psOf c k) (F.fn k)) ∧ ∀ cl k, (cl, k) ∈ cs → (psOf c k).length = n
  | [], _ => ⟨(fun _ _ z => nomatch z), (fun _ _ z => nomatch z)⟩
  | (cl, key) :: r, h => by
    unfold metsB at h
    split at h
    · rename_i cl' m' ps hs
      simp only [Bool.and_eq_true] at h
      obtain ⟨⟨⟨h1, h2⟩, h3⟩, h4⟩ := h
      have e1 := sEq_iff.mp h1
      have e2 := sEq_iff.mp h2
      subst e1; subst e2
      obtain ⟨_, m1, m2⟩ := hx.sg _ _ hs
      obtain ⟨i1, i2⟩ := metsB_ok hx hc h4
      have ep : psOf c key = ps := by unfold psOf; rw [hs]
      refine ⟨fun z k hz => ?_, fun z k hz => ?_⟩
      · rcases List.mem_cons.mp hz with e | hz
        · cases e
          rw [ep]
          exact ⟨m1, m2 hc⟩
        · exact i1 z k hz
      · rcases List.mem_cons.mp hz with e | hz
        · cases e
          rw [ep]
          exact Nat.eq_of_beq_eq_true h3
        · exact i2 z k hz
    · cases h
/-- the classes of a hint whose method takes so many arguments -/
def arF (c : CC) (n : Nat) (cs : List (Str × Str)) : List (Str × Str) := cs.filter fun p => Nat.beq (psOf c p.2).length (n + 1)
def cOwn (rec : Rec) (c : CC) (a : Expr) (m : Str) (ap pos : Pos) (as : List Expr) : Option Ex := match c.calm && !bareCall a && (ap.endLine == pos.line) && Nat.ble as.length 25, sgOf (dotS m) c.sg, rec c a, cEs (rec c) as with
  | true, some (.hint cs), some x, some es => if metsB c m (as.length + 1) (arF c as.length cs) = true then some (.mth (arF c as.length cs) m x es) else none
  | _, _, _, _ => none
theorem cOwn_ok {a : Expr} {m : Str} {ap pos : Pos} {as : List Expr} {e : Ex} (hr : Snd rec) (hx : XOk c X kn F W) (h : cOwn rec c a m ap pos as = some e) : PQ X kn W F (.Call (.Attribute a m ap) as [] pos) e := by
  unfold cOwn at h
  split at h
  · rename_i cs x es h1 h2 h3 h4
    generalize arF c as.length cs = cs at h
    split at h
    · rename_i hm
      cases h
      simp only [Bool.and_eq_true, Bool.not_eq_true'] at h1
      obtain ⟨⟨⟨b1, b2⟩, b3⟩, b4⟩ := h1
      obtain ⟨m1, m2⟩ := metsB_ok hx b1 hm
      have p1 := hr _ _ _ h3 X kn W F hx
      have nb : ∀ id p pos, a ≠ .Call (.Name id p) [] [] pos := fun id p pos z => by subst z; simp [bareCall] at b2
      cases as with
      | nil =>
        cases h4
        exact ⟨Q3.of hx.hK (PE.imp (q_meth0 hx.tk hx.hK hx.po m1 m2 p1.q.hv nb b3) fun _ _ _ q => q) fun _ => rfl, (fun h => nomatch h), (fun _ _ z => nomatch z), (fun _ _ _ _ z => nomatch z), fun _ _ => rfl⟩
      | cons b r =>
        obtain ⟨q1, q2, q3⟩ := cEs_ok hr hx h4
        exact ⟨Q3.of hx.hK (q_meth hx.tk hx.hK hx.po m1 m2 p1.q.hv nb q1 q2 q3 b4 b3) fun _ => rfl, (fun h => nomatch h), (fun _ _ z => nomatch z), (fun _ _ _ _ z => nomatch z), fun _ _ => rfl⟩
    · cases h
  · cases h
/-- D.get(e), D a written table -/
def cDgt (rec : Rec) (c : CC) (a : Expr) (m : Str) (ap pos : Pos) (b : Expr) : Option Ex := match a with
  | .Name x _ => (match isGlob c x && sEq m "get" && (ap.endLine == pos.line), sgOf x c.sg, rec c b with
    | true, some (.dic kvs), some e => some (.dgt kvs e)
    | _, _, _ => none)
  | _ => none
theorem cDgt_ok {a b : Expr} {m : Str} {ap pos : Pos} {e : Ex} (hr : Snd rec) (hx : XOk c X kn F W) (h : cDgt rec c a m ap pos b = some e) : PQ X kn W F (.Call (.Attribute a m ap) [b] [] pos) e := by
  unfold cDgt at h
  split at h
  · rename_i x px
    split at h
    · rename_i kvs e' h1 h2 h3
      cases h
      rw [Bool.and_eq_true, Bool.and_eq_true] at h1
      have := sEq_iff.mp h1.1.2
      subst this
      obtain ⟨hd, hB⟩ := hx.sg _ _ h2
      have p1 := hr _ _ _ h3 X kn W F hx
      exact ⟨Q3.of hx.hK (q_dgt hB (hx.gl h1.1.1) hd p1.q.hv p1.st h1.2) fun _ => rfl, (fun h => nomatch h), (fun _ _ z => nomatch z), (fun _ _ _ _ z => nomatch z), fun _ _ => rfl⟩
    · cases h
  · cases h
def isDic (c : CC) (a : Expr) : Bool := match a with
  | .Name x _ => (match sgOf x c.sg with
    | some (.dic _) => true
    | _ => false)
  | _ => false
def cMth (rec : Rec) (c : CC) (a : Expr) (m : Str) (ap pos : Pos) (as : List Expr) : Option Ex := match as with
  | [b] => if (sEq m "append" && !bareCall a && (ap.endLine == pos.line)) = true then (match rec c a, rec c b with
      | some x, some y => some (.bm .append x (.cons y .nil))
      | _, _ => none) else if (sEq m "extend" && !bareCall a && (ap.endLine == pos.line)) = true then (match rec c a, rec c b with
      | some x, some y => some (.bm .extend x (.cons y .nil))
      | _, _ => none) else if isDic c a = true then cDgt rec c a m ap pos b else cOwn rec c a m ap pos [b]
  | as => cOwn rec c a m ap pos as
theorem cMth_ok {a : Expr} {m : Str} {ap pos : Pos} {as : List Expr} {e : Ex} (hr : Snd rec) (hx : XOk c X kn F W) (h : cMth rec c a m ap pos as = some e) : PQ X kn W F (.Call (.Attribute a m ap) as [] pos) e := by
  unfold cMth at h
  split at h
  · split at h
    · rename_i hc
      rw [Bool.and_eq_true, Bool.and_eq_true] at hc
      split at h
      · rename_i x y h1 h2
        cases h
        have p1 := hr _ _ _ h1 X kn W F hx
        have p2 := hr _ _ _ h2 X kn W F hx
        have := sEq_iff.mp hc.1.1
        subst this
        exact ⟨Q3.of hx.hK (q_append hx.hK p1.q.hv (QA.cons p2.st p2.q.hv QA.nil) (Long.cons Long.nil) (fun id p pos z => by subst z; simp [bareCall] at hc) p2.st hc.2) fun _ => rfl, (fun h => nomatch h), (fun _ _ z => nomatch z), (fun _ _ _ _ z => nomatch z), fun _ _ => rfl⟩
      · cases h
    · split at h
      · rename_i hc
        rw [Bool.and_eq_true, Bool.and_eq_true] at hc
        split at h
        · rename_i x y h1 h2
          cases h
          have p1 := hr _ _ _ h1 X kn W F hx
          have p2 := hr _ _ _ h2 X kn W F hx
          have := sEq_iff.mp hc.1.1
          subst this
          exact ⟨Q3.of hx.hK (q_extend hx.hK p1.q.hv (QA.cons p2.st p2.q.hv QA.nil) (Long.cons Long.nil) (fun id p pos z => by subst z; simp [bareCall] at hc) p2.st hc.2) fun _ => rfl, (fun h => nomatch h), (fun _ _ z => nomatch z), (fun _ _ _ _ z => nomatch z), fun _ _ => rfl⟩
        · cases h
      · split at h
        · exact cDgt_ok hr hx h
        · exact cOwn_ok hr hx h
  · exact cOwn_ok hr hx h
def cFld (rec : Rec) (c : CC) (a : Expr) (f : Str) : Option Ex := match c.suite, a with
  | true, .Name n _ => (match isVis c n, ixOf n c.N with
    | true, some i => some (.efl i f)
    | _, _ => none)
  | _, _ => (match bareCall a, sgOf (colS f) c.sg, rec c a with
    | false, some (.fld g cs), some x => if sEq f g = true then some (.fld cs x f) else none
    | _, _, _ => none)
theorem cFld_ok {a : Expr} {f : Str} {pos : Pos} {e : Ex} (hr : Snd rec) (hx : XOk c X kn F W) (h : cFld rec c a f = some e) : PQ X kn W F (.Attribute a f pos) e := by
  unfold cFld at h
  split at h
  · rename_i n pn h1
    split at h
    · rename_i i k1 k2
      cases h
      obtain ⟨su, xo⟩ := hx.su h1
      obtain ⟨i1, i2, i3⟩ := hx.ix k2
      exact ⟨Q3.of hx.hK (q_efl hx.hK su xo i1 (hx.vis k1) i2 i3) fun _ => rfl, (fun h => nomatch h), (fun _ _ z => nomatch z), (fun _ _ _ _ z => nomatch z), fun _ _ => rfl⟩
    · cases h
  · split at h
    · rename_i g cs x k1 k2 k3
      split at h
      · rename_i hg
        cases h
        have := sEq_iff.mp hg
        subst this
        obtain ⟨_, hf⟩ := hx.sg _ _ k2
        exact ⟨Q3.of hx.hK (q_fld hx.hK hx.po hf (hr _ _ _ k3 X kn W F hx).q.hv fun id p pos z => by subst z; simp [bareCall] at k1) fun _ => rfl, (fun h => nomatch h), (fun _ _ z => nomatch z), (fun _ _ _ _ z => nomatch z), fun _ _ => rfl⟩
      · cases h
    · cases h

/-! ### targets -/
def cT (c : CC) : Nat → Expr → Option Tg
  | 0, _ => none
  | n + 1, e => match e with
    | .Name x _ => (match kd x c.sc.names, ixOf x c.N with
      | some .local, some i => some (.nm i)
      | some .cell, some i => if c.fn x = true then some (.nm i) else none
      | _, _ => none)
    | .Tuple es _ _ => (match cTs (cT c n) es with
      | some ts => some (.tp ts)
      | none => none)
    | _ => none
where cTs (f : Expr → Option Tg) : List Expr → Option Tgs
  | [] => some .nil
  | e :: r => match f e, cTs f r with
    | some t, some s => some (.cons t s)
    | _, _ => none
theorem cTs_ok {f : Expr → Option Tg} (hf : ∀ e t, f e = some t → TgOk X e t) : ∀ {es : List Expr} {ts : Tgs}, cT.cTs f es = some ts → TgsOk X es ts
  | [], _, h => by cases h; exact .nil
  | e :: r, ts, h => by
    unfold cT.cTs at h
    split at h
    · rename_i t s h1 h2
      cases h
      have q := hf _ _ h1
      exact .cons (by cases q <;> exact fun _ _ z => nomatch z) q (cTs_ok hf h2)
    · cases h
theorem cT_ok (hN : X.N = c.N) (hS : X.env.scope = c.sc) (hF : X.fn = c.fn) : ∀ {n : Nat} {e : Expr} {t : Tg}, cT c n e = some t → TgOk X e t
  | 0, _, _, h => by cases h
  | n + 1, e, t, h => by
    unfold cT at h
    split at h
    · split at h
      · rename_i i h1 h2
        cases h
        rw [kd_eq, ← hS] at h1
        exact .nm (hN ▸ ixOf_get h2) (.inl h1) (.inr h1)
      · rename_i i h1 h2
        split at h
        · rename_i hf
          cases h
          rw [kd_eq, ← hS] at h1
          exact .nm (hN ▸ ixOf_get h2) (.inr h1) (.inl (hF ▸ hf))
        · cases h
      · cases h
    · split at h
      · rename_i ts h1
        cases h
        exact .tp (cTs_ok (fun e t h => cT_ok hN hS hF h) h1)
      · cases h
    · cases h

/-! ### what is walked over -/
def isTupT : Expr → Bool
  | .Tuple _ _ _ => true
  | _ => false
def cPlain (rec : Rec) (c : CC) (e : Expr) : Option It := match rec c e with
  | some x => if tmpB x = true then some (.tmp x) else some (.ex x)
  | none => none
def cI (rec : Rec) (c : CC) (t e : Expr) : Option It := match e with
  | .Call (.Name x _) [a] [] _ => if isB c x = true then
      (if sEq x "range" = true then (match rec c a with
        | some y => some (.rng (.cons y .nil))
        | none => none)
      else if sEq x "enumerate" = true then (match isTupT t, rec c a with
        | true, some y => some (.enm y)
        | _, _ => none)
      else cPlain rec c e) else cPlain rec c e
  | .Call (.Name x _) [a, b] [] _ => if isB c x = true then
      (if sEq x "range" = true then (match rec c a, rec c b with
        | some y, some z => some (.rng (.cons y (.cons z .nil)))
        | _, _ => none)
      else if sEq x "zip" = true then (match isTupT t, rec c a, rec c b with
        | true, some y, some z => some (.zip y z)
        | _, _, _ => none)
      else cPlain rec c e) else cPlain rec c e
  | .Call (.Name x _) [a, b, d] [] _ => if isB c x = true then
      (if sEq x "range" = true then (match rec c a, rec c b, rec c d with
        | some y, some z, some w => some (.rng (.cons y (.cons z (.cons w .nil))))
        | _, _, _ => none)
      else if sEq x "zip" = true then (match isTupT t, rec c a, rec c b, rec c d with
        | true, some y, some z, some w => some (.zip3 y z w)
        | _, _, _, _ => none)
      else cPlain rec c e) else cPlain rec c e
  | e => cPlain rec c e
structure PIt (X : Cx) (kn : Kn) (W : WX) (F : Wd) (t e : Expr) (it : It) : Prop where
  i : PI X t e (liftI kn W (evI F it))
  s : ∀ env y, foldedSetIterable e env y = pure y
theorem cPlain_ok {t e : Expr} {it : It} (hr : Snd rec) (hx : XOk c X kn F W) (h : cPlain rec c e = some it) : PIt X kn W F t e it := by
  unfold cPlain at h
  split at h
  · rename_i x h1
    have p := hr _ _ _ h1 X kn W F hx
    split at h
    · rename_i ht
      cases h
      exact ⟨qi_tmp hx.hK (p.n ht), p.se⟩
    · cases h
      exact ⟨qi_ex hx.hK p.q.hv, p.se⟩
  · cases h
theorem isTupT_ok {t : Expr} (h : isTupT t = true) : ∃ es k p, t = .Tuple es k p := by
  unfold isTupT at h
  split at h
  · exact ⟨_, _, _, rfl⟩
  · cases h
theorem cI_ok {t e : Expr} {it : It} (hr : Snd rec) (hx : XOk c X kn F W) (h : cI rec c t e = some it) : PIt X kn W F t e it := by
  unfold cI at h
  split at h
  · split at h
    · rename_i hb
      split at h
      · rename_i e
        have := sEq_iff.mp e
        subst this
        split at h
        · rename_i y h1
          cases h
          have p := hr _ _ _ h1 X kn W F hx
          exact ⟨qi_rng1 (isB_ok hx hb rfl (by decide)) (QA.cons p.st p.q.hv QA.nil) p.st (Long.cons Long.nil), fun _ _ => rfl⟩
        · cases h
      · split at h
        · rename_i e
          have := sEq_iff.mp e
          subst this
          split at h
          · rename_i y h0 h1
            cases h
            have p := hr _ _ _ h1 X kn W F hx
            obtain ⟨es, k, p', rfl⟩ := isTupT_ok h0
            exact ⟨qi_enm hx.hK (isB_ok hx hb rfl (by decide)) p.q.hv p.st, fun _ _ => rfl⟩
          · cases h
        · exact cPlain_ok hr hx h
    · exact cPlain_ok hr hx h
  · split at h
    · rename_i hb
      split at h
      · rename_i e
        have := sEq_iff.mp e
        subst this
        split at h
        · rename_i y z h1 h2
          cases h
          have p := hr _ _ _ h1 X kn W F hx
          have q := hr _ _ _ h2 X kn W F hx
          exact ⟨qi_rng2 (isB_ok hx hb rfl (by decide)) (QA.cons p.st p.q.hv (QA.cons q.st q.q.hv QA.nil)) p.st q.st (Long.cons (Long.cons Long.nil)), fun _ _ => rfl⟩
        · cases h
      · split at h
        · rename_i e
          have := sEq_iff.mp e
          subst this
          split at h
          · rename_i y z h0 h1 h2
            cases h
            have p := hr _ _ _ h1 X kn W F hx
            have q := hr _ _ _ h2 X kn W F hx
            obtain ⟨es, k, p', rfl⟩ := isTupT_ok h0
            exact ⟨qi_zip hx.hK (isB_ok hx hb rfl (by decide)) p.q.hv q.q.hv p.st q.st, fun _ _ => rfl⟩
          · cases h
        · exact cPlain_ok hr hx h
    · exact cPlain_ok hr hx h
  · split at h
    · rename_i hb
      split at h
      · rename_i e
        have := sEq_iff.mp e
        subst this
        split at h
        · rename_i y z w h1 h2 h3
          cases h
          have p := hr _ _ _ h1 X kn W F hx
          have q := hr _ _ _ h2 X kn W F hx
          have r := hr _ _ _ h3 X kn W F hx
          exact ⟨qi_rng3 (isB_ok hx hb rfl (by decide)) (QA.cons p.st p.q.hv (QA.cons q.st q.q.hv (QA.cons r.st r.q.hv QA.nil))) p.st q.st r.st (Long.cons (Long.cons (Long.cons Long.nil))), fun _ _ => rfl⟩
        · cases h
      · split at h
        · rename_i e
          have := sEq_iff.mp e
          subst this
          split at h
          · rename_i y z w h0 h1 h2 h3
            cases h
            have p := hr _ _ _ h1 X kn W F hx
            have q := hr _ _ _ h2 X kn W F hx
            have r := hr _ _ _ h3 X kn W F hx
            obtain ⟨es, k, p', rfl⟩ := isTupT_ok h0
            exact ⟨qi_zip3 hx.hK (isB_ok hx hb rfl (by decide)) p.q.hv q.q.hv r.q.hv p.st q.st r.st, fun _ _ => rfl⟩
          · cases h
        · exact cPlain_ok hr hx h
    · exact cPlain_ok hr hx h
  · exact cPlain_ok hr hx h

/-! ### comprehensions -/
def ownOf (N : List Str) : List (Str × NameKind) → List (Str × Nat)
  | [] => []
  | (x, k) :: r => match k, ixOf x N with
    | .local, some i => (x, i) :: ownOf N r
    | .cell, some i => (x, i) :: ownOf N r
    | _, _ => ownOf N r
def blkCC (c : CC) (scope : Scope) : CC := { c with sc := relS scope c.sc, fn := fun x => scope.names.lookup x == some .cell, suite := false }
def subB : List Nat → List Nat → Bool
  | [], _ => true
  | i :: r, l => l.elem i && subB r l
theorem subB_ok : ∀ {a b : List Nat}, subB a b = true → ∀ i ∈ a, i ∈ b
  | [], _, _, _, h => nomatch h
  | i :: r, l, h, j, hj => by
    unfold subB at h
    rw [Bool.and_eq_true] at h
    rcases List.mem_cons.mp hj with rfl | hj
    · simpa using h.1
    · exact subB_ok h.2 j hj
structure LcP where
  own : List (Str × Nat)
  t : Tg
  it : It
  c : Ex
  e : Ex
def cLc (rec : Rec) (c : CC) (elt tg iter : Expr) (ifs : List Expr) (scope : Scope) : Option LcP :=
  let c' := blkCC c scope
  let own := ownOf c.N scope.names
  match c.calm && blkC c.N c.sc scope own, cI rec c tg iter, cT c' 9 tg, rec c' elt with
  | true, some it, some t, some e => if subB t.slots (own.map (·.2)) = true then (match ifs with
    | [] => some ⟨own, t, it, .con (.bl true), e⟩
    | [i] => (match rec c' i with
      | some x => some ⟨own, t, it, x, e⟩
      | none => none)
    | _ => none) else none
  | _, _, _, _ => none
theorem XOk.blk (hx : XOk c X kn F W) {scope : Scope} (ok : BlkOk X.N X.env.scope scope (ownOf c.N scope.names)) (s : Shared) (H : Hp) (C : Addr) (cl : List (Str × Addr)) (fp : List Addr) : XOk (blkCC c scope) (X.blk s H scope (compEnvC scope cl C X.env) fp) kn F noW :=
  { hK := hx.hK
    N := hx.N
    nd := hx.nd
    nb := hx.nb
    sc := by show relS scope X.env.scope = relS scope c.sc; rw [hx.sc]
    fn := rfl
    calm := hx.calm
    kind := ok.kind
    tk := takes0
    un := hx.un
    sg := fun x s h => by
      obtain ⟨h1, h2⟩ := hx.sg x s h
      refine ⟨h1, ?_⟩
      cases s with
      | fn ps po sh => exact fun hc => ⟨(h2 hc).ex⟩
      | exc fs =>
        obtain ⟨E, e1, e2, e3, e4⟩ := h2
        refine ⟨E, e1, e2, e3, fun hc => ?_⟩
        cases fs with
        | nil => exact ⟨(show ExK X kn _ from e4 hc).ex⟩
        | cons f fs => exact ⟨(e4 hc).1, ⟨(e4 hc).2.ex⟩⟩
      | blt => exact h2
      | «bif» b => exact h2
      | con d => exact h2
      | cls key ps => exact fun hc => ⟨(h2 hc).ex⟩
      | met cl m ps => exact ⟨h2.1, fun hc => ⟨(h2.2 hc).ex⟩⟩
      | hint cs => exact h2
      | fld f cs => exact h2
      | rep => exact h2
      | dic kvs => exact ⟨h2.ex⟩
    po := hx.po
    su := fun h => nomatch h }
theorem cLc_ok {elt tg iter : Expr} {ifs : List Expr} {scope : Scope} {l : LcP} (hr : Snd rec) (hx : XOk c X kn F W) (h : cLc rec c elt tg iter ifs scope = some l) :
    c.calm = true ∧ PIt X kn W F tg iter l.it ∧ BlkOk X.N X.env.scope scope l.own ∧ (∀ i ∈ l.t.slots, i ∈ l.own.map (·.2)) ∧
    (∀ (s : Shared) (H : Hp) (C : Addr) (cl : List (Str × Addr)) (fp : List Addr), TgOk (X.blk s H scope (compEnvC scope cl C X.env) fp) tg l.t) ∧
    (∀ (s : Shared) (H : Hp) (C : Addr) (cl : List (Str × Addr)) (fp : List Addr), PTs (X.blk s H scope (compEnvC scope cl C X.env) fp) ifs (liftT kn noW (evA F l.c).t)) ∧
    (∀ (s : Shared) (H : Hp) (C : Addr) (cl : List (Str × Addr)) (fp : List Addr), PE (X.blk s H scope (compEnvC scope cl C X.env) fp) elt (liftE kn noW (evA F l.e).v)) := by
  unfold cLc at h
  try dsimp only at h
  split at h
  · rename_i it t e h1 h2 h3 h4
    rw [Bool.and_eq_true] at h1
    have ok : BlkOk X.N X.env.scope scope (ownOf c.N scope.names) := by rw [hx.N, hx.sc]; exact blkOk_by h1.2
    split at h
    · rename_i hs
      have main : ∀ x, (∀ (s : Shared) (H : Hp) (C : Addr) (cl : List (Str × Addr)) (fp : List Addr), PTs (X.blk s H scope (compEnvC scope cl C X.env) fp) ifs (liftT kn noW (evA F x).t)) → l = ⟨ownOf c.N scope.names, t, it, x, e⟩ →
        c.calm = true ∧ PIt X kn W F tg iter l.it ∧ BlkOk X.N X.env.scope scope l.own ∧ (∀ i ∈ l.t.slots, i ∈ l.own.map (·.2)) ∧
    (∀ (s : Shared) (H : Hp) (C : Addr) (cl : List (Str × Addr)) (fp : List Addr), TgOk (X.blk s H scope (compEnvC scope cl C X.env) fp) tg l.t) ∧
    (∀ (s : Shared) (H : Hp) (C : Addr) (cl : List (Str × Addr)) (fp : List Addr), PTs (X.blk s H scope (compEnvC scope cl C X.env) fp) ifs (liftT kn noW (evA F l.c).t)) ∧
    (∀ (s : Shared) (H : Hp) (C : Addr) (cl : List (Str × Addr)) (fp : List Addr), PE (X.blk s H scope (compEnvC scope cl C X.env) fp) elt (liftE kn noW (evA F l.e).v)) := by
        rintro x hp rfl
        exact ⟨h1.1, cI_ok hr hx h2, ok, subB_ok hs, fun s H C cl fp => cT_ok (c := blkCC c scope) (hx.blk ok s H C cl fp).N (hx.blk ok s H C cl fp).sc rfl h3, hp, fun s H C cl fp => (hr _ _ _ h4 _ kn noW F (hx.blk ok s H C cl fp)).q.hv⟩
      split at h
      · cases h
        refine main _ (fun s H C cl fp => ⟨fun pins s σ H Q I ⟨ρ, σd, S, rl, re, h⟩ => ?_⟩) rfl
        exact pts_nil.run pins s σ H Q I (h H ρ .refl rl)
      · split at h
        · rename_i x h5
          cases h
          exact main _ (fun s H C cl fp => pts_one (hr _ _ _ h5 _ kn noW F (hx.blk ok s H C cl fp)).q.ht) rfl
        · cases h
      · cases h
    · cases h
  · cases h
def cLcE (rec : Rec) (c : CC) (elt : Expr) (gs : List Comprehension) (scope : Scope) : Option Ex := match gs with
  | [⟨tg, iter, ifs, 0⟩] => (match cLc rec c elt tg iter ifs scope with
    | some l => some (.lc (l.own.map (·.2)) l.t l.it l.c l.e)
    | none => none)
  | _ => none
theorem cLcE_ok {elt : Expr} {gs : List Comprehension} {scope : Scope} {pos : Pos} {e : Ex} (hr : Snd rec) (hx : XOk c X kn F W) (h : cLcE rec c elt gs scope = some e) : PQ X kn W F (.ListComp elt gs scope pos) e := by
  unfold cLcE at h
  split at h
  · split at h
    · rename_i l h1
      cases h
      obtain ⟨h0, h2, h3, h4, h5, h6, h7⟩ := cLc_ok hr hx h1
      have qn := q_lc (pos := pos) hx.hK (hx.calm.trans h0) hx.nd' h2.i h3 h4 h5 h6 h7 (h2.s X.env)
      exact ⟨QN.q3 hx.hK qn fun _ => rfl, fun _ => qn, (fun _ _ z => nomatch z), (fun _ _ _ _ z => nomatch z), fun _ _ => rfl⟩
    · cases h
  · cases h

/-! ### an expression -/
def cE1 (rec : Rec) (c : CC) (e : Expr) : Option Ex := match e with
  | .Constant k _ _ => (match cCon k with
    | some d => some (.con d)
    | none => none)
  | .Name x _ => cName c x
  | .BinOp a op b _ => cBin rec c a op b
  | .UnaryOp op a _ => cUn rec c op a
  | .BoolOp op es _ => cBool rec c op es
  | .IfExp t a b _ => cIte rec c t a b
  | .Compare a ops bs _ => cCmp rec c a ops bs
  | .Tuple es _ _ => cTup rec c es
  | .List es _ => cLst rec c es
  | .Subscript a i _ => cSub rec c a i
  | .Call (.Name x _) as kws _ => cCallN rec c x as kws
  | .Call (.Attribute a m ap) as [] pos => cMth rec c a m ap pos as
  | .Attribute a f _ => cFld rec c a f
  | .ListComp elt gs scope _ => cLcE rec c elt gs scope
  | _ => none
theorem cE1_ok (hr : Snd rec) : Snd (cE1 rec) := by
  intro c e x h X kn W F hx
  unfold cE1 at h
  split at h
  · split at h
    · rename_i d h1; cases h; exact cCon_ok hx h1
    · cases h
  · exact cName_ok hx h
  · exact cBin_ok hr hx h
  · exact cUn_ok hr hx h
  · exact cBool_ok hr hx h
  · exact cIte_ok hr hx h
  · exact cCmp_ok hr hx h
  · exact cTup_ok hr hx h
  · exact cLst_ok hr hx h
  · exact cSub_ok hr hx h
  · exact cCallN_ok hr hx h
  · exact cMth_ok hr hx h
  · exact cFld_ok hr hx h
  · exact cLcE_ok hr hx h
  · cases h
def cE : Nat → Rec
  | 0 => fun _ _ => none
  | n + 1 => cE1 (cE n)
theorem cE_ok : ∀ n, Snd (cE n)
  | 0 => fun _ _ _ h => nomatch h
  | n + 1 => cE1_ok (cE_ok n)
end
end Kq
set_option Elab.async false
set_option linter.all false
set_option maxRecDepth 100000
set_option maxHeartbeats 2000000
set_option autoImplicit false
/-! # The Q layer, part N: statements are translated -/
namespace Kq
open PySem PySem.Spec PyProof.Rows L2

section
variable {c : CC} {X : Cx} {kn : Kn} {F : Wd} {W : WX} {rec : Rec}
/-! ### stores that are swapped, or not -/
def isComp : Expr → Bool
  | .ListComp _ _ _ _ => true
  | .SetComp _ _ _ _ => true
  | .DictComp _ _ _ _ _ => true
  | _ => false
theorem sw_plain {e : Expr} {t : Option Expr} {l : Nat} {env : Env} (h : isComp e = false) : swapsWith e t l env = pure false := by
  cases e <;> first | rfl | cases h
theorem sw_store {e t : Expr} {l : Nat} {env : Env} (h : ∀ x p, t ≠ .Name x p) : swapsWith e (some t) l env = pure false := by
  cases e <;> first | rfl | (cases t <;> first | rfl | exact absurd rfl (h _ _))
theorem ss_tgt {e t : Expr} {env : Env} (h1 : ∀ ts k p, t ≠ .Tuple ts k p) (h2 : ∀ ts p, t ≠ .List ts p) : swappedStores [t] e env = pure none := by
  cases t <;> first | rfl | exact absurd rfl (h1 _ _ _) | exact absurd rfl (h2 _ _)
theorem ss_val {e : Expr} {ts : List Expr} {k : Nat} {p : Pos} {env : Env} (h1 : ∀ ts k p, e ≠ .Tuple ts k p) : swappedStores [.Tuple ts k p] e env = pure none := by
  cases e <;> first | rfl | exact absurd rfl (h1 _ _ _)
theorem ss_fold {ts vs : List Expr} {k k2 : Nat} {p p2 : Pos} {env : Env} (h : vs.all (foldedForSure 8) = true) : swappedStores [.Tuple ts k p] (.Tuple vs k2 p2) env = pure none := by
  unfold swappedStores
  simp only [h, if_true]
  split
  · rfl
  · split
    · rfl
    · split
      · rfl
      · rfl
theorem ss_swap {x y : Str} {a b : Expr} {k k2 : Nat} {px py p p2 : Pos} {env : Env} (hf : [a, b].all (foldedForSure 8) = false) (hc : [a, b].all (constantsAlone 8) = false) (hk : env.scope.kind = .function)
    (hx : env.scope.names.lookup x = some .local) (hy : env.scope.names.lookup y = some .local) (hl : (py.line == px.line) = true) (hn : x ≠ y) (h1 : ∀ x p, a ≠ .Starred x p) (h2 : ∀ x p, b ≠ .Starred x p) :
    swappedStores [.Tuple [.Name x px, .Name y py] k p] (.Tuple [a, b] k2 p2) env = pure (some [x, y]) := by
  have kx : env.kindOf x = some .local := hx
  have ky : env.kindOf y = some .local := hy
  have hb : env.blockKind = .function := by unfold Env.blockKind; rw [hk]; rfl
  have st : ([a, b].any fun | .Starred .. => true | _ => false) = false := by
    have s1 : (match a with | .Starred .. => true | _ => false) = false := by cases a <;> first | rfl | exact absurd rfl (h1 _ _)
    have s2 : (match b with | .Starred .. => true | _ => false) = false := by cases b <;> first | rfl | exact absurd rfl (h2 _ _)
    simp only [List.any_cons, List.any_nil, Bool.or_false, s1, s2]
  have hxy : (y == x) = false := by simpa using fun z => hn z.symm
  unfold swappedStores
  simp only [hb, hf, hc, st, Expr.pos, kx, ky, hl, List.head?, Option.map, Option.getD, List.filterMap, List.length, beq_self_eq_true, Bool.and_self, if_true]
  have ed : [x, y].eraseDups.length = 2 := by
    have : [x, y].eraseDups = [x, y] := by simp [List.eraseDups, List.eraseDupsBy, List.eraseDupsBy.loop, hxy]
    rw [this]; rfl
  rw [if_neg (by decide), if_neg (by have st' := st; rw [Bool.eq_false_iff] at st'; exact st'), if_neg (by rw [ed]; decide), if_neg Bool.false_ne_true, if_neg Bool.false_ne_true]
theorem ss_cell {x y : Str} {a b : Expr} {k k2 : Nat} {px py p p2 : Pos} {env : Env} (h : env.scope.names.lookup x = some .cell ∨ env.scope.names.lookup y = some .cell) :
    swappedStores [.Tuple [.Name x px, .Name y py] k p] (.Tuple [a, b] k2 p2) env = pure none := by
  have z : ((some NameKind.cell : Option NameKind) == some NameKind.local) = false := rfl
  unfold swappedStores
  dsimp only
  split
  · rfl
  · split
    · rfl
    · rename_i n1 n2
      rw [if_pos]
      rcases h with h | h
      · have kx : env.kindOf x = some .cell := h
        simp only [List.filterMap, kx, z, Bool.false_and]
        cases (env.kindOf y == some .local && py.line == (([Expr.Name x px, .Name y py].head?.map (·.pos.line)).getD 0)) <;> rfl
      · have ky : env.kindOf y = some .cell := h
        simp only [List.filterMap, ky, z, Bool.false_and]
        cases (env.kindOf x == some .local && px.line == (([Expr.Name x px, .Name y py].head?.map (·.pos.line)).getD 0)) <;> rfl
/-- the context of a statement -/
structure SOk (c : CC) (X : Cx) (kn : Kn) (F : Wd) (W : WX) : Prop extends XOk c X kn F W where
  pass : c.calm = true → PassesOwn (model X.prog X.w) X.A X.env X.xe
  stk : c.calm = true → X.stack = X.env :: X.outer ∧ X.env.frame = some X.env.locals
  ec : c.calm = true → kn.ec = none
  xn : ExmOk X kn F.kin ∧ XnOk kn.K kn F.kin F.fld
abbrev RecS := CC → Stmt → Option Cm
def SndS (rec : RecS) : Prop := ∀ c s x, rec c s = some x → ∀ X kn W F, SOk c X kn F W → PS X s (liftS kn W fun σ S => evS x F σ S)
variable {recS : RecS}
def cSs (f : Stmt → Option Cm) : List Stmt → Option Cms
  | [] => some .nil
  | s :: r => match f s, cSs f r with
    | some a, some b => some (.cons a b)
    | _, _ => none
theorem cSs_ok (hs : SndS recS) (hx : SOk c X kn F W) : ∀ {ss : List Stmt} {as : Cms}, cSs (recS c) ss = some as → PSs X ss (liftS kn W fun σ S => evSs as F σ S)
  | [], _, h => by cases h; exact q_nil
  | s :: r, as, h => by
    unfold cSs at h
    split at h
    · rename_i a b h1 h2
      cases h
      exact q_cons (hs _ _ _ h1 X kn W F hx) (cSs_ok hs hx h2)
    · cases h

/-! ### assignments -/
def isLoc (c : CC) (x : Str) : Bool := match kd x c.sc.names with
  | some .local => true
  | _ => false
theorem isLoc_ok (hx : XOk c X kn F W) {x : Str} (h : isLoc c x = true) : X.env.scope.names.lookup x = some .local := by
  unfold isLoc at h
  rw [kd_eq, ← hx.sc] at h
  split at h
  · rename_i e; exact e
  · cases h
def notIn (y : Str) (scope : Scope) : Bool := !(scope.names.any fun (n, k) => n == y && (k == .local || k == .cell))
def isLC : Expr → Option (Expr × List Comprehension × Scope × Pos)
  | .ListComp elt gs scope pos => some (elt, gs, scope, pos)
  | _ => none
def isTup : Expr → Option (List Expr)
  | .Tuple es _ _ => some es
  | _ => none
def isNm : Expr → Option (Str × Pos)
  | .Name x p => some (x, p)
  | _ => none
def cAsg (rec : Rec) (c : CC) (tg e : Expr) : Option Cm := match c.calm, isComp e, rec c e, cT c 9 tg with
  | true, false, some x, some t => some (.asg t x)
  | _, _, _, _ => none
theorem assign1 {tg : Expr} {t : Tg} (h : TgOk X tg t) : (assignEach [tg] X.env).map (·.2) = [assign tg X.env] := by
  cases h <;> rfl
theorem cAsg_ok {tg e : Expr} {pos : Pos} {x : Cm} (hr : Snd rec) (hx : XOk c X kn F W) (hw : swappedStores [tg] e X.env = pure none) (h : cAsg rec c tg e = some x) : PS X (.Assign [tg] e pos) (liftS kn W fun σ S => evS x F σ S) := by
  unfold cAsg at h
  split at h
  · rename_i x t h1 h2 h3 h4
    cases h
    have ht := cT_ok hx.N hx.sc hx.fn h4
    exact q_asg hx.hK (hx.calm.trans h1) hx.nd' ht (hr _ _ _ h3 X kn W F hx).q.hv (sw_plain h2) hw (assign1 ht)
  · cases h
def isCel (c : CC) (x : Str) : Bool := match kd x c.sc.names with
  | some .cell => true
  | _ => false
theorem isCel_ok {x : Str} (hx : XOk c X kn F W) (h : isCel c x = true) : X.env.scope.names.lookup x = some .cell := by
  unfold isCel at h
  rw [kd_eq, ← hx.sc] at h
  split at h
  · rename_i e; exact e
  · cases h
theorem sw_cell {e : Expr} {y : Str} {py : Pos} {l : Nat} {env : Env} (hy : env.scope.names.lookup y = some .cell) : swapsWith e (some (.Name y py)) l env = pure false := by
  have ky : env.kindOf y = some .cell := hy
  have z : ((some NameKind.cell : Option NameKind) == some NameKind.local) = false := rfl
  cases e <;> first | rfl | (unfold swapsWith; simp only [ky, z, Bool.and_false, Bool.false_and])
/-- a name that a comprehension reads -/
def cAsgC (rec : Rec) (c : CC) (y : Str) (py : Pos) (e : Expr) : Option Cm := match c.calm, isCel c y, rec c e, cT c 9 (.Name y py) with
  | true, true, some x, some t => some (.asg t x)
  | _, _, _, _ => none
theorem cAsgC_ok {y : Str} {py pos : Pos} {e : Expr} {x : Cm} (hr : Snd rec) (hx : XOk c X kn F W) (h : cAsgC rec c y py e = some x) : PS X (.Assign [.Name y py] e pos) (liftS kn W fun σ S => evS x F σ S) := by
  unfold cAsgC at h
  split at h
  · rename_i x t h1 h2 h3 h4
    cases h
    have ht := cT_ok hx.N hx.sc hx.fn h4
    exact q_asg hx.hK (hx.calm.trans h1) hx.nd' ht (hr _ _ _ h3 X kn W F hx).q.hv (show swapsWith e (some (.Name y py)) pos.line X.env = pure false from sw_cell (isCel_ok hx h2)) (ss_tgt (fun _ _ _ z => nomatch z) (fun _ _ z => nomatch z)) (assign1 ht)
  · cases h
def cAsgN (rec : Rec) (c : CC) (y : Str) (py : Pos) (e : Expr) : Option Cm := if isCel c y = true then cAsgC rec c y py e else match isLC e with
  | some (elt, gs, scope, pos) => (match gs with
    | [⟨tg, iter, ifs, 0⟩] => (match cLc rec c elt tg iter ifs scope, ixOf y c.N with
      | some l, some i => if (isLoc c y && notIn y scope && (py.line == pos.line)) = true then some (.asg (.nm i) (.lc (l.own.map (·.2)) l.t l.it l.c l.e)) else none
      | _, _ => none)
    | _ => none)
  | none => cAsg rec c (.Name y py) e
theorem isLC_ok {e elt : Expr} {gs : List Comprehension} {scope : Scope} {pos : Pos} (h : isLC e = some (elt, gs, scope, pos)) : e = .ListComp elt gs scope pos := by
  unfold isLC at h
  split at h
  · cases h; rfl
  · cases h
theorem cAsgN_ok {y : Str} {py pos : Pos} {e : Expr} {x : Cm} (hr : Snd rec) (hx : XOk c X kn F W) (h : cAsgN rec c y py e = some x) : PS X (.Assign [.Name y py] e pos) (liftS kn W fun σ S => evS x F σ S) := by
  unfold cAsgN at h
  split at h
  · exact cAsgC_ok hr hx h
  split at h
  · rename_i elt gs scope lpos he
    have := isLC_ok he
    subst this
    split at h
    · split at h
      · rename_i l i h1 h2
        split at h
        · rename_i hc
          rw [Bool.and_eq_true, Bool.and_eq_true] at hc
          cases h
          obtain ⟨g0, g2, g3, g4, g5, g6, g7⟩ := cLc_ok hr hx h1
          have hl := isLoc_ok hx hc.1.1
          have hn := hc.1.2
          unfold notIn at hn
          have hn' : (scope.names.any fun (n, k) => n == y && (k == .local || k == .cell)) = false := by simpa using hn
          exact q_setLc hx.hK (hx.calm.trans g0) hx.nd' (hx.ix h2).1 hl (sw_true (by rw [hx.sc]; exact hx.kind) hl hc.2 hn') g2.i g3 g4 g5 g6 g7 (g2.s X.env)
        · cases h
      · cases h
    · cases h
  · exact cAsg_ok hr hx (ss_tgt (fun _ _ _ z => nomatch z) (fun _ _ z => nomatch z)) h
def cPar (rec : Rec) (c : CC) (x y : Str) (px py : Pos) (a b : Expr) : Option Cm := match c.calm, rec c a, rec c b, ixOf x c.N, ixOf y c.N with
  | true, some u, some v, some i, some j => if (!([a, b].all (foldedForSure 8)) && !([a, b].all (constantsAlone 8)) && isLoc c x && isLoc c y && (py.line == px.line) && !(Nat.beq i j)) = true then some (.par i j u v) else none
  | _, _, _, _, _ => none
theorem cPar_ok {x y : Str} {px py p p2 pos : Pos} {k k2 : Nat} {a b : Expr} {z : Cm} (hr : Snd rec) (hx : XOk c X kn F W) (h : cPar rec c x y px py a b = some z) : PS X (.Assign [.Tuple [.Name x px, .Name y py] k p] (.Tuple [a, b] k2 p2) pos) (liftS kn W fun σ S => evS z F σ S) := by
  unfold cPar at h
  split at h
  · rename_i u v i j h1 h2 h3 h4 h5
    split at h
    · rename_i hc
      simp only [Bool.and_eq_true, Bool.not_eq_true'] at hc
      obtain ⟨⟨⟨⟨⟨c1, c2⟩, c3⟩, c4⟩, c5⟩, c6⟩ := hc
      cases h
      have hij : i ≠ j := fun z => by subst z; rw [Nat.beq_refl] at c6; cases c6
      have p1 := hr _ _ _ h2 X kn W F hx
      have p2' := hr _ _ _ h3 X kn W F hx
      have lx := isLoc_ok hx c3
      have ly := isLoc_ok hx c4
      have hxy : x ≠ y := fun z => hij (by subst z; rw [h4] at h5; cases h5; rfl)
      exact q_par (hx.calm.trans h1) hx.nd' (hx.ix h4).1 (hx.ix h5).1 hij lx ly p1.q.hv p2'.q.hv p1.st p2'.st (ss_swap c1 c2 (by rw [hx.sc]; exact hx.kind) lx ly c5 hxy p1.st p2'.st) rfl
    · cases h
  · cases h
def cSet (rec : Rec) (c : CC) (a i e : Expr) : Option Cm := match rec c e, rec c a, rec c i with
  | some x, some y, some z => some (.sub y z x)
  | _, _, _ => none
theorem cSet_ok {a i e : Expr} {p pos : Pos} {z : Cm} (hr : Snd rec) (hx : XOk c X kn F W) (h : cSet rec c a i e = some z) : PS X (.Assign [.Subscript a i p] e pos) (liftS kn W fun σ S => evS z F σ S) := by
  unfold cSet at h
  split at h
  · rename_i x y z h1 h2 h3
    cases h
    have p3 := hr _ _ _ h3 X kn W F hx
    exact q_sub (hr _ _ _ h1 X kn W F hx).q.hv (hr _ _ _ h2 X kn W F hx).q.hv p3.q.hv p3.sl (sw_store (t := .Subscript a i p) (l := pos.line) (env := X.env) (fun _ _ z => nomatch z)) (ss_tgt (fun _ _ _ z => nomatch z) (fun _ _ z => nomatch z))
  · cases h
def cFst (rec : Rec) (c : CC) (a : Expr) (f : Str) (e : Expr) : Option Cm := match sgOf (colS f) c.sg, rec c e, rec c a with
  | some (.fld g cs), some x, some y => if sEq f g = true then some (.fst cs y f x) else none
  | _, _, _ => none
theorem cFst_ok {a e : Expr} {f : Str} {p pos : Pos} {z : Cm} (hr : Snd rec) (hx : XOk c X kn F W) (h : cFst rec c a f e = some z) : PS X (.Assign [.Attribute a f p] e pos) (liftS kn W fun σ S => evS z F σ S) := by
  unfold cFst at h
  split at h
  · rename_i g cs x y h1 h2 h3
    split at h
    · rename_i hg
      cases h
      have := sEq_iff.mp hg
      subst this
      obtain ⟨_, hf⟩ := hx.sg _ _ h1
      exact q_fst hx.hK hx.po hf (hr _ _ _ h3 X kn W F hx).q.hv (hr _ _ _ h2 X kn W F hx).q.hv (sw_store (t := .Attribute a f p) (l := pos.line) (env := X.env) (fun _ _ z => nomatch z))
    · cases h
  · cases h
def cAssign (rec : Rec) (c : CC) (ts : List Expr) (e : Expr) : Option Cm := match ts with
  | [.Attribute a f _] => cFst rec c a f e
  | [.Name y py] => cAsgN rec c y py e
  | [.Subscript a i _] => cSet rec c a i e
  | [.Tuple es _ _] => (match isTup e with
    | none => cAsg rec c (.Tuple es 0 ⟨0, 0, 0, 0⟩) e
    | some vs => if vs.all (foldedForSure 8) = true then cAsg rec c (.Tuple es 0 ⟨0, 0, 0, 0⟩) e else (match es, vs with
      | [.Name x px, .Name y py], [a, b] => if (isCel c x || isCel c y) = true then cAsg rec c (.Tuple [.Name x px, .Name y py] 0 ⟨0, 0, 0, 0⟩) e else cPar rec c x y px py a b
      | _, _ => none))
  | _ => none
theorem cAsg_tup {es : List Expr} {k : Nat} {p : Pos} {e : Expr} {k' : Nat} {p' : Pos} : cAsg rec c (.Tuple es k p) e = cAsg rec c (.Tuple es k' p') e := rfl
theorem isTup_ok {e : Expr} {vs : List Expr} (h : isTup e = some vs) : ∃ k p, e = .Tuple vs k p := by
  unfold isTup at h
  split at h
  · cases h; exact ⟨_, _, rfl⟩
  · cases h
theorem isTup_no {e : Expr} (h : isTup e = none) : ∀ ts k p, e ≠ .Tuple ts k p := fun ts k p z => by subst z; cases h
theorem cAssign_ok {ts : List Expr} {e : Expr} {pos : Pos} {z : Cm} (hr : Snd rec) (hx : XOk c X kn F W) (h : cAssign rec c ts e = some z) : PS X (.Assign ts e pos) (liftS kn W fun σ S => evS z F σ S) := by
  unfold cAssign at h
  split at h
  · exact cFst_ok hr hx h
  · exact cAsgN_ok hr hx h
  · exact cSet_ok hr hx h
  · rename_i es k p
    split at h
    · rename_i hn
      exact cAsg_ok hr hx (ss_val (isTup_no hn)) ((cAsg_tup (k := k) (p := p)).trans h)
    · rename_i vs hv
      obtain ⟨k2, p2, rfl⟩ := isTup_ok hv
      split at h
      · rename_i hf
        exact cAsg_ok hr hx (ss_fold hf) ((cAsg_tup (k := k) (p := p)).trans h)
      · split at h
        · split at h
          · rename_i hcl
            rw [Bool.or_eq_true] at hcl
            exact cAsg_ok hr hx (ss_cell (hcl.imp (isCel_ok hx) (isCel_ok hx))) ((cAsg_tup (k := k) (p := p)).trans h)
          · exact cPar_ok hr hx h
        · cases h
  · cases h
def aoOf : Operator → Option BO
  | .Add => some .add
  | .Sub => some .sub
  | .Mult => some .mul
  | _ => none
def cAug (rec : Rec) (c : CC) (t : Expr) (op : Operator) (e : Expr) : Option Cm := match isNm t, aoOf op, rec c e with
  | some (x, _), some o, some y => (match ixOf x c.N with
    | some i => if isLoc c x = true then some (.aug i o y) else none
    | none => none)
  | _, _, _ => none
theorem isNm_ok {t : Expr} {x : Str} {p : Pos} (h : isNm t = some (x, p)) : t = .Name x p := by
  unfold isNm at h
  split at h
  · cases h; rfl
  · cases h
theorem cAug_ok {t e : Expr} {op : Operator} {pos : Pos} {z : Cm} (hr : Snd rec) (hx : XOk c X kn F W) (h : cAug rec c t op e = some z) : PS X (.AugAssign t op e pos) (liftS kn W fun σ S => evS z F σ S) := by
  unfold cAug at h
  split at h
  · rename_i x p o y h1 h2 h3
    have := isNm_ok h1
    subst this
    split at h
    · rename_i i hi
      split at h
      · rename_i hl
        cases h
        have ho : (o, op) ∈ [(BO.add, Operator.Add), (.sub, .Sub), (.mul, .Mult)] := by
          cases op <;> simp only [aoOf, Option.some.injEq, reduceCtorEq] at h2 <;> subst h2 <;> simp
        have lx := isLoc_ok hx hl
        exact q_aug ho hx.nd' (hx.ix hi).1 (.inl lx) (.inr lx) (hr _ _ _ h3 X kn W F hx).q.hv
      · cases h
    · cases h
  · cases h

/-! ### the other statements -/
def cIf (rec : Rec) (recS : RecS) (c : CC) (t : Expr) (a b : List Stmt) : Option Cm := match rec c t, cSs (recS c) a, cSs (recS c) b with
  | some x, some y, some z => some (.ite x y z)
  | _, _, _ => none
theorem cIf_ok {t : Expr} {a b : List Stmt} {pos : Pos} {z : Cm} (hr : Snd rec) (hs : SndS recS) (hx : SOk c X kn F W) (h : cIf rec recS c t a b = some z) : PS X (.If t a b pos) (liftS kn W fun σ S => evS z F σ S) := by
  unfold cIf at h
  split at h
  · rename_i x y z h1 h2 h3
    cases h
    exact q_if (hr _ _ _ h1 X kn W F hx.toXOk).q.ht (cSs_ok hs hx h2) (cSs_ok hs hx h3)
  · cases h
def cFor (rec : Rec) (recS : RecS) (c : CC) (t it : Expr) (b : List Stmt) : Option Cm := match c.calm, cI rec c t it, cT c 9 t, cSs (recS c) b with
  | true, some i, some g, some y => some (.for_ g i y)
  | _, _, _, _ => none
theorem cFor_ok {t it : Expr} {b : List Stmt} {pos : Pos} {z : Cm} (hr : Snd rec) (hs : SndS recS) (hx : SOk c X kn F W) (h : cFor rec recS c t it b = some z) : PS X (.For t it b [] pos) (liftS kn W fun σ S => evS z F σ S) := by
  unfold cFor at h
  split at h
  · rename_i i g y h0 h1 h2 h3
    cases h
    have q := cI_ok hr hx.toXOk h1
    exact q_for hx.hK (hx.pass h0) (hx.calm.trans h0) hx.nd' q.i (cT_ok hx.N hx.sc hx.fn h2) (cSs_ok hs hx h3) (q.s X.env)
  · cases h
def cWhl (rec : Rec) (recS : RecS) (c : CC) (t : Expr) (b : List Stmt) : Option Cm := match c.calm, rec c t, cSs (recS c) b with
  | true, some x, some y => some (.whl x y)
  | _, _, _ => none
theorem cWhl_ok {t : Expr} {b : List Stmt} {pos : Pos} {z : Cm} (hr : Snd rec) (hs : SndS recS) (hx : SOk c X kn F W) (h : cWhl rec recS c t b = some z) : PS X (.While t b [] pos) (liftS kn W fun σ S => evS z F σ S) := by
  unfold cWhl at h
  split at h
  · rename_i x y h0 h1 h2
    cases h
    exact q_whl F.fuel (hx.pass h0) (hr _ _ _ h1 X kn W F hx.toXOk).q.ht (cSs_ok hs hx h2)
  · cases h
def cRse (rec : Rec) (c : CC) (e : Expr) : Option Cm := match e with
  | .Call (.Name x _) [] [] _ => (match c.calm, isGlob c x, sgOf x c.sg with
    | true, true, some (.exc []) => some (.rse x .nil)
    | _, _, _ => none)
  | .Call (.Name x _) (e :: es) [] _ => (match c.calm, isGlob c x, sgOf x c.sg, cEs (rec c) (e :: es) with
    | true, true, some (.exc (f :: fs)), some as => if Nat.beq es.length fs.length = true then some (.rse x as) else none
    | _, _, _, _ => none)
  | _ => none
theorem cRse_ok {e : Expr} {pos : Pos} {z : Cm} (hr : Snd rec) (hx : SOk c X kn F W) (h : cRse rec c e = some z) : PS X (.Raise (some e) none pos) (liftS kn W fun σ S => evS z F σ S) := by
  unfold cRse at h
  split at h
  · split at h
    · rename_i h0 h1 h2
      cases h
      obtain ⟨hd, E, e1, e2, e3, e4⟩ := hx.sg _ _ h2
      exact q_rse0 (hx.calm.trans h0) hx.tk (e4 h0) (hx.gl h1) hd
    · cases h
  · split at h
    · rename_i h0 h1 h2 h3
      split at h
      · rename_i hl
        cases h
        obtain ⟨hd, E, e1, e2, e3, e4⟩ := hx.sg _ _ h2
        obtain ⟨e5, e6⟩ := e4 h0
        obtain ⟨q1, q2, q3⟩ := cEs_ok hr hx.toXOk h3
        have := Nat.eq_of_beq_eq_true hl
        exact q_rseA (hx.calm.trans h0) hx.tk e6 (hx.gl h1) hd q1 (by rw [e5, List.length_cons, ← this, ← List.length_cons]; exact q2) q3
      · cases h
    · cases h
  · cases h
def suCC (c : CC) : CC := { c with calm := false, suite := true }
def cHds (recS : RecS) (c : CC) : List ExceptHandler → Option Hds
  | [] => some .nil
  | .ExceptHandler (some (.Name y _)) o (s :: r) _ :: hs => (match isGlob c y, sgOf y c.sg, cSs (recS (suCC c)) (s :: r), cHds recS c hs with
    | true, some (.exc _), some g, some t => (match o with
      | none => some (.cons y none g t)
      | some n => (match isLoc c n, ixOf n c.N with
        | true, some i => some (.cons y (some i) g t)
        | _, _ => none))
    | _, _, _, _ => none)
  | _ => none
def cTry (recS : RecS) (c : CC) (b : List Stmt) (hs : List ExceptHandler) : Option Cm := match c.calm, hs, cSs (recS c) b, cHds recS c hs with
  | true, _ :: _, some f, some t => some (.try_ f t)
  | _, _, _, _ => none
theorem SOk.tr (hx : SOk c X kn F W) {W' : WX} {pn : List (Addr × Obj)} {xe : Value → Shared → Prop} (tk : Takes (X.tr pn xe) W') (pa : PassesOwn (model X.prog X.w) X.A X.env xe) (hc : c.calm = true) (hsu : c.suite = false) : SOk c (X.tr pn xe) kn F W' :=
  { hK := hx.hK
    N := hx.N
    nd := hx.nd
    nb := hx.nb
    sc := hx.sc
    fn := hx.fn
    calm := hx.calm
    kind := hx.kind
    tk := tk
    un := hx.un
    sg := fun x s h => by
      obtain ⟨h1, h2⟩ := hx.sg x s h
      refine ⟨h1, ?_⟩
      cases s with
      | fn ps po sh => exact fun hc => ⟨(h2 hc).ex⟩
      | exc fs =>
        obtain ⟨E, e1, e2, e3, e4⟩ := h2
        refine ⟨E, e1, e2, e3, fun hc => ?_⟩
        cases fs with
        | nil => exact ⟨(show ExK X kn _ from e4 hc).ex⟩
        | cons f fs => exact ⟨(e4 hc).1, ⟨(e4 hc).2.ex⟩⟩
      | blt => exact h2
      | «bif» b => exact h2
      | con d => exact h2
      | cls key ps => exact fun hc => ⟨(h2 hc).ex⟩
      | met cl m ps => exact ⟨h2.1, fun hc => ⟨(h2.2 hc).ex⟩⟩
      | hint cs => exact h2
      | fld f cs => exact h2
      | rep => exact h2
      | dic kvs => exact ⟨h2.ex⟩
    po := hx.po
    su := fun h => by rw [hsu] at h; cases h
    pass := fun _ => pa
    stk := hx.stk
    ec := hx.ec
    xn := hx.xn }
theorem SOk.suite (hx : SOk c X kn F W) {a : Addr} {oe : Obj} {cv : Value} {dx : Option Addr} {pn : List (Addr × Obj)} {x : Str} {fs : List D} (hz : Zc cv dx oe) (hv : ∃ vs, oe.data = .fields vs) :
    SOk (suCC c) (X.suite a ((a, oe) :: pn)) (kn.wec (some (a, x, fs, cv, dx))) { F with ec := some (x, fs) } noW :=
  { hK := hx.hK
    N := hx.N
    nd := hx.nd
    nb := hx.nb
    sc := hx.sc
    fn := hx.fn
    calm := rfl
    kind := hx.kind
    tk := takes0
    un := hx.un
    sg := fun x s h => by
      obtain ⟨h1, h2⟩ := hx.sg x s h
      refine ⟨h1, ?_⟩
      cases s with
      | fn ps po sh => exact fun hc => nomatch hc
      | exc fs =>
        obtain ⟨E, e1, e2, e3, e4⟩ := h2
        exact ⟨E, e1, e2, e3, fun hc => nomatch hc⟩
      | blt => exact h2
      | «bif» b => exact h2
      | con d =>
        obtain ⟨v, u, e1, e2, e3⟩ := h2
        exact ⟨v, u, e1, e2, fun ρ H => Rep.wec (e := kn.ec) (e3 ρ H)⟩
      | cls key ps => exact fun hc => nomatch hc
      | met cl m ps => exact ⟨h2.1, fun hc => nomatch hc⟩
      | hint cs => exact h2
      | fld f cs => exact h2
      | rep => exact ⟨h2.1, fun hc => nomatch hc⟩
      | dic kvs =>
        obtain ⟨d, es, n, e1, e2, e3⟩ := h2.ex
        exact ⟨d, es, n, e1, e2, fun z => let ⟨o, q1, v, q2, q3⟩ := e3 z; ⟨o, q1, v, q2, fun ρ H => Rep.wec (e := kn.ec) (q3 ρ H)⟩⟩
    po := ⟨hx.po.c, hx.po.f⟩
    su := fun _ => ⟨⟨X, a, oe, pn, x, fs, cv, dx, rfl, rfl, rfl, hz, hv⟩, ⟨hx.xn.2.kit, hx.xn.2.exc, hx.xn.2.xfc, hx.xn.2.nof, hx.xn.2.fns⟩⟩
    pass := fun h => nomatch h
    stk := fun h => nomatch h
    ec := fun h => nomatch h
    xn := ⟨hx.xn.1, ⟨hx.xn.2.kit, hx.xn.2.exc, hx.xn.2.xfc, hx.xn.2.nof, hx.xn.2.fns⟩⟩ }
theorem cHds_ok (hS : SndS recS) (hx : SOk c X kn F W) (h0 : c.calm = true) : ∀ {hs : List ExceptHandler} {t : Hds}, cHds recS c hs = some t → HdC X kn F hs t := by
  intro hs
  induction hs with
  | nil => intro t h; cases h; exact .nil
  | cons e hs ih =>
    intro t h
    unfold cHds at h
    split at h
    · rename_i e1; cases e1
    · rename_i y np o s r pos' hs' e1
      cases e1
      split at h
      · rename_i g t' h1 h2 h4 h5
        obtain ⟨hd, E, e1, e2, e3, e4⟩ := hx.sg _ _ h2
        have hq : ∀ (a : Addr) (oe : Obj) (cv : Value) (dx : Option Addr) (pn : List (Addr × Obj)) x fs, Zc cv dx oe → (∃ vs, oe.data = .fields vs) → PSs (X.suite a ((a, oe) :: pn)) (s :: r) (liftS (kn.wec (some (a, x, fs, cv, dx))) noW (fun σ S => evSs g { F with ec := some (x, fs) } σ S)) :=
          fun a oe cv dx pn x fs hz hv => cSs_ok hS (hx.suite hz hv) h4
        split at h
        · cases h
          exact .cons (n := "") (i := none) (fun j z => nomatch z) e1 e2 (hx.gl h1) hd e3 hq (ih h5)
        · rename_i n
          split at h
          · rename_i i l1 l2
            cases h
            exact .cons (n := n) (i := some i) (fun j z => by cases z; exact ⟨(hx.ix l2).1, isLoc_ok hx.toXOk l1⟩) e1 e2 (hx.gl h1) hd e3 hq (ih h5)
          · cases h
      · cases h
    · cases h
theorem cTry_ok {b : List Stmt} {hs : List ExceptHandler} {pos : Pos} {z : Cm} (hS : SndS recS) (hx : SOk c X kn F W) (hsu : c.suite = false) (h : cTry recS c b hs = some z) : PS X (.Try b hs [] [] pos) (liftS kn W fun σ S => evS z F σ S) := by
  unfold cTry at h
  split at h
  · rename_i f t h0 h3 h5
    cases h
    have hb : ∀ (W : WX) (pn : List (Addr × Obj)) (xe : Value → Shared → Prop), Takes (X.tr pn xe) W → PassesOwn (model X.prog X.w) X.A X.env xe → PSs (X.tr pn xe) b (liftS kn W fun σ S => evSs f F σ S) := fun W' pn xe tk pa => cSs_ok hS (hx.tr tk pa h0 hsu) h3
    obtain ⟨k1, k2⟩ := hx.stk h0
    exact q_tryM (hx.ec h0) k1 k2 hx.nd' hx.tk hx.xn.1 hb (cHds_ok hS hx h0 h5)
  · cases h
def capsOf (c : CC) (i : Nat) : List Pattern → Option (List (Str × Pos) × List Nat)
  | [] => some ([], [])
  | .MatchAs none (some n) p :: r => match kd n c.sc.names, c.fn n, ixOf n c.N, capsOf c i r with
    | some .local, true, some k, some q => if k = i then none else some ((n, p) :: q.1, k :: q.2)
    | _, _, _, _ => none
  | _ => none
theorem capsOf_ok {i : Nat} (hx : XOk c X kn F W) : ∀ {ps : List Pattern} {ns : List (Str × Pos)} {is : List Nat}, capsOf c i ps = some (ns, is) → ps = capP ns ∧ (∀ s ∈ is, s ≠ i) ∧ ns.length = is.length ∧ ∀ (j : Nat) (n : Str) (k : Nat), (ns.map (·.1))[j]? = some n → is[j]? = some k → X.N[k]? = some n ∧ Loc X.env.scope n ∧ X.fn n = true
  | [], _, _, h => by
    cases h
    exact ⟨rfl, fun s hs => by simp at hs, rfl, fun j n k e => by simp at e⟩
  | p :: r, ns, is, h => by
    unfold capsOf at h
    split at h
    · rename_i e
      cases e
    · rename_i n pp rr e
      cases e
      split at h
      · rename_i k q h1 h2 h3 h4
        split at h
        · cases h
        · rename_i hne
          cases h
          obtain ⟨a1, a2, a3, a4⟩ := capsOf_ok hx (ns := q.1) (is := q.2) h4
          refine ⟨by rw [a1]; rfl, fun s hs => ?_, by simp [a3], fun j n' k' e1 e2 => ?_⟩
          · rcases List.mem_cons.mp hs with rfl | hs
            · exact hne
            · exact a2 s hs
          · cases j with
            | zero =>
              have e1' : n = n' := by simpa using e1
              have e2' : k = k' := by simpa using e2
              subst e1'; subst e2'
              rw [kd_eq, ← hx.sc] at h1
              exact ⟨hx.N ▸ ixOf_get h3, .inl h1, hx.fn ▸ h2⟩
            | succ j => exact a4 j n' k' (by simpa using e1) (by simpa using e2)
      · cases h
    · cases h
def cCase (recS : RecS) (c : CC) (i : Nat) : MatchCase → Option (MC × Cms)
  | ⟨.MatchSequence (.MatchValue (.Constant (.str lit) j p1) p2 :: ps) p3, none, b⟩ => match capsOf c i ps, cSs (recS c) b with
    | some q, some bc => some (⟨lit, q.1, q.2, b, j, p1, p2, p3⟩, bc)
    | _, _ => none
  | _ => none
def cCases (recS : RecS) (c : CC) (i : Nat) : List MatchCase → Option (List (MC × Cms))
  | [] => some []
  | m :: r => match cCase recS c i m, cCases recS c i r with
    | some a, some b => some (a :: b)
    | _, _ => none
theorem cCases_ok {i : Nat} (hs : SndS recS) (hx : SOk c X kn F W) : ∀ {ms : List MatchCase} {cs : List (MC × Cms)}, cCases recS c i ms = some cs → ms = cs.map (fun c => c.1.case) ∧ ∀ c ∈ cs, PSs X c.1.body (liftS kn W fun σ S => evSs c.2 F σ S) ∧ (∀ s ∈ c.1.is, s ≠ i) ∧ c.1.ns.length = c.1.is.length ∧ ∀ (j : Nat) (n : Str) (k : Nat), (c.1.ns.map (·.1))[j]? = some n → c.1.is[j]? = some k → X.N[k]? = some n ∧ Loc X.env.scope n ∧ X.fn n = true
  | [], _, h => by cases h; exact ⟨rfl, fun c hc => by simp at hc⟩
  | m :: r, cs, h => by
    unfold cCases at h
    split at h
    · rename_i a b h1 h2
      cases h
      obtain ⟨a1, a2⟩ := cCases_ok hs hx h2
      unfold cCase at h1
      split at h1
      · rename_i lit j p1 p2 ps p3 bd
        split at h1
        · rename_i q bc h3 h4
          cases h1
          obtain ⟨b1, b2, b3, b4⟩ := capsOf_ok hx.toXOk (ns := q.1) (is := q.2) h3
          refine ⟨by rw [a1, b1]; rfl, fun d hd => ?_⟩
          rcases List.mem_cons.mp hd with rfl | hd
          · exact ⟨cSs_ok hs hx h4, b2, b3, b4⟩
          · exact a2 d hd
        · cases h1
      · cases h1
    · cases h
def cMat (rec : Rec) (recS : RecS) (c : CC) (sj : Expr) (ms : List MatchCase) : Option Cm := match c.calm, rec c sj with
  | true, some (.loc i) => (match cCases recS c i ms with
    | some (a :: b) => some (matC i ((a :: b).map fun c => (c.1.lit, c.1.is, c.2)))
    | _ => none)
  | _, _ => none
theorem cMat_ok {sj : Expr} {ms : List MatchCase} {pos : Pos} {z : Cm} (hr : Snd rec) (hs : SndS recS) (hx : SOk c X kn F W) (h : cMat rec recS c sj ms = some z) : PS X (.Match sj ms pos) (liftS kn W fun σ S => evS z F σ S) := by
  unfold cMat at h
  split at h
  · rename_i i h1 h2
    split at h
    · rename_i a b h3
      cases h
      obtain ⟨e, q⟩ := cCases_ok hs hx h3
      rw [e]
      exact q_mat hx.hK (hx.calm.trans h1) (hx.N ▸ hx.nd) (hr _ _ _ h2 X kn W F hx.toXOk).q.hv (by simp) q
    · cases h
  · cases h
def cExpr (rec : Rec) (c : CC) (e : Expr) : Option Cm := match isComp e, rec c e with
  | false, some x => some (.ex x)
  | _, _ => none
def cS1 (rec : Rec) (recS : RecS) (c : CC) (s : Stmt) : Option Cm := match s with
  | .Expr (.Constant (.str _) _ _) _ => some .pass
  | .Expr e _ => cExpr rec c e
  | .Assign ts e _ => cAssign rec c ts e
  | .AugAssign t op e _ => cAug rec c t op e
  | .If t a b _ => cIf rec recS c t a b
  | .For t it b [] _ => cFor rec recS c t it b
  | .While t b [] _ => cWhl rec recS c t b
  | .Return (some e) _ => (match rec c e with
    | some x => some (.ret x)
    | none => none)
  | .Return none _ => some .retN
  | .Pass _ => some .pass
  | .Break _ => some .brk
  | .Continue _ => some .cont
  | .Raise (some e) none _ => cRse rec c e
  | .Match sj ms _ => cMat rec recS c sj ms
  | .Try b hs [] [] _ => (match c.suite with
    | false => cTry recS c b hs
    | true => none)
  | _ => none
theorem cS1_ok (hr : Snd rec) (hS : SndS recS) : SndS (cS1 rec recS) := by
  intro c s z h X kn W F hx
  unfold cS1 at h
  split at h
  · cases h; exact q_doc
  · unfold cExpr at h
    split at h
    · rename_i x h1 h2
      cases h
      exact q_expr (hr _ _ _ h2 X kn W F hx.toXOk).q.hv (sw_plain h1)
    · cases h
  · exact cAssign_ok hr hx.toXOk h
  · exact cAug_ok hr hx.toXOk h
  · exact cIf_ok hr hS hx h
  · exact cFor_ok hr hS hx h
  · exact cWhl_ok hr hS hx h
  · split at h
    · rename_i x h1
      cases h
      exact q_ret (hr _ _ _ h1 X kn W F hx.toXOk).q.hv
    · cases h
  · cases h; exact q_retN
  · cases h; exact q_pass
  · cases h; exact q_brk
  · cases h; exact q_cont
  · exact cRse_ok hr hx h
  · exact cMat_ok hr hS hx h
  · split at h
    · rename_i hsu
      exact cTry_ok hS hx hsu h
    · cases h
  · cases h
def cS (rec : Rec) : Nat → RecS
  | 0 => fun _ _ => none
  | n + 1 => cS1 rec (cS rec n)
theorem cS_ok (hr : Snd rec) : ∀ n, SndS (cS rec n)
  | 0 => fun _ _ _ h => nomatch h
  | n + 1 => cS1_ok hr (cS_ok hr n)
/-- a whole body -/
def comp (c : CC) (b : List Stmt) : Option Cms := cSs (cS (cE 40) 20 c) b
theorem comp_ok {b : List Stmt} {as : Cms} (hx : SOk c X kn F W) (h : comp c b = some as) : PSs X b (liftS kn W fun σ S => evSs as F σ S) := cSs_ok (cS_ok (cE_ok 40) 20) hx h
end
end Kq
set_option Elab.async false
set_option linter.all false
set_option maxRecDepth 100000
set_option maxHeartbeats 2000000
set_option autoImplicit false
/-! # The Q layer, part O: a def keeps its promise -/
namespace Kq
open PySem PySem.Spec PyProof.Rows L2

/-! ### scopes are checked -/
def memB (x : Str) : List Str → Bool
  | [] => false
  | y :: r => sEq x y || memB x r
theorem memB_iff {x : Str} : ∀ {l : List Str}, memB x l = true ↔ x ∈ l
  | [] => by simp [memB]
  | y :: r => by unfold memB; rw [Bool.or_eq_true, sEq_iff, memB_iff, List.mem_cons]
def ndB : List Str → Bool
  | [] => true
  | x :: r => !memB x r && ndB r
theorem ndB_ok : ∀ {l : List Str}, ndB l = true → l.Nodup
  | [], _ => .nil
  | x :: r, h => by
    unfold ndB at h
    rw [Bool.and_eq_true, Bool.not_eq_true'] at h
    rw [List.nodup_cons]
    refine ⟨fun z => ?_, ndB_ok h.2⟩
    rw [memB_iff.mpr z] at h
    cases h.1
def preB : List Str → List Str → Bool
  | [], _ => true
  | x :: r, y :: s => sEq x y && preB r s
  | _ :: _, [] => false
theorem preB_ok : ∀ {p N : List Str}, preB p N = true → N.take p.length = p
  | [], _, _ => by simp
  | x :: r, y :: s, h => by
    unfold preB at h
    rw [Bool.and_eq_true] at h
    rw [List.length_cons, List.take_succ_cons, preB_ok h.2, sEq_iff.mp h.1]
  | _ :: _, [], h => by cases h
def locB (sc : Scope) (x : Str) : Bool := match kd x sc.names with
  | some .local => true
  | some .cell => true
  | _ => false
def freeB : List (Str × NameKind) → Bool
  | [] => true
  | (_, .free) :: _ => false
  | _ :: r => freeB r
theorem freeB_ok : ∀ {l : List (Str × NameKind)}, freeB l = true → ∀ y ∈ l, y.2 ≠ .free
  | [], _, _, h => nomatch h
  | (x, k) :: r, h, y, hy => by
    rcases List.mem_cons.mp hy with rfl | hy
    · intro e
      have : k = .free := e
      subst this
      cases h
    · refine freeB_ok (l := r) ?_ y hy
      cases k <;> first | exact h | cases h
def scopeB (N ps : List Str) (sc : Scope) : Bool :=
  (match sc.kind with | .function => true | _ => false) && !sc.isCoroutine && !sc.isGenerator && ndB N && preB ps N && ps.all (locB sc) && freeB sc.names && N.all fun x => !sEq x "__debug__" && !sEq x "__classdict__"
theorem scopeB_ok {N ps : List Str} {sc : Scope} (h : scopeB N ps sc = true) : FnScope N ps sc ∧ ∀ x ∈ N, (x == ("__debug__" : Str)) = false ∧ (x == ("__classdict__" : Str)) = false := by
  unfold scopeB at h
  simp only [Bool.and_eq_true, Bool.not_eq_true', List.all_eq_true] at h
  obtain ⟨⟨⟨⟨⟨⟨⟨h1, h2⟩, h3⟩, h4⟩, h5⟩, h6⟩, h7⟩, h8⟩ := h
  refine ⟨⟨?_, h2, h3, ndB_ok h4, preB_ok h5, fun x hx => ?_, freeB_ok h7⟩, fun x hx => ?_⟩
  · split at h1
    · assumption
    · cases h1
  · have := h6 x hx
    unfold locB at this
    rw [kd_eq] at this
    split at this
    · rename_i e; exact .inl e
    · rename_i e; exact .inr e
    · cases this
  · obtain ⟨a, b⟩ := h8 x hx
    have ne : ∀ {y : Str}, sEq x y = false → (x == y) = false := fun {y} z => by
      have : ¬x = y := fun e => by rw [sEq_iff.mpr e] at z; cases z
      simpa using this
    exact ⟨ne a, ne b⟩

/-! ### what is known of the module -/
structure Gv where
  P : Program
  w : World
  K : PySem.W.Frag
  mg : Str → Option Value
  base : Heap
def FnG (G : Gv) (kn : Kn) (lev : Nat) (x : Str) (ps : List Str) (po : Bool) (sh : List Shape) (g : List D → Sto → R D) : Prop :=
  ∃ (fa : Addr) (fd : FuncData), G.mg x = some (.ref fa) ∧ PySem.W.keepIn G.K (.ref fa) = true ∧ FnOk G.P G.w G.K G.mg G.base (L2.CX G.P G.w) lev fa fd ps (spOf kn ps g) ∧ (po = true → Binds G.K fd ps []) ∧ ∀ z ∈ sh, ShOk G.K fd ps z
theorem FnG.mono {G : Gv} {kn : Kn} {lev lev' : Nat} {x : Str} {ps : List Str} {po : Bool} {sh : List Shape} {g : List D → Sto → R D} (h : FnG G kn lev x ps po sh g) (hl : lev ≤ lev') : FnG G kn lev' x ps po sh g := by
  obtain ⟨fa, fd, h1, h2, h3, h4, h5⟩ := h
  exact ⟨fa, fd, h1, h2, h3.mono hl, h4, h5⟩
def ExG (G : Gv) (kn : Kn) (x : Str) : Prop := ∃ C, x ∈ kn.xn ∧ kn.cls x = some C ∧ G.mg x = some (.ref C) ∧ PySem.W.keepIn G.K (.ref C) = true ∧ PySem.W.excIn G.K C [.type "ValueError", .type "Exception", .type "BaseException", .type "object"] "ValueError.__new__" = true ∧
    PySem.W.subIn G.K (.ref C) (.type "BaseException") = some true ∧ PySem.W.typeIn G.K (.ref C) = some (.type "type")
/-- an own exception class with fields -/
def ExGI (G : Gv) (kn : Kn) (x : Str) (fs : List Str) : Prop := ∃ (C fI : Addr) (fd : FuncData) (ps : List Str), kn.fns x = fs ∧ x ∈ kn.xn ∧ kn.cls x = some C ∧ G.mg x = some (.ref C) ∧ OexC G.K C ∧ PySem.W.findIn G.K (.ref C) "__init__" = some (some (.ref fI)) ∧ PySem.W.typeIn G.K (.ref fI) = some (.type "function") ∧
    FnOk G.P G.w G.K G.mg G.base (L2.CX G.P G.w) 1 fI fd ps (spInit C (kn.fns x)) ∧ Binds G.K fd ps [] ∧ kn.fns x ≠ [] ∧ (kn.fns x).Nodup ∧ (kn.fns x).length ≤ 800
def ExGQ (G : Gv) (kn : Kn) (x : Str) : List Str → Prop
  | [] => ExG G kn x
  | f :: fs => ExGI G kn x (f :: fs)
def GF (G : Gv) (kn : Kn) (F : Wd) (lev : Nat) (x : Str) : Sg → Prop
  | .fn ps po sh => FnG G kn lev x ps po sh (F.fn x)
  | .exc fs => ExGQ G kn x fs
  | .blt => G.mg x = none
  | .bif b => G.mg x = some b.val ∧ ∃ id, b.val = .builtin id
  | .con d => ∃ v u, G.mg x = some u ∧ RelV v u ∧ ∀ ρ H, Rep kn ρ H d v
  | .cls key ps => ∃ (C f : Addr) (fd : FuncData), G.mg x = some (.ref C) ∧ x ∈ kn.pn ∧ kn.cls x = some C ∧ Mk G.K C f ∧ FnOk G.P G.w G.K G.mg G.base (L2.CX G.P G.w) lev f fd ps (spOf kn ps (F.fn key)) ∧ Binds G.K fd ps []
  | .met c m ps => ∃ (C f : Addr) (fd : FuncData), c ∈ kn.pn ∧ kn.cls c = some C ∧ Meth G.K C m f ∧ FnOk G.P G.w G.K G.mg G.base (L2.CX G.P G.w) lev f fd ps (spOf kn ps (F.fn x)) ∧ Binds G.K fd ps []
  | .hint _ => True
  | .fld f cs => ∀ c ∈ cs, (c, f) ∈ kn.pf
  | .rep => G.mg x = none
  | .dic kvs => ∃ (d : Addr) (es : Array DictEntry) (n : Nat), G.mg x = some (.ref d) ∧ KDict G.K G.w d es n ∧ ∀ z, ∃ o, PySem.W.nsIn G.K d z = some o ∧ ∃ v, RelV v (o.getD .none) ∧ ∀ ρ H, Rep kn ρ H (lkS z kvs) v
/-- repr is none of the names -/
def noRep : List (Str × Sg) → Bool
  | [] => true
  | (_, .rep) :: _ => false
  | _ :: r => noRep r
theorem noRep_ok {x : Str} : ∀ {l : List (Str × Sg)}, noRep l = true → sgOf x l ≠ some .rep
  | [], _, h => by cases h
  | (y, s) :: r, n, h => by
    unfold sgOf at h
    split at h
    · cases h; cases n
    · refine noRep_ok (l := r) ?_ h
      cases s <;> first | exact n | cases n
/-- every name of the list is what it is told to be -/
def GFs (G : Gv) (kn : Kn) (F : Wd) (lev : Nat) : List (Str × Sg) → Prop
  | [] => True
  | (x, s) :: r => (x == ("__debug__" : Str)) = false ∧ GF G kn F lev x s ∧ GFs G kn F lev r
theorem GFs.get {G : Gv} {kn : Kn} {F : Wd} {lev : Nat} {x : Str} {s : Sg} : ∀ {l : List (Str × Sg)}, GFs G kn F lev l → sgOf x l = some s → (x == ("__debug__" : Str)) = false ∧ GF G kn F lev x s
  | [], _, h => by cases h
  | (y, s') :: r, g, h => by
    unfold sgOf at h
    split at h
    · rename_i e
      cases h
      have := sEq_iff.mp e
      subst this
      exact ⟨g.1, g.2.1⟩
    · exact GFs.get g.2.2 h
structure XnG (G : Gv) (kn : Kn) (F : Wd) : Prop where
  hK : kn.K = G.K
  ec : kn.ec = none
  exm : ∀ x C y E, x ∈ kn.xn → kn.cls x = some C → y ∈ kn.xn → kn.cls y = some E → PySem.W.exmOne G.K (.ref C) (.ref E) = some (F.kin x y)
  xn : XnOk kn.K kn F.kin F.fld
  po : PnOk kn
def Wd.wf (F : Wd) (n : Nat) : Wd := { F with fuel := n }
theorem start_rep {kn : Kn} {ρ : List Addr} {H : Hp} {ds : List D} {vs : List V} {n : Nat} (r : Reps kn ρ H ds vs) (hec : kn.ec = none) : RepEnv kn ρ H (ds.map some ++ List.replicate (n - ds.length) none) (vs.map some ++ List.replicate (n - vs.length) none) := by
  have hl := r.length
  refine ⟨by simp [hl], fun i d hd => ?_, fun a x fs cv dx z => by rw [hec] at z; cases z⟩
  by_cases hi : i < ds.length
  · rw [List.getElem?_append_left (by simpa using hi)] at hd
    rw [List.getElem?_append_left (by rw [List.length_map, ← hl]; exact hi)]
    rw [List.getElem?_map, Option.map_eq_some_iff] at hd
    obtain ⟨d', h1, h2⟩ := hd
    cases h2
    obtain ⟨v, h3, h4⟩ := r.get h1
    exact ⟨v, by rw [List.getElem?_map, h3]; rfl, .inl h4⟩
  · rw [List.getElem?_append_right (by simpa using hi)] at hd
    have := List.mem_of_getElem? hd
    rw [List.mem_replicate] at this
    cases this.2
theorem body_ok {G : Gv} {kn : Kn} {F : Wd} {k : Nat} {x qual : Str} {params : Arguments} {body : List Stmt} {scope : Scope} {dvs : List V} {kws : List (Str × V)} {f : Addr} {fd : FuncData} {N ps : List Str} {sg : List (Str × Sg)} {code : Cms} {g : List D → Sto → R D}
    (FD : FunD G.K x qual params body scope dvs kws f fd) (hS : scopeB N ps scope = true) (hc : comp ⟨N, scope, fun _ => true, true, false, sg⟩ body = some code) (xg : XnG G kn F) (hk2 : 2 ≤ k) (hG : GFs G kn F k sg)
    (hg : ∀ ds S, ds.length = ps.length → g ds S ≠ .no → ∃ n, callD (F.wf n) N.length code ds S = g ds S)
    {cdv : Value} {A : Around} {outer : List Env} {s : Shared} {H : Hp} {vs : List V} {Q : VK} {E : XK} (room : Room (k + 1) (A.deeper (envOfC qual scope s.heap.objs.size f cdv))) (sp : spOf kn ps g vs H Q E) (gd : noRep sg = true ∨ A.guards = some []) :
    ∃ t, PSs (cxOf (L2.CX G.P G.w) G.P G.w G.K G.mg G.base N qual scope f cdv A outer s H E) body t ∧ t { nx := fun _ H' => Q .non H', rt := Q } (start N vs) H := by
  obtain ⟨S, nb⟩ := scopeB_ok hS
  obtain ⟨hl, ρ, ds, S0, rl, r, post⟩ := sp
  have hne : g ds S0 ≠ .no := fun z => by rw [z] at post; exact post
  obtain ⟨n, hn⟩ := hg ds S0 (by rw [r.length, hl]) hne
  let X := cxOf (L2.CX G.P G.w) G.P G.w G.K G.mg G.base N qual scope f cdv A outer s H E
  have tk : Takes X (fun cls d _ H => E cls d H) := takes_of rfl rfl rfl rfl
  have sok : SOk ⟨N, scope, fun _ => true, true, false, sg⟩ X kn (F.wf n) (fun cls d _ H => E cls d H) :=
    { hK := xg.hK
      N := rfl
      nd := S.nd
      nb := nb
      sc := rfl
      fn := rfl
      calm := rfl
      kind := S.kind
      tk := tk
      un := by
        have h1 : (A.deeper (envOfC qual scope s.heap.objs.size f cdv)).units + 16 * (k + 1) + 200 < cLine := room.un
        show (A.deeper (envOfC qual scope s.heap.objs.size f cdv)).units + 66 < cLine
        omega
      sg := fun x s h => by
        obtain ⟨h1, h2⟩ := hG.get h
        refine ⟨h1, ?_⟩
        cases s with
        | fn ps po sh =>
          intro _
          obtain ⟨fa, fd, a1, a2, a3, a4, a5⟩ := h2
          exact ⟨fa, fd, k, a1, a2, a3, Room.mono room (by omega), a4, a5⟩
        | exc fs =>
          cases fs with
          | nil =>
            obtain ⟨C, a0, a1, a2, a3, a4, a5, a6⟩ := h2
            exact ⟨C, a0, a1, a2, fun _ => ⟨C, a0, a1, a2, a3, a4, a5, a6⟩⟩
          | cons f fs =>
            obtain ⟨C, fI, fd, ps, b0, a0, a1, a2, a3, a4, a5, a6, a7, a8, a9, a10⟩ := h2
            exact ⟨C, a0, a1, a2, fun _ => ⟨b0, ⟨C, fI, fd, ps, 1, a0, a1, a2, a3, a4, a5, a6, Room.mono room (by omega), a7, a8, a9, a10⟩⟩⟩
        | blt => exact h2
        | «bif» b => exact h2
        | con d => exact h2
        | cls key ps =>
          intro _
          obtain ⟨C, f, fd, a1, a2, a3, a4, a5, a6⟩ := h2
          exact ⟨C, f, fd, k, a1, a2, a3, a4, a5, room, a6⟩
        | met c m ps =>
          obtain ⟨C, f, fd, a1, a2, a3, a4, a5⟩ := h2
          exact ⟨a1, fun _ => ⟨C, f, fd, k, a2, a3, a4, Room.mono room (by omega), a5⟩⟩
        | hint cs => exact trivial
        | fld f cs => exact h2
        | rep => exact ⟨h2, fun _ => gd.elim (fun n => absurd h (noRep_ok n)) fun g => g⟩
        | dic kvs => exact ⟨h2⟩
      po := xg.po
      su := fun h => nomatch h
      pass := fun _ => passes_of rfl
      stk := fun _ => ⟨rfl, rfl⟩
      ec := fun _ => xg.ec
      xn := ⟨xg.exm, xg.xn⟩ }
  refine ⟨_, comp_ok sok hc, ρ, ds.map some ++ List.replicate (N.length - ds.length) none, S0, rl, start_rep r xg.ec, ?_⟩
  have key : PostE kn (fun cv dx _ H' => E cv dx H') [] ρ H (callD (F.wf n) N.length code ds S0) Q := by rw [hn]; exact post
  unfold callD at key
  try dsimp only
  generalize evSs code (F.wf n) (ds.map some ++ List.replicate (N.length - ds.length) none) S0 = rs at key ⊢
  cases rs with
  | nx σ' S' => exact fun σ'' H' ρ' g rl re => key .non H' ρ' g rl .non
  | rt d S' => exact key
  | bk σ' S' => exact (show False from key).elim
  | ct σ' S' => exact (show False from key).elim
  | err y fs σ' S' => exact fun cv dx σ'' H' ρ' g rl re xr => key cv dx H' ρ' g rl xr
  | no => exact key
theorem def_ok {G : Gv} {kn : Kn} {F : Wd} {k : Nat} {x qual : Str} {params : Arguments} {body : List Stmt} {scope : Scope} {dvs : List V} {kws : List (Str × V)} {f : Addr} {fd : FuncData} {N ps : List Str} {sg : List (Str × Sg)} {code : Cms} {g : List D → Sto → R D}
    (FD : FunD G.K x qual params body scope dvs kws f fd) (hS : scopeB N ps scope = true) (hc : comp ⟨N, scope, fun _ => true, true, false, sg⟩ body = some code) (xg : XnG G kn F) (hk2 : 2 ≤ k) (hG : GFs G kn F k sg)
    (hg : ∀ ds S, ds.length = ps.length → g ds S ≠ .no → ∃ n, callD (F.wf n) N.length code ds S = g ds S)
    (hr : noRep sg = true) : FnOk G.P G.w G.K G.mg G.base (L2.CX G.P G.w) (k + 2) f fd ps (spOf kn ps g) :=
  FunD.ok FD (scopeB_ok hS).1 (fun vs H Q E h => h.1) fun cdv A outer s H vs Q E room sp => body_ok FD hS hc xg hk2 hG hg room sp (.inl hr)
/-- the law's own def, called where nothing is under way: there repr may be asked -/
theorem law_okQ {G : Gv} {kn : Kn} {F : Wd} {k : Nat} {x qual : Str} {params : Arguments} {body : List Stmt} {scope : Scope} {dvs : List V} {kws : List (Str × V)} {f : Addr} {fd : FuncData} {N ps : List Str} {sg : List (Str × Sg)} {code : Cms} {g : List D → Sto → R D}
    (FD : FunD G.K x qual params body scope dvs kws f fd) (hS : scopeB N ps scope = true) (hc : comp ⟨N, scope, fun _ => true, true, false, sg⟩ body = some code) (xg : XnG G kn F) (hk2 : 2 ≤ k) (hG : GFs G kn F k sg)
    (hg : ∀ ds S, ds.length = ps.length → g ds S ≠ .no → ∃ n, callD (F.wf n) N.length code ds S = g ds S)
    {s : Shared} {H : Hp} {args : Args} {us : List Value} {vs : List V} {Q : VK} {E : XK} (room : Room (k + 2) callerA) (e0 : Env0 G.P G.w G.K G.mg G.base callerA [] s H) (hb : BindsTo s fd args (ps.zip us)) (hv : Vals vs us) (sp : spOf kn ps g vs H Q E) :
    codeAny (model G.P G.w) callerA (.call (.ref f) args) (CR (L2.CX G.P G.w) [] G.P G.w H s Q E) s := by
  obtain ⟨S, nb⟩ := scopeB_ok hS
  obtain ⟨oc, od, dV, kV, doc, pm, an, cdv, ct, osl, e, lk, hcd, _, _⟩ := FD.ex
  subst e
  have hl : vs.length = ps.length := sp.1
  have hk : G.K.In s.heap := e0.mod.kin.keeps fun b o q => (e0.bs b o q).1
  have nl : s.heap.NoLimit := e0.mod.nolimit.keeps fun b o q => (e0.bs b o q).1
  have kinds : ∀ y ∈ ps.zip us, scope.names.lookup y.1 = some .local ∨ (scope.names.lookup y.1 = some .cell ∧ ((cellsFrom (s.heap.objs.size + 1) scope.names []).lookup y.1).isSome = true) := by
    rintro ⟨z, u⟩ hz
    exact (S.par z (List.of_mem_zip hz).1).imp id fun q => ⟨q, PySem.W.cellsFrom_some _ _ _ (.inl q)⟩
  refine codeAny_call_function room.depth (hk _ _ lk) rfl S.co S.gen rfl (PySem.W.codeRec_of hk hcd) (hb _ _ _ _ (wpAny_newFunctionEnv_cells S.kind kinds fun env ee s1 ic => ?_))
  subst ee
  refine ⟨nl.keeps ic.toInCall.keep, codeAny_func ?_⟩
  obtain ⟨t, ht, hq⟩ := body_ok FD hS hc xg hk2 hG hg (cdv := cdv) (A := callerA) (outer := []) (s := s) (H := H) (vs := vs) (Q := Q) (E := E) (room.deeper _) sp (.inr rfl)
  refine wpAny_mono (ht.run [] s1 (start N vs) H _ (inv_start S room.hd e0 hl hv ic) hq) (fun fl s' hs => ?_) fun _ _ hs => hs
  cases fl with
  | ret u => obtain ⟨v, σ', H', J, rv, q⟩ := hs; exact ⟨v, H', J.os, J.bare, J.base, J.hok, rv, q⟩
  | next => obtain ⟨σ', H', J, q⟩ := hs; exact ⟨.non, H', J.os, J.bare, J.base, J.hok, rfl, q⟩
  | brk => obtain ⟨_, _, _, q⟩ := hs; exact q.elim
  | cont => obtain ⟨_, _, _, q⟩ := hs; exact q.elim
/-- the promise of the law's own def, where nothing is under way -/
def LawOk (G : Gv) (kn : Kn) (lev : Nat) (f : Addr) (fd : FuncData) (ps : List Str) (g : List D → Sto → R D) : Prop :=
  ∀ (s : Shared) (H : Hp) (args : Args) (us : List Value) (vs : List V) (Q : VK) (E : XK), Room lev callerA → Env0 G.P G.w G.K G.mg G.base callerA [] s H → BindsTo s fd args (ps.zip us) → Vals vs us → spOf kn ps g vs H Q E →
    codeAny (model G.P G.w) callerA (.call (.ref f) args) (CR (L2.CX G.P G.w) [] G.P G.w H s Q E) s
end Kq
set_option Elab.async false
set_option linter.all false
set_option maxRecDepth 100000
set_option maxHeartbeats 2000000
set_option autoImplicit false
/-! # The Q layer, part P: what the head tells -/
namespace Kq
open PySem PySem.Spec PyProof.Rows L2

/-! ### forms of call -/
section
variable {K : PySem.W.Frag} {x qual : Str} {params : Arguments} {body : List Stmt} {scope : Scope} {dvs : List V} {kws : List (Str × V)} {f : Addr} {fd : FuncData} {ps : List Str} {z : Shape}
theorem sh0 (F : FunD K x qual params body scope [] kws f fd) (hf : z.dfl = []) (hl : z.arr.length = ps.length)
    (h : ∀ (kV doc pm : Value) (an : Option Addr) (cdv ct : Value) (us ws : List Value), us.length = z.n → ws.length = z.ks.length →
      bindArgs (PySem.W.fnOf x qual params body scope .none kV doc pm an cdv ct) ⟨us, z.ks.zip ws⟩ = pure (ps.zip (pickU z.arr (us ++ ws ++ [])))) : ShOk K fd ps z := by
  obtain ⟨oc, od, dV, kV, doc, pm, an, cdv, ct, osl, rfl, lk, hcd, hD, hK⟩ := F.ex
  rcases hD with ⟨_, rfl⟩ | ⟨e, _⟩
  · refine ⟨by rw [hf]; rfl, hl, [], by rw [hf]; exact .nil, fun s us ws X l1 l2 => .of_eq (h kV doc pm an cdv ct us ws l1 l2)⟩
  · exact absurd rfl e
theorem sh1 (F : FunD K x qual params body scope dvs kws f fd) (hd : dvs ≠ []) (hv : z.dfl.map conV = dvs) (hf : z.dfl.all flatD = true) (hl : z.arr.length = ps.length)
    (h : ∀ (T : Addr) (kV doc pm : Value) (an : Option Addr) (cdv ct : Value) (us ws its : List Value), us.length = z.n → ws.length = z.ks.length → its.length = dvs.length →
      ∃ k, bindArgs (PySem.W.fnOf x qual params body scope (.ref T) kV doc pm an cdv ct) ⟨us, z.ks.zip ws⟩ = seqItems? (.ref T) >>= k ∧ k (some its.toArray) = pure (ps.zip (pickU z.arr (us ++ ws ++ its)))) : ShOk K fd ps z := by
  obtain ⟨oc, od, dV, kV, doc, pm, an, cdv, ct, osl, rfl, lk, hcd, hD, hK⟩ := F.ex
  rcases hD with ⟨e, _⟩ | ⟨_, T, o, its, m, rfl, lT, oT, rT⟩
  · exact absurd e hd
  · refine ⟨hf, hl, its, by rw [hv]; exact rT, fun s us ws X l1 l2 => ?_⟩
    obtain ⟨k, e1, e2⟩ := h T kV doc pm an cdv ct us ws its l1 l2 rT.length.symm
    refine BindsTo.of_looks fun M => ?_
    rw [e1]
    exact looks_items X lT oT (.of_pure e2)
theorem sh2 (F : FunD K x qual params body scope [] kws f fd) (ms : List (Str × V)) (hk : kws ≠ []) (hms : ∀ q ∈ ms, q ∈ kws) (hv : z.dfl.map conV = ms.map (·.2)) (hf : z.dfl.all flatD = true) (hl : z.arr.length = ps.length)
    (h : ∀ (D : Addr) (doc pm : Value) (an : Option Addr) (cdv ct : Value) (us ws mv : List Value), us.length = z.n → ws.length = z.ks.length → mv.length = ms.length →
      KwChain D ((ms.map (·.1)).zip mv) (bindArgs (PySem.W.fnOf x qual params body scope .none (.ref D) doc pm an cdv ct) ⟨us, z.ks.zip ws⟩) (ps.zip (pickU z.arr (us ++ ws ++ mv)))) : ShOk K fd ps z := by
  obtain ⟨oc, od, dV, kV, doc, pm, an, cdv, ct, osl, rfl, lk, hcd, hD, hK⟩ := F.ex
  rcases hD with ⟨_, rfl⟩ | ⟨e, _⟩
  · rcases hK with e | ⟨D, rfl, hq⟩
    · exact absurd e hk
    · obtain ⟨mv, hl2, rk, hks⟩ := kwd_vals (ms := ms) fun q hm => hq q (hms q hm)
      refine ⟨hf, hl, mv, by rw [hv]; exact rk, fun s us ws X l1 l2 => ?_⟩
      exact BindsTo.of_looks fun M => KwChain.looks X hks (h D doc pm an cdv ct us ws mv l1 l2 hl2)
  · exact absurd rfl e
/-- all parameters are written -/
theorem bnd1 (F : FunD K x qual params body scope dvs kws f fd) (hd : dvs ≠ [])
    (h : ∀ (T : Addr) (kV doc pm : Value) (an : Option Addr) (cdv ct : Value) (us its : List Value), us.length = ps.length → its.length = dvs.length →
      ∃ k, bindArgs (PySem.W.fnOf x qual params body scope (.ref T) kV doc pm an cdv ct) ⟨us, []⟩ = seqItems? (.ref T) >>= k ∧ k (some its.toArray) = pure (ps.zip us)) : Binds K fd ps [] := by
  obtain ⟨oc, od, dV, kV, doc, pm, an, cdv, ct, osl, rfl, lk, hcd, hD, hK⟩ := F.ex
  rcases hD with ⟨e, _⟩ | ⟨_, T, o, its, m, rfl, lT, oT, rT⟩
  · exact absurd e hd
  · intro s us X hl
    rw [List.append_nil] at hl ⊢
    obtain ⟨k, e1, e2⟩ := h T kV doc pm an cdv ct us its hl rT.length.symm
    refine BindsTo.of_looks fun M => ?_
    rw [e1]
    exact looks_items X lT oT (.of_pure e2)
end

/-! ### facts as a Bool of K -/
def excCB (K : PySem.W.Frag) (D : Addr) : Bool :=
  decide (PySem.W.findIn K (.ref D) "__getattribute__" = some (some (.builtin "BaseException.__getattribute__"))) && decide (PySem.W.findIn K (.ref D) "__getattr__" = some none) && decide (PySem.W.subIn K (.ref D) (.type "BaseException") = some true) && PySem.W.hasDictIn K D &&
  decide (PySem.W.findIn K (.ref D) "__class__" = some (some (.builtin "object.__class__"))) && decide (PySem.W.specialIn K (.builtin "object.__class__") "__get__" = some (some (.builtin "getset_descriptor.__get__"))) && decide (PySem.W.takesIn K (.builtin "object.__class__") = some true) && decide (PySem.W.mroIn K D (.type "object") = some true)
theorem excCB_ok {K : PySem.W.Frag} {D : Addr} (h : excCB K D = true) : ExcC K D := by
  unfold excCB at h
  simp only [Bool.and_eq_true, decide_eq_true_eq] at h
  obtain ⟨⟨⟨⟨⟨⟨⟨h1, h2⟩, h3⟩, h4⟩, h5⟩, h6⟩, h7⟩, h8⟩ := h
  exact ⟨h1, h2, h3, h4, h5, h6, h7, h8⟩
/-- one exception class: its name, is it without an __init__, its fields -/
structure Xd where
  x : Str
  plain : Bool
  fs : List Str
  anc : List Str
def xdOf (x : Str) : List Xd → Option Xd
  | [] => none
  | d :: r => if sEq x d.x = true then some d else xdOf x r
def kinX (l : List Xd) (x y : Str) : Bool := match xdOf x l with
  | some d => memB y d.anc
  | none => false
def fnsX (l : List Xd) (x : Str) : List Str := match xdOf x l with
  | some d => d.fs
  | none => []
/-- the classes: all, those that are made (no exceptions), their fields -/
structure Cz where
  c : List Str
  pn : List Str
  pf : List (Str × Str)
def knX (K : PySem.W.Frag) (l : List Xd) (cls : Cz) : Kn := ⟨K, fun x => if memB x cls.c = true then some (He.ga K x) else none, fnsX l, l.map (·.x), cls.pn, cls.pf, none⟩
def pnB (K : PySem.W.Frag) (cls : Cz) : Bool := cls.pn.all (fun c => (He.Fa.cls c).ok K) && cls.pf.all fun q => (He.Fa.noat q.1 q.2).ok K
def xdB (K : PySem.W.Frag) (l : List Xd) (d : Xd) : Bool :=
  excCB K (He.ga K d.x) && xfB K (He.ga K d.x) && (fnsX l d.x).all (fun f => decide (PySem.W.findIn K (.ref (He.ga K d.x)) f = some none)) &&
  l.all fun e => decide (PySem.W.exmOne K (.ref (He.ga K d.x)) (.ref (He.ga K e.x)) = some (kinX l d.x e.x)) && decide (PySem.W.kitOne K (.ref (He.ga K d.x)) (.ref (He.ga K e.x)) = some (kinX l d.x e.x))
theorem knX_cls {K : PySem.W.Frag} {l : List Xd} {cls : Cz} {x : Str} {C : Addr} (h : (knX K l cls).cls x = some C) : C = He.ga K x := by
  have h' : (if memB x cls.c = true then some (He.ga K x) else none) = some C := h
  split at h'
  · cases h'; rfl
  · cases h'
theorem xnG_of {G : Gv} {F : Wd} {l : List Xd} {cls : Cz} (h : l.all (xdB G.K l) = true) (hp : pnB G.K cls = true) (hk : F.kin = kinX l) (hf : F.fld = fnsX l) : XnG G (knX G.K l cls) F := by
  rw [List.all_eq_true] at h
  have g : ∀ x, x ∈ (knX G.K l cls).xn → ∃ d ∈ l, d.x = x := fun x hx => by
    obtain ⟨d, h1, h2⟩ := List.mem_map.mp hx
    exact ⟨d, h1, h2⟩
  refine ⟨rfl, rfl, fun x C y E hx hC hy hE => ?_, ⟨fun x C y E hx hC hy hE => ?_, fun x C hx hC => ?_, fun x C hx hC => ?_, fun x C f hx hC hf' => ?_, fun x => by rw [hf]; rfl⟩, ?po⟩
  case po =>
    unfold pnB at hp
    simp only [Bool.and_eq_true, List.all_eq_true] at hp
    refine ⟨fun c C hc hC => ?_, fun c C f hc hC => ?_⟩
    · have := knX_cls hC
      subst this
      exact He.cls_ok (hp.1 c hc)
    · have := knX_cls hC
      subst this
      exact He.noat_ok (hp.2 _ hc)
  all_goals
    obtain ⟨d, h1, rfl⟩ := g x hx
    have q := h d h1
    unfold xdB at q
    simp only [Bool.and_eq_true, List.all_eq_true, decide_eq_true_eq] at q
    obtain ⟨⟨⟨q1, q2⟩, q3⟩, q4⟩ := q
    have := knX_cls hC
    subst this
  · obtain ⟨e, h2, rfl⟩ := g y hy
    have := knX_cls hE
    subst this
    rw [hk]
    exact (q4 e h2).1
  · obtain ⟨e, h2, rfl⟩ := g y hy
    have := knX_cls hE
    subst this
    rw [hk]
    exact (q4 e h2).2
  · exact excCB_ok q1
  · exact xfB_ok q2
  · exact q3 f hf'
mutual
/-- a constant of the module -/
def conB (K : PySem.W.Frag) : D → Value → Bool
  | .non, u => He.relB .non u
  | .bl b, u => He.relB (.bl b) u
  | .int i, u => He.relB (.int i) u
  | .str x, u => He.relB (.str x) u
  | .tup ds, .ref a => match K.lookup a with
    | some ⟨c, _, .seq its _, _⟩ => decide (c = .type "tuple") && Nat.ble its.size 1000 && conBs K ds its.toList
    | _ => false
  | _, _ => false
def conBs (K : PySem.W.Frag) : List D → List Value → Bool
  | [], [] => true
  | d :: r, u :: us => conB K d u && conBs K r us
  | [], _ :: _ => false
  | _ :: _, [] => false
end
mutual
theorem conB_ok {kn : Kn} : ∀ (d : D) (u : Value), conB kn.K d u = true → ∃ v, RelV v u ∧ ∀ ρ H, Rep kn ρ H d v
  | .non, u, h => ⟨.non, He.relB_ok (by unfold conB at h; exact h), fun _ _ => .non⟩
  | .bl b, u, h => ⟨.bl b, He.relB_ok (by unfold conB at h; exact h), fun _ _ => .bl⟩
  | .int i, u, h => ⟨.int i, He.relB_ok (by unfold conB at h; exact h), fun _ _ => .int⟩
  | .str x, u, h => ⟨.str x, He.relB_ok (by unfold conB at h; exact h), fun _ _ => .str⟩
  | .tup ds, u, h => by
    unfold conB at h
    split at h
    · cases ‹_ = D.non›
    · cases ‹_ = D.bl _›
    · cases ‹_ = D.int _›
    · cases ‹_ = D.str _›
    · rename_i es a e
      cases e
      split at h
      · rename_i c dx its n sl hl
        simp only [Bool.and_eq_true, decide_eq_true_eq] at h
        obtain ⟨⟨h1, h2⟩, h3⟩ := h
        obtain ⟨vs, r1, r2⟩ := conBs_ok ds its.toList h3
        have h2' := Nat.le_of_ble_eq_true h2
        exact ⟨.ref a, rfl, fun ρ H => .tup (.inr ⟨_, its, n, hl, h1, rfl, by rw [sizeLine_eq]; omega, r1⟩) (r2 ρ H)⟩
      · cases h
    · cases h
  | .ref n, u, h => by unfold conB at h; cases u <;> cases h
  | .exc, u, h => by unfold conB at h; cases u <;> cases h
theorem conBs_ok {kn : Kn} : ∀ (ds : List D) (us : List Value), conBs kn.K ds us = true → ∃ vs, Vals vs us ∧ ∀ ρ H, Reps kn ρ H ds vs
  | [], [], _ => ⟨[], .nil, fun _ _ => .nil⟩
  | d :: r, u :: us, h => by
    unfold conBs at h
    rw [Bool.and_eq_true] at h
    obtain ⟨v, a1, a2⟩ := conB_ok d u h.1
    obtain ⟨vs, b1, b2⟩ := conBs_ok r us h.2
    exact ⟨v :: vs, .cons a1 b1, fun ρ H => .cons (a2 ρ H) (b2 ρ H)⟩
  | [], _ :: _, h => by cases h
  | _ :: _, [], h => by cases h
end
/-- what raise asks of an own exception class with fields -/
def oexB (K : PySem.W.Frag) (C : Addr) : Bool := (match K.lookup C with
  | some ⟨.type "type", _, .cls ⟨_, _, .ref C' :: bm, _, _, true, _, _, _, _, false⟩, sl⟩ => (match sl.toList with
    | [_, _, _, _, some (.builtin n), _] => C' == C && n == "ValueError.__new__" && PySem.HandSPX.refsVE bm
    | _ => false)
  | _ => false) && decide (PySem.W.findIn K (.ref C) "__setattr__" = some (some (.builtin "object.__setattr__"))) && decide (PySem.W.subIn K (.ref C) (.type "BaseException") = some true) && decide (PySem.W.typeIn K (.ref C) = some (.type "type")) && PySem.W.keepIn K (.ref C)
theorem oexB_ok {K : PySem.W.Frag} {C : Addr} (h : oexB K C = true) : OexC K C := by
  unfold oexB at h
  simp only [Bool.and_eq_true, decide_eq_true_eq] at h
  obtain ⟨⟨⟨⟨h1, h2⟩, h3⟩, h4⟩, h5⟩ := h
  refine ⟨?_, h2, h3, h4, h5⟩
  split at h1
  · rename_i dd nm bs C' bm ns qn sn sub ab col sl ho
    split at h1
    · rename_i k0 k1 k2 k3 n k5 hs
      simp only [Bool.and_eq_true, beq_iff_eq] at h1
      obtain ⟨⟨rfl, rfl⟩, hr⟩ := h1
      have hsl : sl = #[k0, k1, k2, k3, some (.builtin "ValueError.__new__"), k5] := by
        obtain ⟨l⟩ := sl
        simp only at hs
        rw [hs]
      subst hsl
      exact ⟨_, _, _, _, _, _, _, _, _, _, _, _, _, _, _, ho, hr⟩
    · cases h1
  · cases h1
def iniB (K : PySem.W.Frag) (C : Addr) : Bool := decide (PySem.W.findIn K (.ref C) "__init__" = some (some (.ref (He.ma K C "__init__")))) && decide (PySem.W.typeIn K (.ref (He.ma K C "__init__")) = some (.type "function"))
/-- a statement of a class -/
def mthStmt (s : Stmt) (j : Nat) : Stmt := match s with
  | .ClassDef _ _ _ b _ _ _ _ _ _ _ => b.getD j (.Pass ⟨0, 0, 0, 0⟩)
  | _ => .Pass ⟨0, 0, 0, 0⟩
/-- an exception class with fields, its __init__ not yet told -/
def ExGP (G : Gv) (kn : Kn) (x : Str) (fs : List Str) : Prop := kn.fns x = fs ∧ x ∈ kn.xn ∧ kn.cls x = some (He.ga G.K x) ∧ G.mg x = some (.ref (He.ga G.K x)) ∧ OexC G.K (He.ga G.K x) ∧ PySem.W.findIn G.K (.ref (He.ga G.K x)) "__init__" = some (some (.ref (He.ma G.K (He.ga G.K x) "__init__"))) ∧
  PySem.W.typeIn G.K (.ref (He.ma G.K (He.ga G.K x) "__init__")) = some (.type "function")
/-- with its __init__ -/
theorem ExGP.full {G : Gv} {F : Wd} {kn : Kn} {x : Str} {f0 : Str} {fs : List Str} {name qual : Str} {params : Arguments} {body : List Stmt} {scope : Scope} {fd : FuncData} {N : List Str} (h : ExGP G kn x (f0 :: fs)) (xg : XnG G kn F)
    (FD : FunD G.K name qual params body scope [] [] (He.ma G.K (He.ga G.K x) "__init__") fd) (hS : scopeB N N scope = true) (hb : (match isInit N 1 body with | some l => strsEq l (f0 :: fs) | none => false) = true) (hl : Nat.beq N.length (fs.length + 2) = true) (hn : ndB (f0 :: fs) = true) (h8 : Nat.ble (fs.length + 1) 800 = true) (hB : Binds G.K fd N []) (lev : Nat) (F' : Wd) : GF G kn F' lev x (.exc (f0 :: fs)) := by
  obtain ⟨h1, h2, h3, h4, h5, h6, h7⟩ := h
  obtain ⟨S, nb⟩ := scopeB_ok hS
  refine ⟨_, _, fd, N, h1, h2, h3, h4, h5, h6, h7, ?_, hB, by rw [h1]; simp, by rw [h1]; exact ndB_ok hn, by rw [h1]; exact Nat.le_of_ble_eq_true h8⟩
  rw [h1]
  split at hb
  · rename_i l e
    have := strsEq_iff hb
    subst this
    exact init_ok FD S nb e (by simp) (by have := Nat.eq_of_beq_eq_true hl; simpa using this) (Nat.le_of_ble_eq_true h8) h5 fun f hf => by
      have := xg.xn.nof x _ f h2 h3 (by rw [h1]; exact hf)
      rw [xg.hK] at this
      exact this
  · cases hb
/-- a written table: its keys and values, in order -/
def dkB (K : PySem.W.Frag) : List DictEntry → List (Str × D) → Bool
  | [], [] => true
  | e :: r, q :: s => (match e.key with
    | .str x _ => sEq x q.1
    | _ => false) && conB K q.2 e.val && dkB K r s
  | [], _ :: _ => false
  | _ :: _, [] => false
theorem dkB_ok {kn : Kn} {z : Str} : ∀ (es : List DictEntry) (kvs : List (Str × D)), dkB kn.K es kvs = true →
    ∃ o, (match es.find? (·.key.isStr z) with
      | some e => some (some e.val)
      | none => if es.any (·.refKey) then none else some none) = some o ∧ ∃ v, RelV v (o.getD .none) ∧ ∀ ρ H, Rep kn ρ H (lkS z kvs) v
  | [], [], _ => ⟨none, rfl, .non, rfl, fun _ _ => .non⟩
  | e :: r, q :: s, h => by
    unfold dkB at h
    rw [Bool.and_eq_true, Bool.and_eq_true] at h
    obtain ⟨⟨h1, h2⟩, h3⟩ := h
    split at h1
    · rename_i x t hk
      have ex := sEq_iff.mp h1
      by_cases hz : x = z
      · have e1 : e.key.isStr z = true := by rw [hk, hz]; simp [Value.isStr]
        rw [List.find?_cons_of_pos (p := fun x : DictEntry => x.key.isStr z) e1]
        obtain ⟨v, v1, v2⟩ := conB_ok (kn := kn) q.2 e.val h2
        refine ⟨_, rfl, v, v1, fun ρ H => ?_⟩
        obtain ⟨qk, qd⟩ := q
        unfold lkS
        rw [lEqB_eq, if_pos (by show sEq z qk = true; rw [sEq_iff, ← hz]; exact ex)]
        exact v2 ρ H
      · have e1 : ¬ e.key.isStr z = true := by rw [hk]; simpa [Value.isStr] using hz
        have e2 : e.refKey = false := by unfold DictEntry.refKey; rw [hk]
        rw [List.find?_cons_of_neg (p := fun x : DictEntry => x.key.isStr z) e1, List.any_cons, e2, Bool.false_or]
        obtain ⟨o, o1, v, o2, o3⟩ := dkB_ok (z := z) r s h3
        refine ⟨o, o1, v, o2, fun ρ H => ?_⟩
        obtain ⟨qk, qd⟩ := q
        unfold lkS
        rw [lEqB_eq, if_neg (by show ¬ sEq z qk = true; rw [sEq_iff]; exact fun w => hz (ex.trans w.symm))]
        exact o3 ρ H
    · cases h1
  | [], _ :: _, h => by cases h
  | _ :: _, [], h => by cases h
/-- a written table, but for the world's word -/
def DicP (G : Gv) (kn : Kn) (x : Str) (kvs : List (Str × D)) : Prop :=
  G.mg x = some (.ref (He.ga G.K x)) ∧ ∀ z, ∃ o, PySem.W.nsIn G.K (He.ga G.K x) z = some o ∧ ∃ v, RelV v (o.getD .none) ∧ ∀ ρ H, Rep kn ρ H (lkS z kvs) v
theorem DicP.full {G : Gv} {kn : Kn} {F : Wd} {lev : Nat} {x : Str} {kvs : List (Str × D)} (h : DicP G kn x kvs) (t : ∃ es n, KDict G.K G.w (He.ga G.K x) es n) : GF G kn F lev x (.dic kvs) := by
  obtain ⟨es, n, D⟩ := t
  exact ⟨_, es, n, h.1, D, h.2⟩
/-- a global name -/
def gvB (K : PySem.W.Frag) (l : List Xd) (cls : Cz) (p : Str × Sg) : Bool := !sEq p.1 "__debug__" && match p.2 with
  | .blt => He.eqO (PySem.W.nsIn K mainGlobals p.1) (some none)
  | .bif b => He.eqO (PySem.W.nsIn K mainGlobals p.1) (some (some b.val)) && (match b.val with
    | .builtin _ => true
    | _ => false)
  | .con d => (match PySem.W.nsIn K mainGlobals p.1 with
    | some (some u) => conB K d u
    | _ => false)
  | .exc fs => He.eqO (PySem.W.nsIn K mainGlobals p.1) (some (some (.ref (He.ga K p.1)))) && memB p.1 (l.map (·.x)) && memB p.1 cls.c && (match fs with
    | [] => (He.Fa.exc p.1).ok K
    | _ :: _ => oexB K (He.ga K p.1) && iniB K (He.ga K p.1) && strsEq (fnsX l p.1) fs)
  | .fn _ _ _ => He.eqO (PySem.W.nsIn K mainGlobals p.1) (some (some (.ref (He.ga K p.1))))
  | .cls _ _ => He.eqO (PySem.W.nsIn K mainGlobals p.1) (some (some (.ref (He.ga K p.1)))) && memB p.1 cls.pn && memB p.1 cls.c && (He.Fa.mkr p.1).ok K
  | .met c m _ => memB c cls.pn && memB c cls.c && (He.Fa.meth c m).ok K
  | .hint _ => true
  | .fld f cs => (cs.all fun c => cls.pf.any fun q => sEq c q.1 && sEq f q.2)
  | .rep => He.eqO (PySem.W.nsIn K mainGlobals p.1) (some none)
  | .dic kvs => He.eqO (PySem.W.nsIn K mainGlobals p.1) (some (some (.ref (He.ga K p.1)))) && (match K.lookup (He.ga K p.1) with
    | some ⟨_, _, .dict es _, _⟩ => dkB K es.toList kvs
    | _ => false)
theorem gv_ok {G : Gv} {F : Wd} {l : List Xd} {cls : Cz} {lev : Nat} {h : Heap} (X : G.K.In h) (N : h.Ns mainGlobals G.mg) {x : Str} {s : Sg} (c : gvB G.K l cls (x, s) = true) :
    (x == ("__debug__" : Str)) = false ∧ match s with
      | .fn _ _ _ => G.mg x = some (.ref (He.ga G.K x))
      | .cls _ _ => G.mg x = some (.ref (He.ga G.K x)) ∧ x ∈ cls.pn ∧ (knX G.K l cls).cls x = some (He.ga G.K x) ∧ Mk G.K (He.ga G.K x) (He.ma G.K (He.ga G.K x) "__init__")
      | .met c m _ => c ∈ cls.pn ∧ (knX G.K l cls).cls c = some (He.ga G.K c) ∧ Meth G.K (He.ga G.K c) m (He.ma G.K (He.ga G.K c) m)
      | .exc (f :: fs) => ExGP G (knX G.K l cls) x (f :: fs)
      | .dic kvs => DicP G (knX G.K l cls) x kvs
      | s => GF G (knX G.K l cls) F lev x s := by
  unfold gvB at c
  rw [Bool.and_eq_true, Bool.not_eq_true'] at c
  obtain ⟨c0, c⟩ := c
  refine ⟨?_, ?_⟩
  · have : ¬x = "__debug__" := fun e => by rw [sEq_iff.mpr e] at c0; cases c0
    simpa using this
  · cases s with
    | blt => exact PySem.W.mg_none_of X N (He.eqO_ok c)
    | «bif» b =>
      simp only [Bool.and_eq_true] at c
      refine ⟨PySem.W.mg_of X N (He.eqO_ok c.1), ?_⟩
      have c2 := c.2
      split at c2
      · rename_i id e; exact ⟨id, e⟩
      · cases c2
    | con d =>
      have c2 := c
      simp only at c2
      split at c2
      · rename_i u e
        obtain ⟨v, r1, r2⟩ := conB_ok (kn := knX G.K l cls) d u c2
        exact ⟨v, u, PySem.W.mg_of X N e, r1, r2⟩
      · cases c2
    | exc fs =>
      cases fs with
      | nil =>
        simp only [Bool.and_eq_true] at c
        obtain ⟨⟨⟨c1, c3⟩, c4⟩, c2⟩ := c
        obtain ⟨e1, e2, e3, e4⟩ := He.exc_ok c2
        refine ⟨He.ga G.K x, memB_iff.mp c3, ?_, PySem.W.mg_of X N (He.eqO_ok c1), e2, e1, e3, e4⟩
        show (if memB x cls.c = true then some (He.ga G.K x) else none) = _
        rw [if_pos c4]
      | cons f fs =>
        simp only [Bool.and_eq_true] at c
        obtain ⟨⟨⟨c1, c3⟩, c4⟩, ⟨c5, c6⟩, c7⟩ := c
        unfold iniB at c6
        simp only [Bool.and_eq_true, decide_eq_true_eq] at c6
        refine ⟨strsEq_iff c7, memB_iff.mp c3, ?_, PySem.W.mg_of X N (He.eqO_ok c1), oexB_ok c5, c6.1, c6.2⟩
        show (if memB x cls.c = true then some (He.ga G.K x) else none) = _
        rw [if_pos c4]
    | fn ps po sh => exact PySem.W.mg_of X N (He.eqO_ok c)
    | cls key ps =>
      simp only [Bool.and_eq_true] at c
      obtain ⟨⟨⟨c1, c2⟩, c3⟩, c4⟩ := c
      refine ⟨PySem.W.mg_of X N (He.eqO_ok c1), memB_iff.mp c2, ?_, He.mkr_ok c4⟩
      show (if memB x cls.c = true then some (He.ga G.K x) else none) = _
      rw [if_pos c3]
    | met cl m ps =>
      simp only [Bool.and_eq_true] at c
      obtain ⟨⟨c2, c3⟩, c4⟩ := c
      refine ⟨memB_iff.mp c2, ?_, He.meth_ok c4⟩
      show (if memB cl cls.c = true then some (He.ga G.K cl) else none) = _
      rw [if_pos c3]
    | hint cs => exact trivial
    | fld f cs =>
      simp only [List.all_eq_true, List.any_eq_true, Bool.and_eq_true] at c
      intro z hz
      obtain ⟨q, h1, h2, h3⟩ := c z hz
      have e1 := sEq_iff.mp h2
      have e2 := sEq_iff.mp h3
      subst e1; subst e2
      exact h1
    | rep => exact PySem.W.mg_none_of X N (He.eqO_ok c)
    | dic kvs =>
      simp only [Bool.and_eq_true] at c
      obtain ⟨c1, c2⟩ := c
      refine ⟨PySem.W.mg_of X N (He.eqO_ok c1), fun z => ?_⟩
      unfold PySem.W.nsIn
      split at c2
      · rename_i hl
        simp only [hl]
        exact dkB_ok (kn := knX G.K l cls) _ kvs c2
      · cases c2
/-! ### the law's end -/
abbrev CXa (P : Program) : CXT := fun outer H s E u s' => ∃ w, L2.CX P w outer H s E u s'
theorem FnOk.cxa {P : Program} {w : World} {K : PySem.W.Frag} {mg : Str → Option Value} {base : Heap} {k : Nat} {f : Addr} {fd : FuncData} {ps : List Str} {sp : Sp} (F : FnOk P w K mg base (L2.CX P w) k f fd ps sp) : FnOk P w K mg base (CXa P) k f fd ps sp :=
  ⟨F.len, fun A outer s H args us vs Q E hr he hb hv hs => codeAny_mono (F.run A outer s H args us vs Q E hr he hb hv hs) fun r s' q => by
    cases r with
    | ok fl =>
      cases fl with
      | ret u => exact q
      | next => exact q
      | brk => exact q
      | cont => exact q
    | error e => exact ⟨w, q⟩⟩
theorem cxa_no {P : Program} : ∀ (H : Hp) (s : Shared) (e : Value) (s' : Shared), CXa P [] H s (fun _ _ _ => False) e s' → False := fun H s e s' ⟨w, h⟩ => by
  obtain ⟨_, _, _, _, _, _, _, _, _, _, _, _, z⟩ := h
  exact z
/-- what is asked of the law's def: over every list of ints, true -/
theorem reps_ints {kn : Kn} {ρ : List Addr} {H : Hp} : ∀ ns : List Int, Reps kn ρ H (ns.map D.int) (ns.map V.int)
  | [] => .nil
  | _ :: r => .cons .int (reps_ints r)
theorem law_sp {K : PySem.W.Frag} {l : List Xd} {cls : Cz} {g : List D → Sto → R D} {x : Str} (hno : ∀ b o, K.lookup b = some o → o.cls ≠ .type "list") {ns : List Int} (hg : ∃ S', g [.ref 0] [.lst false (ns.map D.int)] = .ok (.bl true) S') {H : Hp} {a : Addr} (hs : SqL K H a (ns.map V.int)) : spOf (knX K l cls) [x] g [.ref a] H (fun v _ => v = .bl true) fun _ _ _ => False := by
  have rd : Rd H a (.lst (ns.map V.int)) := by
    rcases hs with h | ⟨o, its, k, h1, h2, _⟩
    · exact h
    · exact absurd h2 (hno a o h1)
  refine ⟨rfl, [a], [.ref 0], [.lst false (ns.map D.int)], ⟨rfl, by simp, fun i b o e1 e2 => ?_⟩, .cons (.ref rfl) .nil, ?_⟩
  · match i, e1, e2 with
    | 0, e1, e2 =>
      cases e1; cases e2
      exact ⟨_, rd, reps_ints ns⟩
    | i + 1, e1, e2 => simp at e1
  · obtain ⟨S', e⟩ := hg
    rw [e]
    intro v H' ρ' g rl r
    cases r
    rfl

/-- the end of a law: as the kit's own, the script's bits told, what is raised told by the world -/
theorem walk_ofQ {l : PySem.W.OpenLaw} {n k : Nat} {q : Program} {loose : List Str} {XP : (Str → Option Value) → Heap → Prop} {YP : World → Heap → Prop} {d : DefRec} {x : Str} {xd : List Xd} {cls : Cz} {g : List D → Sto → R D}
    (hn : l.most = some n) (hn2 : n ≤ sizeLine) (hdf : d.params.defaults = []) (hr : Room k callerA)
    (hg : ∀ ns : List Int, ns.length ≤ n → (∀ z ∈ ns, Builtin.Int.intBits z ≤ 1048576) → ∃ S', g [.ref 0] [.lst false (ns.map D.int)] = .ok (.bl true) S')
    (F : ∀ (w : World) (mg : Str → Option Value) (fa : Addr) (h : Heap), YP w h → h.Ns mainGlobals mg → mg d.name = some (.ref fa) →
      ∃ (K : PySem.W.Frag) (fd : FuncData), K.In h ∧ (∀ b o, K.lookup b = some o → o.cls ≠ .type "list") ∧ (∀ (s : Shared) (u : Value), BindsTo s fd ⟨[u], []⟩ [(x, u)]) ∧
        ∀ base : Heap, K.In base → base.Ns mainGlobals mg → FnOk l.prog w K mg base (L2.CX l.prog w) k fa fd [x] (spOf (knX K xd cls) [x] g)) :
    PySem.W.WalkO q loose XP YP l.row.toRowW d [] (fun f vs => PySem.call f vs) := by
  refine Att.attach_callB hn hdf fun w s₀ s₁ mg mb fa o pm cd doc a vs ns G Y ho hd hcd hmg hobj hints hlen hbits hg' => ?_
  obtain ⟨K, fd, KX, hno, hb, hF⟩ := F w mg fa _ Y G.T.g hmg
  refine law_call KX G.T.g G.T.b G.T.builtins G.T.nolimit hg' hobj hints (Nat.le_trans hlen hn2) hr hF hb (fun H hO hS => ?_) fun H e s' h => ?_
  · exact law_sp hno (hg ns hlen hbits) hS
  · obtain ⟨_, _, _, _, _, _, _, _, _, _, _, _, z⟩ := h
    exact z

/-- what the law's promise gives at the end: the script alone is tracked -/
theorem law_callQ {G : Gv} {kn : Kn} {k : Nat} {fa a : Addr} {fd : FuncData} {x : Str} {g : List D → Sto → R D} {mb : Str → Option Value} {s₁ : Shared} {vs : List Value} {ns : List Int}
    (KX : G.K.In s₁.heap) (hns : s₁.heap.Ns mainGlobals G.mg) (hb : s₁.heap.Ns builtinsNs mb) (hbb : ∀ x : Str, x ≠ "__name__" → mb x = bootBuiltins x) (hlim : s₁.heap.NoLimit) (hg : s₁.gens = #[])
    (ha : s₁.heap.get? a = some { cls := .type "list", data := .seq vs.toArray }) (hi : IntsAre vs ns) (hl : ns.length ≤ sizeLine) (hr : Room k callerA) (hno : ∀ b o, G.K.lookup b = some o → o.cls ≠ .type "list")
    (F : ∀ base : Heap, G.K.In base → base.Ns mainGlobals G.mg → LawOk { G with base := base } kn k fa fd [x] g) (hbind : ∀ (s : Shared) (u : Value), BindsTo s fd ⟨[u], []⟩ [(x, u)])
    (hsp : ∀ H : Hp, SqL G.K H a (ns.map V.int) → spOf kn [x] g [.ref a] H (fun v _ => v = .bl true) fun _ _ _ => False)
    (hCX : ∀ H e s', L2.CX G.P G.w [] H s₁ (fun _ _ _ => False) e s' → False) :
    codeAny (model G.P G.w) callerA (.call (.ref fa) ⟨[.ref a], []⟩) (fun r s' => r = .ok (.ret (.bool true)) ∧ OldK s₁.heap s'.heap ∧ s'.os = s₁.os ∧ AllBare s'.gens) s₁ := by
  let o : Obj := { cls := .type "list", data := .seq vs.toArray }
  let H : Hp := fun b => if b = a then some (.frz o (.lst (ns.map V.int))) else none
  have Ha : H a = some (.frz o (.lst (ns.map V.int))) := if_pos rfl
  have Hn : ∀ b, b ≠ a → H b = none := fun b h => if_neg h
  have Ka : ∀ b u, G.K.lookup b = some u → b ≠ a := fun b u e z => by
    subst z
    have := KX b u e
    rw [ha] at this
    cases this
    exact hno b _ e rfl
  have hok : HOk G.P G.w H s₁.heap := fun b u e => by
    by_cases hz : b = a
    · subst hz
      rw [Ha] at e
      cases e
      exact ⟨ha, by rw [List.length_map]; exact hl, vs, _, vals_ints hi, ha⟩
    · rw [Hn b hz] at e; cases e
  have nsb : ∀ {b : Addr} {m : Str → Option Value}, s₁.heap.Ns b m → (hidT s₁.heap H).Ns b m := fun {b m} ⟨u, es, ep, e, d, r⟩ => by
    refine ⟨u, es, ep, hidT_get e (Hn b fun z => ?_), d, r⟩
    subst z
    rw [ha] at e
    cases e
    cases d
  have Kb : G.K.In (hidT s₁.heap H) := fun b u e => hidT_get (KX b u e) (Hn b (Ka b u e))
  have M : Mod G.K G.mg (hidT s₁.heap H) := ⟨Kb, nsb hns, ⟨mb, nsb hb, hbb⟩, hlim.elim fun mc h => ⟨mc, nsb h.1, h.2⟩⟩
  have e0 : Env0 G.P G.w G.K G.mg (hidT s₁.heap H) callerA [] s₁ H := ⟨rfl, M, fun _ _ e => of_hidT e, Nat.le_of_eq (hidT_size _ _), trivial, (fun b hb => nomatch hb), hok, .of_eq hg⟩
  have sq : SqL G.K H a (ns.map V.int) := .inl (.inr ⟨o, Ha⟩)
  refine codeAny_mono (F _ Kb (nsb hns) s₁ H ⟨[.ref a], []⟩ [.ref a] [.ref a] _ _ hr e0 (hbind s₁ _) (.cons rfl .nil) (hsp H sq)) fun r s' h => ?_
  cases r with
  | error e => exact (hCX H e s' h).elim
  | ok fl =>
    cases fl with
    | ret u =>
      obtain ⟨v, H', h1, h2, un, hok', h5, h6⟩ := h
      cases (show v = .bl true from h6)
      cases (show u = Value.bool true from h5)
      refine ⟨rfl, OldK.of_keep fun b u e => ?_, h1, h2⟩
      by_cases hz : b = a
      · subst hz
        have e2 := (hok' b _ (un.frzs b o _ Ha)).1
        rw [ha] at e
        cases e
        exact e2
      · exact un.keep b u e (Hn b hz) (fun z => nomatch z) (by simp)
    | next => exact h.elim
    | brk => exact h.elim
    | cont => exact h.elim
/-- the end of a law that asks repr -/
theorem walk_ofR {l : PySem.W.OpenLaw} {n k : Nat} {q : Program} {loose : List Str} {XP : (Str → Option Value) → Heap → Prop} {YP : World → Heap → Prop} {d : DefRec} {x : Str} {xd : List Xd} {cls : Cz} {g : List D → Sto → R D}
    (hn : l.most = some n) (hn2 : n ≤ sizeLine) (hdf : d.params.defaults = []) (hr : Room k callerA)
    (hg : ∀ ns : List Int, ns.length ≤ n → (∀ z ∈ ns, Builtin.Int.intBits z ≤ 1048576) → ∃ S', g [.ref 0] [.lst false (ns.map D.int)] = .ok (.bl true) S')
    (F : ∀ (w : World) (mg : Str → Option Value) (fa : Addr) (h : Heap), YP w h → h.Ns mainGlobals mg → mg d.name = some (.ref fa) →
      ∃ (K : PySem.W.Frag) (fd : FuncData), K.In h ∧ (∀ b o, K.lookup b = some o → o.cls ≠ .type "list") ∧ (∀ (s : Shared) (u : Value), BindsTo s fd ⟨[u], []⟩ [(x, u)]) ∧
        ∀ base : Heap, K.In base → base.Ns mainGlobals mg → LawOk ⟨l.prog, w, K, mg, base⟩ (knX K xd cls) k fa fd [x] g) :
    PySem.W.WalkO q loose XP YP l.row.toRowW d [] (fun f vs => PySem.call f vs) := by
  refine Att.attach_callB hn hdf fun w s₀ s₁ mg mb fa o pm cd doc a vs ns G Y ho hd hcd hmg hobj hints hlen hbits hg' => ?_
  obtain ⟨K, fd, KX, hno, hb, hF⟩ := F w mg fa _ Y G.T.g hmg
  refine law_callQ (G := ⟨l.prog, w, K, mg, s₁.heap⟩) (kn := knX K xd cls) KX G.T.g G.T.b G.T.builtins G.T.nolimit hg' hobj hints (Nat.le_trans hlen hn2) hr hno hF hb (fun H hS => ?_) fun H e s' h => ?_
  · exact law_sp hno (hg ns hlen hbits) hS
  · obtain ⟨_, _, _, _, _, _, _, _, _, _, _, _, z⟩ := h
    exact z

/-! ### the Hook: as the head's own, without the module's lists -/
def frQ (g : Addr → Option Obj) (as : List Addr) : PySem.W.Frag := (He.frG g as).filter fun q => !decide (q.2.cls = .type "list")
theorem lookup_filter {p : Addr × Obj → Bool} {a : Addr} {o : Obj} : ∀ {l : List (Addr × Obj)}, (l.filter p).lookup a = some o → (a, o) ∈ l ∧ p (a, o) = true
  | [], h => by cases h
  | (b, u) :: r, h => by
    rw [List.filter_cons] at h
    split at h
    · rename_i hp
      rw [List.lookup_cons] at h
      cases e : (a == b) with
      | true =>
        rw [e] at h
        cases h
        have := beq_iff_eq.mp e
        subst this
        exact ⟨List.mem_cons_self, hp⟩
      | false =>
        rw [e] at h
        obtain ⟨h1, h2⟩ := lookup_filter h
        exact ⟨List.mem_cons_of_mem _ h1, h2⟩
    · obtain ⟨h1, h2⟩ := lookup_filter h
      exact ⟨List.mem_cons_of_mem _ h1, h2⟩
theorem frQ_in {as : List Addr} {h : Heap} : (frQ h.get? as).In h := fun a o e => He.frG_mem (lookup_filter e).1
theorem frQ_no {g : Addr → Option Obj} {as : List Addr} {a : Addr} {o : Obj} (h : (frQ g as).lookup a = some o) : o.cls ≠ .type "list" := by
  have := (lookup_filter h).2
  simpa using this
def tabV (tb : List (Str × List Str)) (w : World) : List (Option (List (Option (Str × Int)))) := tb.map fun t => some (He.keysIn w.params t.2)
/-- tb: the written tables, with their keys (the texts' hashes are the world's) -/
structure SaysQ (fn : List He.DefD) (ex : PySem.W.Frag → Bool) (tb : List (Str × List Str)) (w : World) (K : PySem.W.Frag) : Prop where
  d : He.SaysD [] fn K
  ex : ex K = true
  no : ∀ a o, K.lookup a = some o → o.cls ≠ .type "list"
  tb : (tb.map fun t => He.dicW K (He.ga K t.1)) = tabV tb w
theorem SaysQ.tab {fn : List He.DefD} {ex : PySem.W.Frag → Bool} {tb : List (Str × List Str)} {w : World} {K : PySem.W.Frag} (c : SaysQ fn ex tb w K) (i : Nat) {t : Str × List Str} (h : tb[i]? = some t) : ∃ es n, KDict K w (He.ga K t.1) es n := by
  have e := congrArg (fun l => l[i]?) c.tb
  unfold tabV at e
  simp only [List.getElem?_map, h, Option.map_some] at e
  exact He.dicW_ok (Option.some.inj e)
abbrev AlQ : Type := He.AlD × Bool × List (Option (List (Option (Str × Int))))
def obsQ (n : Nat) (fn : List He.DefD) (ex : PySem.W.Frag → Bool) (tb : List (Str × List Str)) (g : Addr → Option Obj) : AlQ := (He.obsD [] fn (frQ g (He.asD g n)), ex (frQ g (He.asD g n)), tb.map fun t => He.dicW (frQ g (He.asD g n)) (He.ga (frQ g (He.asD g n)) t.1))
def hookQ (n : Nat) (fn : List He.DefD) (ex : PySem.W.Frag → Bool) (tb : List (Str × List Str)) : PySem.W.Hook where
  α := AlQ
  obs := fun s => obsQ n fn ex tb s.heap.get?
  val := fun w => (He.valD fn, true, tabV tb w)
  says := fun w h => ∃ K : PySem.W.Frag, K.In h ∧ SaysQ fn ex tb w K
  of := fun w s e => ⟨_, frQ_in, ⟨congrArg (fun z : AlQ => z.1) e, congrArg (fun z : AlQ => z.2.1) e, fun _ _ h => frQ_no h, congrArg (fun z : AlQ => z.2.2) e⟩⟩
  keeps := fun _ _ _ ⟨K, hK, c⟩ k => ⟨K, PySem.W.Frag.In.keeps hK k, c⟩
theorem obsQ_eq {n : Nat} {fn : List He.DefD} {ex : PySem.W.Frag → Bool} {tb : List (Str × List Str)} {g : Addr → Option Obj} {s : Shared} (h : ∀ a, g a = s.heap.get? a) : obsQ n fn ex tb g = (hookQ n fn ex tb).obs s := by
  have e : g = s.heap.get? := funext h
  rw [e] <;> rfl
end Kq
section
namespace Kl
open PySem PySem.Spec PyProof.Rows L2 Kq
def top (i : Nat) : Stmt := PySem.Challenge.pw_kinkmeasure_k66_code_is_checked.main.body.getD i (.Pass ⟨0, 0, 0, 0⟩)
def mst (i j : Nat) : Stmt := mthStmt (top i) j
def al0 : List (Str × Sg) := [("isinstance", .blt), ("int", .blt), ("bool", .blt), ("power_of_two", .fn ["exponent"] true []), ("is_integer", .fn ["value"] true []), ("tuple", .blt), ("len", .blt), ("str", .blt), ("SIZES", .dic [("load", .int 3), ("set", .int 3), ("times", .int 4), ("add", .int 3), ("bend", .int 2), ("give", .int 2)]), ("is_index", .fn ["value", "count"] true []), ("fits", .fn ["width", "value"] true []), ("LEAST_WIDTH", .con (.int 2)), ("MOST_WIDTH", .con (.int 200)), ("BadCode", .exc ["place"]), ("MOST_REGISTERS", .con (.int 10000)), ("enumerate", .blt), ("is_instruction", .fn ["code", "row"] true []), ("_law_take", .fn ["_law_stream_here", "_law_many"] true []), ("max", .blt), ("min", .blt)]
def al1 : List (Str × Sg) := [("_law_integer", .fn ["_law_stream_here", "_law_width_here"] true []), ("_law_index", .fn ["_law_value", "_law_count"] true []), ("_law_fits", .fn ["_law_value", "_law_width_here"] true []), ("list", .blt), ("check_code", .fn ["code"] true []), ("KinkError", .exc []), ("_law_stream", .fn ["_law_cell_here"] true []), ("_law_cell", .fn ["_law_script", "_law_k"] true []), ("_law_width", .fn ["_law_stream_here"] true []), ("_law_row", .fn ["_law_stream_here", "_law_width_here", "_law_inputs", "_law_registers"] true []), ("range", .blt), ("_law_spoilt", .fn ["_law_stream_here", "_law_row_here", "_law_width_here", "_law_inputs", "_law_registers"] true []), ("_law_good", .fn ["_law_row_here", "_law_width_here", "_law_inputs", "_law_registers"] true []), ("_law_place", .fn ["_law_code"] true []), ("Code", .cls "Code.__init__" ["self", "width", "inputs", "registers", "instructions"]), ("Code.__init__", .met "Code" "__init__" ["self", "width", "inputs", "registers", "instructions"]), ("law", .fn ["_law_script"] true []), (":width", .fld "width" ["Code"]), (":inputs", .fld "inputs" ["Code"]), (":registers", .fld "registers" ["Code"])]
def al2 : List (Str × Sg) := [(":instructions", .fld "instructions" ["Code"])]
def al : List (Str × Sg) := al0 ++ (al1 ++ (al2))
def xds : List Xd := [⟨"KinkError", true, [], ["KinkError"]⟩, ⟨"BadCode", true, ["place"], ["BadCode", "KinkError"]⟩]
def clsN : Cz := ⟨["KinkError", "BadCode", "Code"], ["Code"], [("Code", "width"), ("Code", "inputs"), ("Code", "registers"), ("Code", "instructions")]⟩
def exK (K : PySem.W.Frag) : Bool := al.all (gvB K xds clsN) && (xds.all (xdB K xds) && pnB K clsN)
def tbs : List (Str × List Str) := [("SIZES", ["load", "set", "times", "add", "bend", "give"])]
def d_is_integer : He.DefD := ⟨("is_integer", none), "is_integer", "is_integer", defArgs (top 4), defBody (top 4), defScope (top 4), [], []⟩
def d_power_of_two : He.DefD := ⟨("power_of_two", none), "power_of_two", "power_of_two", defArgs (top 11), defBody (top 11), defScope (top 11), [], []⟩
def d_fits : He.DefD := ⟨("fits", none), "fits", "fits", defArgs (top 12), defBody (top 12), defScope (top 12), [], []⟩
def d_is_index : He.DefD := ⟨("is_index", none), "is_index", "is_index", defArgs (top 13), defBody (top 13), defScope (top 13), [], []⟩
def d_is_instruction : He.DefD := ⟨("is_instruction", none), "is_instruction", "is_instruction", defArgs (top 14), defBody (top 14), defScope (top 14), [], []⟩
def d_check_code : He.DefD := ⟨("check_code", none), "check_code", "check_code", defArgs (top 15), defBody (top 15), defScope (top 15), [], []⟩
def d__law_cell : He.DefD := ⟨("_law_cell", none), "_law_cell", "_law_cell", defArgs (top 17), defBody (top 17), defScope (top 17), [], []⟩
def d__law_stream : He.DefD := ⟨("_law_stream", none), "_law_stream", "_law_stream", defArgs (top 18), defBody (top 18), defScope (top 18), [], []⟩
def d__law_take : He.DefD := ⟨("_law_take", none), "_law_take", "_law_take", defArgs (top 19), defBody (top 19), defScope (top 19), [], []⟩
def d__law_width : He.DefD := ⟨("_law_width", none), "_law_width", "_law_width", defArgs (top 20), defBody (top 20), defScope (top 20), [], []⟩
def d__law_integer : He.DefD := ⟨("_law_integer", none), "_law_integer", "_law_integer", defArgs (top 21), defBody (top 21), defScope (top 21), [], []⟩
def d__law_row : He.DefD := ⟨("_law_row", none), "_law_row", "_law_row", defArgs (top 22), defBody (top 22), defScope (top 22), [], []⟩
def d__law_index : He.DefD := ⟨("_law_index", none), "_law_index", "_law_index", defArgs (top 23), defBody (top 23), defScope (top 23), [], []⟩
def d__law_fits : He.DefD := ⟨("_law_fits", none), "_law_fits", "_law_fits", defArgs (top 24), defBody (top 24), defScope (top 24), [], []⟩
def d__law_good : He.DefD := ⟨("_law_good", none), "_law_good", "_law_good", defArgs (top 25), defBody (top 25), defScope (top 25), [], []⟩
def d__law_spoilt : He.DefD := ⟨("_law_spoilt", none), "_law_spoilt", "_law_spoilt", defArgs (top 26), defBody (top 26), defScope (top 26), [], []⟩
def d__law_place : He.DefD := ⟨("_law_place", none), "_law_place", "_law_place", defArgs (top 27), defBody (top 27), defScope (top 27), [], []⟩
def d_Code___init__ : He.DefD := ⟨("Code", some "__init__"), "__init__", "Code.__init__", defArgs (mst 10 0), defBody (mst 10 0), defScope (mst 10 0), [], []⟩
def d_law : He.DefD := ⟨("law", none), "law", "law", defArgs (top 28), defBody (top 28), defScope (top 28), [], []⟩
def d_BadCode_init : He.DefD := ⟨("BadCode", some "__init__"), "__init__", "BadCode.__init__", defArgs (mst 2 0), defBody (mst 2 0), defScope (mst 2 0), [], []⟩
def fnL : List He.DefD := [d_is_integer, d_power_of_two, d_fits, d_is_index, d_is_instruction, d_check_code, d__law_cell, d__law_stream, d__law_take, d__law_width, d__law_integer, d__law_row, d__law_index, d__law_fits, d__law_good, d__law_spoilt, d__law_place, d_Code___init__, d_law, d_BadCode_init]
abbrev Rw : PySem.W.OpenRow := PySem.W.OpenLaw.row PySem.Challenge.rw_kinkmeasure_k66_code_is_checked
abbrev hk : PySem.W.Hook := hookQ 6 fnL exK tbs
def ob (s : PySem.W.SharedT) : AlQ := obsQ 6 fnL exK tbs (HandSHeadRun.getT s)
theorem ob_eq (s : PySem.W.SharedT) : ob s = hk.obs s.abs := obsQ_eq (HandSHeadRun.getT_eq s)
def lo0 : List Str := ["KinkError", "BadCode", "Code", "is_integer", "power_of_two", "fits", "is_index", "is_instruction", "check_code", "_law_cell", "_law_stream", "_law_take", "_law_width", "_law_integer", "_law_row", "_law_index", "_law_fits", "_law_good", "_law_spoilt", "_law_place"]
def lo1 : List Str := ["LEAST_WIDTH", "MOST_WIDTH", "MOST_REGISTERS", "SIZES"]
def loN : List Str := lo0 ++ lo1
def wB (w : World) (b : Bool) : World := { w with params := { w.params with followText := fun x => if x == "special-get-raises" then b else w.params.followText x } }
theorem wB_eq (w : World) : wB w (w.params.followText "special-get-raises") = w := by
  have e : (fun x => if (x == "special-get-raises") = true then w.params.followText "special-get-raises" else w.params.followText x) = w.params.followText := funext fun x => by
    split
    · rename_i h
      rw [beq_iff_eq.mp h]
    · rfl
  unfold wB
  rw [e]
set_option maxHeartbeats 0 in
theorem run_true (w : World) : HandSHeadRun.RunEq Rw (PySem.W.view Rw.prog [28]) hk ob 4000 loN (wB w true) := by
  intro os
  kernel_rfl
set_option maxHeartbeats 0 in
theorem run_false (w : World) : HandSHeadRun.RunEq Rw (PySem.W.view Rw.prog [28]) hk ob 4000 loN (wB w false) := by
  intro os
  kernel_rfl
set_option maxHeartbeats 0 in
theorem run (w : World) : HandSHeadRun.RunEq Rw (PySem.W.view Rw.prog [28]) hk ob 4000 loN w := by
  rw [← wB_eq w]
  cases w.params.followText "special-get-raises" with
  | true => exact run_true w
  | false => exact run_false w
end Kl
end
set_option Elab.async false
set_option linter.all false
set_option maxRecDepth 100000
set_option maxHeartbeats 2000000
set_option autoImplicit false
/-! # The Q layer, part Q: how a body is evaluated -/
namespace Kq
open PySem PySem.Spec PyProof.Rows L2

section
variable {α β : Type} (S : Sto) (σ : Sl) (i j : Int)
@[simp] theorem RS_of_ok (a : α) (k : α → Sto → RS) : RS.of (.ok a S) σ k = k a S := rfl
@[simp] theorem RS_of_err (x : Str) (fs : List D) (k : α → Sto → RS) : RS.of (.err x fs S : R α) σ k = .err x fs σ S := rfl
@[simp] theorem RS_of_no (k : α → Sto → RS) : RS.of (.no : R α) σ k = .no := rfl
@[simp] theorem RS_seq_nx (k : Sl → Sto → RS) : RS.seq (.nx σ S) k = k σ S := rfl
@[simp] theorem RS_seq_rt (d : D) (k : Sl → Sto → RS) : RS.seq (.rt d S) k = .rt d S := rfl
@[simp] theorem RS_seq_err (x : Str) (fs : List D) (k : Sl → Sto → RS) : RS.seq (.err x fs σ S) k = .err x fs σ S := rfl
@[simp] theorem RS_seq_no (k : Sl → Sto → RS) : RS.seq .no k = .no := rfl
@[simp] theorem RS_seq_bk (k : Sl → Sto → RS) : RS.seq (.bk σ S) k = .bk σ S := rfl
@[simp] theorem RS_seq_ct (k : Sl → Sto → RS) : RS.seq (.ct σ S) k = .ct σ S := rfl
@[simp] theorem loc_non : locD (some (some .non)) S = .ok .non S := rfl
@[simp] theorem loc_bl (b : Bool) : locD (some (some (.bl b))) S = .ok (.bl b) S := rfl
@[simp] theorem loc_int : locD (some (some (.int i))) S = .ok (.int i) S := rfl
@[simp] theorem loc_str (x : Str) : locD (some (some (.str x))) S = .ok (.str x) S := rfl
@[simp] theorem loc_tup (ds : List D) : locD (some (some (.tup ds))) S = .ok (.tup ds) S := rfl
@[simp] theorem loc_ref (n : Nat) : locD (some (some (.ref n))) S = .ok (.ref n) S := rfl
@[simp] theorem tru_non : truD .non S = .ok false S := rfl
@[simp] theorem tru_bl (b : Bool) : truD (.bl b) S = .ok b S := rfl
@[simp] theorem tru_int : truD (.int i) S = .ok (i != 0) S := rfl
@[simp] theorem tru_tup (ds : List D) : truD (.tup ds) S = .ok (!ds.isEmpty) S := rfl
theorem tru_lst {n : Nat} {mu : Bool} {ds : List D} {S : Sto} (h : S[n]? = some (.lst mu ds)) : truD (.ref n) S = .ok (!ds.isEmpty) S := by unfold truD; simp only [h]
@[simp] theorem ev_neg : negD (.int i) S = .ok (.int (-i)) S := rfl
@[simp] theorem ev_add : binD .add (.int i) (.int j) S = .ok (.int (i + j)) S := rfl
@[simp] theorem ev_sub : binD .sub (.int i) (.int j) S = .ok (.int (i - j)) S := rfl
theorem ev_mul {i j : Int} {S : Sto} (h : mulOk i j = true) : binD .mul (.int i) (.int j) S = .ok (.int (i * j)) S := by unfold binD; simp only [h, if_true]
theorem ev_fdiv {i j : Int} {S : Sto} (h : divOk i j = true) : binD .fdiv (.int i) (.int j) S = .ok (.int (i.fdiv j)) S := by unfold binD; simp only [h, if_true]
theorem ev_mod {i j : Int} {S : Sto} (h : j ≠ 0) : binD .mod (.int i) (.int j) S = .ok (.int (i.fmod j)) S := by unfold binD; simp only [h, if_false]
theorem ev_pow {i j : Int} {S : Sto} (h : 0 ≤ j ∧ j ≤ 1000000 ∧ i.natAbs < 2 ^ 64) : binD .pow (.int i) (.int j) S = .ok (.int (i ^ j.toNat)) S := by unfold binD; simp only [h, and_self, if_true]
theorem eqv_int : PyData.eqv (.int i) (.int j) = decide (i = j) := by
  unfold PyData.eqv
  first | rfl | simp
@[simp] theorem ev_eq : cmpD .eq (.int i) (.int j) S = .ok (.bl (decide (i = j))) S := by
  have : eqD S (.int i) (.int j) = some (decide (i = j)) := by
    unfold eqD
    simp only [toPS, toP]
    rw [if_pos ⟨rfl, rfl⟩, eqv_int]
  unfold cmpD
  simp only [this]
@[simp] theorem ev_ne : cmpD .ne (.int i) (.int j) S = .ok (.bl (!decide (i = j))) S := by
  have : eqD S (.int i) (.int j) = some (decide (i = j)) := by
    unfold eqD
    simp only [toPS, toP]
    rw [if_pos ⟨rfl, rfl⟩, eqv_int]
  unfold cmpD
  simp only [this]
@[simp] theorem ev_lt : cmpD .lt (.int i) (.int j) S = .ok (.bl (decide (i < j))) S := rfl
@[simp] theorem ev_le : cmpD .le (.int i) (.int j) S = .ok (.bl (decide (i ≤ j))) S := rfl
@[simp] theorem ev_gt : cmpD .gt (.int i) (.int j) S = .ok (.bl (decide (j < i))) S := rfl
@[simp] theorem ev_ge : cmpD .ge (.int i) (.int j) S = .ok (.bl (decide (j ≤ i))) S := rfl
theorem atI_nat {α : Type} {xs : List α} {n : Nat} {i : Int} (hi : i = (n : Int)) (h : n < xs.length) : L2.atI xs i = some xs[n] := by
  subst hi
  unfold L2.atI L2.ixN
  rw [if_pos (Int.natCast_nonneg n), if_pos (by exact_mod_cast h)]
  simp [h]
theorem idx_tup {ds : List D} {n : Nat} {i : Int} (hi : i = (n : Int)) (h : n < ds.length) : idxD (.tup ds) (.int i) S = .ok ds[n] S := by
  unfold idxD
  simp only [atI_nat hi h]
theorem idx_ref {n m : Nat} {mu : Bool} {ds : List D} {i : Int} {S : Sto} (hS : S[n]? = some (.lst mu ds)) (hi : i = (m : Int)) (h : m < ds.length) : idxD (.ref n) (.int i) S = .ok ds[m] S := by
  unfold idxD
  simp only [hS, atI_nat hi h]
@[simp] theorem idx_tup0 (d : D) (r : List D) : idxD (.tup (d :: r)) (.int 0) S = .ok d S := idx_tup S (n := 0) rfl (by simp)
@[simp] theorem idx_tup1 (d e : D) (r : List D) : idxD (.tup (d :: e :: r)) (.int 1) S = .ok e S := idx_tup S (n := 1) rfl (by simp)
@[simp] theorem idx_tup2 (d e f : D) (r : List D) : idxD (.tup (d :: e :: f :: r)) (.int 2) S = .ok f S := idx_tup S (n := 2) rfl (by simp)
@[simp] theorem bi_abs : biD .abs [.int i] S = .ok (.int i.natAbs) S := rfl
@[simp] theorem bi_int : biD .int [.int i] S = .ok (.int i) S := rfl
@[simp] theorem bi_gcd : biD .gcd [.int i, .int j] S = .ok (.int (Nat.gcd i.natAbs j.natAbs : Nat)) S := rfl
@[simp] theorem bi_max : biD .max [.int i, .int j] S = .ok (.int (if j > i then j else i)) S := rfl
@[simp] theorem bi_min : biD .min [.int i, .int j] S = .ok (.int (if j < i then j else i)) S := rfl
@[simp] theorem bi_len_tup (ds : List D) : biD .len [.tup ds] S = .ok (.int ds.length) S := rfl
theorem bi_len_ref {n : Nat} {mu : Bool} {ds : List D} {S : Sto} (h : S[n]? = some (.lst mu ds)) : biD .len [.ref n] S = .ok (.int ds.length) S := by
  unfold biD; simp only [itemsD, h]
@[simp] theorem asg_nm (n : Nat) (d : D) : asgT (.nm n) d σ = some (σ.set n (some d)) := rfl
end

/-! ### one statement at a time -/
theorem ss_step {a : Cm} {r : Cms} {F : Wd} {σ σ' : Sl} {S S' : Sto} (h : evS a F σ S = .nx σ' S') : evSs (.cons a r) F σ S = evSs r F σ' S' := by
  show RS.seq (evS a F σ S) (fun σ S => evSs r F σ S) = _
  rw [h]; rfl
theorem ss_end {a : Cm} {r : Cms} {F : Wd} {σ : Sl} {S S' : Sto} {d : D} (h : evS a F σ S = .rt d S') : evSs (.cons a r) F σ S = .rt d S' := by
  show RS.seq (evS a F σ S) (fun σ S => evSs r F σ S) = _
  rw [h]; rfl
theorem ss_err {a : Cm} {r : Cms} {F : Wd} {σ σ' : Sl} {S S' : Sto} {x : Str} {fs : List D} (h : evS a F σ S = .err x fs σ' S') : evSs (.cons a r) F σ S = .err x fs σ' S' := by
  show RS.seq (evS a F σ S) (fun σ S => evSs r F σ S) = _
  rw [h]; rfl
theorem call_rt {F : Wd} {n : Nat} {b : Cms} {ds : List D} {S S' : Sto} {d : D} (h : evSs b F (ds.map some ++ List.replicate (n - ds.length) none) S = .rt d S') : callD F n b ds S = .ok d S' := by
  unfold callD; rw [h]
theorem ev_whl {t : Ex} {b : Cms} {F : Wd} {σ : Sl} {S : Sto} : evS (.whl t b) F σ S = whlL (evA F t).t (fun σ S => evSs b F σ S) F.fuel σ S := rfl
theorem ev_asg {i : Nat} {e : Ex} {F : Wd} {σ : Sl} {S S' : Sto} {d : D} (h : (evA F e).v σ S = .ok d S') : evS (.asg (.nm i) e) F σ S = .nx (σ.set i (some d)) S' := by
  show RS.of ((evA F e).v σ S) σ _ = _
  rw [h]; rfl
theorem ev_ret {e : Ex} {F : Wd} {σ : Sl} {S S' : Sto} {d : D} (h : (evA F e).v σ S = .ok d S') : evS (.ret e) F σ S = .rt d S' := by
  show RS.of ((evA F e).v σ S) σ _ = _
  rw [h]; rfl

open Classical in
theorem for_nx {g : Gd} {f : D → Sl → Sto → RS} {d : D} {r : List D} {σ σ' : Sl} {S S' : Sto} (h : f d σ S = .nx σ' S') (hs : stands g S') : forL g f (d :: r) σ S = forL g f r σ' S' := by
  rw [forL, h]
  dsimp only
  rw [if_pos hs]

/-! ### sizes -/
def lim : Nat := 2 ^ 4000
def sm (i : Int) : Prop := i.natAbs < lim
instance (i : Int) : Decidable (sm i) := by unfold sm; infer_instance
theorem sm_log {i : Int} (h : sm i) : i.natAbs.log2 < 4000 := by
  unfold sm lim at h
  by_cases h0 : i.natAbs = 0
  · rw [h0]; decide
  · exact (Nat.log2_lt h0).mpr h
theorem sm_mul {i j : Int} (hi : sm i) (hj : sm j) : mulOk i j = true := by
  have := sm_log hi
  have := sm_log hj
  unfold mulOk
  rw [decide_eq_true_eq]
  omega
theorem sm_div {i j : Int} (hj : sm j) (h0 : j ≠ 0) : divOk i j = true := by
  have h := sm_log hj
  unfold divOk
  rw [Bool.and_eq_true, decide_eq_true_eq, Bool.not_eq_true']
  refine ⟨h0, ?_⟩
  unfold Builtin.divisionGoesByPylong
  simp only [Bool.and_eq_false_iff, decide_eq_false_iff_not]
  left
  split <;> omega
theorem sm_of {i : Int} {k : Nat} (h : i.natAbs < 2 ^ k) (hk : k ≤ 4000) : sm i := by
  unfold sm lim
  exact Nat.lt_of_lt_of_le h (Nat.pow_le_pow_right (by decide) hk)
theorem ab_mul {i j : Int} {a b : Nat} (hi : i.natAbs < 2 ^ a) (hj : j.natAbs < 2 ^ b) : (i * j).natAbs < 2 ^ (a + b) := by
  rw [Int.natAbs_mul, Nat.pow_add]
  exact Nat.mul_lt_mul'' hi hj
theorem ab_add {i j : Int} {a : Nat} (hi : i.natAbs < 2 ^ a) (hj : j.natAbs < 2 ^ a) : (i + j).natAbs < 2 ^ (a + 1) := by
  have := Int.natAbs_add_le i j
  rw [Nat.pow_succ]
  omega
theorem ab_sub {i j : Int} {a : Nat} (hi : i.natAbs < 2 ^ a) (hj : j.natAbs < 2 ^ a) : (i - j).natAbs < 2 ^ (a + 1) := by
  have := Int.natAbs_sub_le i j
  rw [Nat.pow_succ]
  omega
theorem ab_mono {i : Int} {a b : Nat} (hi : i.natAbs < 2 ^ a) (h : a ≤ b) : i.natAbs < 2 ^ b := Nat.lt_of_lt_of_le hi (Nat.pow_le_pow_right (by decide) h)

/-! ### a ratio in lowest terms, its lower part above zero -/
def sgG (a b : Int) : Int := if b < 0 then -(Int.gcd a b : Int) else (Int.gcd a b : Int)
def nA (a b : Int) : Int := a.fdiv (sgG a b)
def nB (a b : Int) : Int := b.fdiv (sgG a b)
theorem sgG_ne {a b : Int} (h : b ≠ 0) : sgG a b ≠ 0 := by
  unfold sgG
  have : Int.gcd a b ≠ 0 := fun z => h (Int.gcd_eq_zero_iff.mp z).2
  split <;> omega
theorem sgG_dvd_a {a b : Int} : sgG a b ∣ a := by
  unfold sgG
  split
  · exact Int.neg_dvd.mpr (Int.gcd_dvd_left ..)
  · exact Int.gcd_dvd_left ..
theorem sgG_dvd_b {a b : Int} : sgG a b ∣ b := by
  unfold sgG
  split
  · exact Int.neg_dvd.mpr (Int.gcd_dvd_right ..)
  · exact Int.gcd_dvd_right ..
theorem nA_mul {a b : Int} : nA a b * sgG a b = a := by
  unfold nA
  exact Int.fdiv_mul_cancel sgG_dvd_a
theorem nB_mul {a b : Int} : nB a b * sgG a b = b := by
  unfold nB
  exact Int.fdiv_mul_cancel sgG_dvd_b
theorem n_cross {a b : Int} : nA a b * b = a * nB a b := by
  have h1 := nA_mul (a := a) (b := b)
  have h2 := nB_mul (a := a) (b := b)
  calc nA a b * b = nA a b * (nB a b * sgG a b) := by rw [h2]
    _ = (nA a b * sgG a b) * nB a b := by rw [Int.mul_assoc, Int.mul_comm (nB a b), ← Int.mul_assoc, Int.mul_assoc, Int.mul_comm (sgG a b), ← Int.mul_assoc, Int.mul_right_comm]
    _ = a * nB a b := by rw [h1]
theorem nB_pos {a b : Int} (h : b ≠ 0) : 0 < nB a b := by
  have h2 := nB_mul (a := a) (b := b)
  have g0 : (0 : Int) < (Int.gcd a b : Int) := by
    have : Int.gcd a b ≠ 0 := fun z => h (Int.gcd_eq_zero_iff.mp z).2
    omega
  unfold sgG at h2
  rcases Int.lt_or_le 0 (nB a b) with hp | hn'
  · exact hp
  exfalso
  split at h2
  · rename_i hb
    have : 0 ≤ nB a b * -(Int.gcd a b : Int) := Int.mul_nonneg_of_nonpos_of_nonpos hn' (by omega)
    omega
  · rename_i hb
    have : nB a b * (Int.gcd a b : Int) ≤ 0 := Int.mul_nonpos_of_nonpos_of_nonneg hn' (by omega)
    omega
theorem n_gcd {a b : Int} (h : b ≠ 0) : Int.gcd (nA a b) (nB a b) = 1 := by
  have h1 := nA_mul (a := a) (b := b)
  have h2 := nB_mul (a := a) (b := b)
  have g0 : Int.gcd a b ≠ 0 := fun z => h (Int.gcd_eq_zero_iff.mp z).2
  have e : Int.gcd (nA a b * sgG a b) (nB a b * sgG a b) = Int.gcd a b := by rw [h1, h2]
  rw [Int.gcd_mul_right] at e
  have es : (sgG a b).natAbs = Int.gcd a b := by unfold sgG; split <;> simp
  rw [es] at e
  have : Int.gcd (nA a b) (nB a b) * Int.gcd a b = 1 * Int.gcd a b := by rw [e, Nat.one_mul]
  exact Nat.eq_of_mul_eq_mul_right (by omega) this
theorem nA_le {a b : Int} (h : b ≠ 0) : (nA a b).natAbs ≤ a.natAbs := by
  have h1 := nA_mul (a := a) (b := b)
  have hs : 1 ≤ (sgG a b).natAbs := by have := sgG_ne (a := a) h; omega
  calc (nA a b).natAbs ≤ (nA a b).natAbs * (sgG a b).natAbs := Nat.le_mul_of_pos_right _ hs
    _ = a.natAbs := by rw [← Int.natAbs_mul, h1]
theorem nB_le {a b : Int} (h : b ≠ 0) : (nB a b).natAbs ≤ b.natAbs := by
  have h1 := nB_mul (a := a) (b := b)
  have hs : 1 ≤ (sgG a b).natAbs := by have := sgG_ne (a := a) h; omega
  calc (nB a b).natAbs ≤ (nB a b).natAbs * (sgG a b).natAbs := Nat.le_mul_of_pos_right _ hs
    _ = b.natAbs := by rw [← Int.natAbs_mul, h1]
theorem sgG_neg {a b : Int} (h : b < 0) : (Int.gcd (-a) (-b) : Int) = -sgG a b := by
  unfold sgG
  rw [if_pos h, Int.gcd_neg, Int.neg_gcd]
  omega
end Kq
set_option Elab.async false
set_option linter.all false
set_option maxRecDepth 100000
set_option maxHeartbeats 2000000
set_option autoImplicit false
/-! # The Q layer, part S: a world of levels; what is asked behind a body (weakest preconditions) -/
namespace Kq
open PySem PySem.Spec PyProof.Rows L2

/-! ### the world of levels: at level 0 no call ends, at level n + 1 a call runs the def's code in the world of level n -/
structure Tb where
  tab : Str → Option (Nat × Cms)
  kin : Str → Str → Bool
  fld : Str → List Str
@[irreducible] def bigFuel : Nat := 2 ^ 100000
noncomputable def W (T : Tb) : Nat → Wd
  | 0 => ⟨fun _ _ _ => .no, fun _ => none, T.kin, T.fld, bigFuel, none⟩
  | n + 1 => ⟨fun f ds S => match T.tab f with
      | some (k, c) => callD (W T n) k c ds S
      | none => .no, fun _ => none, T.kin, T.fld, bigFuel, none⟩
theorem W_fuel (T : Tb) (n : Nat) : (W T n).fuel = bigFuel := by cases n <;> rfl
theorem W_kin (T : Tb) (n : Nat) : (W T n).kin = T.kin := by cases n <;> rfl
theorem W_fld (T : Tb) (n : Nat) : (W T n).fld = T.fld := by cases n <;> rfl
theorem W_ec (T : Tb) (n : Nat) : (W T n).ec = none := by cases n <;> rfl
theorem W_fn {T : Tb} {f : Str} {k : Nat} {c : Cms} (h : T.tab f = some (k, c)) (n : Nat) (ds : List D) (S : Sto) : (W T (n + 1)).fn f ds S = callD (W T n) k c ds S := by
  show (match T.tab f with
      | some (k, c) => callD (W T n) k c ds S
      | none => .no) = _
  rw [h]
theorem le_fuel {n : Nat} (h : n ≤ 2 ^ 100000) : n ≤ bigFuel := by unfold bigFuel; exact h

/-! ### what is asked -/
abbrev XE := Str → List D → Sto → Prop
abbrev XS := Str → List D → Sl → Sto → Prop
def R.wp {α : Type} (r : R α) (Q : α → Sto → Prop) (E : XE) : Prop := match r with
  | .ok a S => Q a S
  | .err x fs S => E x fs S
  | .no => False
def RS.wp (r : RS) (nx : Sl → Sto → Prop) (rt : D → Sto → Prop) (er : XS) (bk ct : Sl → Sto → Prop) : Prop := match r with
  | .nx σ S => nx σ S
  | .rt d S => rt d S
  | .bk σ S => bk σ S
  | .ct σ S => ct σ S
  | .err x fs σ S => er x fs σ S
  | .no => False
def noE : XE := fun _ _ _ => False
theorem wp_ok {α : Type} {r : R α} {a : α} {S : Sto} {Q : α → Sto → Prop} {E : XE} (h : r = .ok a S) (q : Q a S) : r.wp Q E := by rw [h]; exact q
theorem wp_er {α : Type} {r : R α} {x : Str} {fs : List D} {S : Sto} {Q : α → Sto → Prop} {E : XE} (h : r = .err x fs S) (q : E x fs S) : r.wp Q E := by rw [h]; exact q
theorem wp_eq {α : Type} {r : R α} {a : α} {S : Sto} (h : r.wp (fun b S' => b = a ∧ S' = S) noE) : r = .ok a S := by
  cases r with
  | ok b S' => obtain ⟨rfl, rfl⟩ := h; rfl
  | err => exact (show False from h).elim
  | no => exact (show False from h).elim
theorem wp_ex {α : Type} {r : R α} {P : α → Sto → Prop} (h : r.wp P noE) : ∃ a S, r = .ok a S ∧ P a S := by
  cases r with
  | ok b S' => exact ⟨_, _, rfl, h⟩
  | err => exact (show False from h).elim
  | no => exact (show False from h).elim
theorem wp_err {α : Type} {r : R α} {x : Str} {fs : List D} {S : Sto} (h : r.wp (fun _ _ => False) fun y gs S' => y = x ∧ gs = fs ∧ S' = S) : r = .err x fs S := by
  cases r with
  | ok b S' => exact (show False from h).elim
  | err y gs S' => obtain ⟨rfl, rfl, rfl⟩ := h; rfl
  | no => exact (show False from h).elim
theorem R.wp_mono {α : Type} {r : R α} {Q Q' : α → Sto → Prop} {E E' : XE} (h : r.wp Q E) (i : ∀ a S, Q a S → Q' a S) (j : ∀ x fs S, E x fs S → E' x fs S) : r.wp Q' E' := by
  cases r with
  | ok b S' => exact i _ _ h
  | err y gs S' => exact j _ _ _ h
  | no => exact h
theorem RS.wp_mono {r : RS} {nx nx' : Sl → Sto → Prop} {rt rt' : D → Sto → Prop} {er er' : XS} {bk ct bk' ct' : Sl → Sto → Prop} (h : r.wp nx rt er bk ct) (i : ∀ a S, nx a S → nx' a S) (j : ∀ a S, rt a S → rt' a S) (k : ∀ x fs a S, er x fs a S → er' x fs a S) (l : ∀ a S, bk a S → bk' a S) (m : ∀ a S, ct a S → ct' a S) : r.wp nx' rt' er' bk' ct' := by
  cases r with
  | nx b S' => exact i _ _ h
  | rt b S' => exact j _ _ h
  | bk b S' => exact l _ _ h
  | ct b S' => exact m _ _ h
  | err y gs b S' => exact k _ _ _ _ h
  | no => exact h
theorem wp_bind {α β : Type} {r : R α} {k : α → Sto → R β} {Q : β → Sto → Prop} {E : XE} (h : r.wp (fun a S => (k a S).wp Q E) E) : (r.bind k).wp Q E := by
  cases r with
  | ok b S' => exact h
  | err y gs S' => exact h
  | no => exact h
theorem wp_of {α : Type} {r : R α} {σ : Sl} {k : α → Sto → RS} {nx : Sl → Sto → Prop} {rt : D → Sto → Prop} {er : XS} {bk ct : Sl → Sto → Prop} (h : r.wp (fun a S => (k a S).wp nx rt er bk ct) fun x fs S => er x fs σ S) : (RS.of r σ k).wp nx rt er bk ct := by
  cases r with
  | ok b S' => exact h
  | err y gs S' => exact h
  | no => exact h
theorem wp_seq {r : RS} {k : Sl → Sto → RS} {nx : Sl → Sto → Prop} {rt : D → Sto → Prop} {er : XS} {bk ct : Sl → Sto → Prop} (h : r.wp (fun a S => (k a S).wp nx rt er bk ct) rt er bk ct) : (RS.seq r k).wp nx rt er bk ct := by
  cases r <;> exact h

def isX : D → Bool
  | .exc => true
  | _ => false
@[irreducible] def wE (F : Wd) (e : Ex) (σ : Sl) (S : Sto) (Q : D → Sto → Prop) (E : XE) : Prop := ((evA F e).v σ S).wp Q E
@[irreducible] def wT (F : Wd) (e : Ex) (σ : Sl) (S : Sto) (Q : Bool → Sto → Prop) (E : XE) : Prop := ((evA F e).t σ S).wp Q E
@[irreducible] def wL (F : Wd) (e : Ex) (σ : Sl) (S : Sto) (Q : List D → Sto → Prop) (E : XE) : Prop := ((evA F e).l σ S).wp Q E
@[irreducible] def wA (F : Wd) (e : Exs) (σ : Sl) (S : Sto) (Q : List D → Sto → Prop) (E : XE) : Prop := (evs F e σ S).wp Q E
@[irreducible] def wI (F : Wd) (e : Kq.It) (σ : Sl) (S : Sto) (Q : Gd → List D → Sto → Prop) (E : XE) : Prop := (evI F e σ S).wp (fun p S => Q p.1 p.2 S) E
@[irreducible] def wP (r : R (Gd × List D)) (Q : Gd → List D → Sto → Prop) (E : XE) : Prop := r.wp (fun p S => Q p.1 p.2 S) E
theorem wP_iff {r : R (Gd × List D)} {Q : Gd → List D → Sto → Prop} {E : XE} : wP r Q E ↔ r.wp (fun p S => Q p.1 p.2 S) E := by unfold wP; exact Iff.rfl
@[irreducible] def wS (F : Wd) (c : Cm) (σ : Sl) (S : Sto) (nx : Sl → Sto → Prop) (rt : D → Sto → Prop) (er : XS) (bk ct : Sl → Sto → Prop) : Prop := (evS c F σ S).wp nx rt er bk ct
@[irreducible] def wSs (F : Wd) (c : Cms) (σ : Sl) (S : Sto) (nx : Sl → Sto → Prop) (rt : D → Sto → Prop) (er : XS) (bk ct : Sl → Sto → Prop) : Prop := (evSs c F σ S).wp nx rt er bk ct
@[irreducible] def wH (F : Wd) (h : Hds) (x : Str) (fs : List D) (σ : Sl) (S : Sto) (nx : Sl → Sto → Prop) (rt : D → Sto → Prop) (er : XS) (bk ct : Sl → Sto → Prop) : Prop := (evH h F x fs σ S).wp nx rt er bk ct
@[irreducible] def wR {α : Type} (r : R α) (Q : α → Sto → Prop) (E : XE) : Prop := r.wp Q E
theorem wR_iff {α : Type} {r : R α} {Q : α → Sto → Prop} {E : XE} : wR r Q E ↔ r.wp Q E := by unfold wR; exact Iff.rfl
@[irreducible] def wFor (F : Wd) (g : Gd) (t : Tg) (b : Cms) (ds : List D) (σ : Sl) (S : Sto) (nx : Sl → Sto → Prop) (rt : D → Sto → Prop) (er : XS) (bk ct : Sl → Sto → Prop) : Prop := (forL g (turnD t fun σ S => evSs b F σ S) ds σ S).wp nx rt er bk ct
theorem wFor_iff {F : Wd} {g : Gd} {t : Tg} {b : Cms} {ds : List D} {σ : Sl} {S : Sto} {nx : Sl → Sto → Prop} {rt : D → Sto → Prop} {er : XS} {bk ct : Sl → Sto → Prop} : wFor F g t b ds σ S nx rt er bk ct ↔ (forL g (turnD t fun σ S => evSs b F σ S) ds σ S).wp nx rt er bk ct := by unfold wFor; exact Iff.rfl
@[irreducible] def wLc (F : Wd) (g : Gd) (ow : List Nat) (t : Tg) (c e : Ex) (σ : Sl) (ds : List D) (S : Sto) (Q : List D → Sto → Prop) (E : XE) : Prop := (lcE g ow t (evA F c).t (evA F e).v σ ds S).wp Q E
theorem wLc_iff {F : Wd} {g : Gd} {ow : List Nat} {t : Tg} {c e : Ex} {σ : Sl} {ds : List D} {S : Sto} {Q : List D → Sto → Prop} {E : XE} : wLc F g ow t c e σ ds S Q E ↔ (lcE g ow t (evA F c).t (evA F e).v σ ds S).wp Q E := by unfold wLc; exact Iff.rfl
@[irreducible] def wLoc (σ : Sl) (i : Nat) (q : D → Prop) : Prop := ∃ d, σ[i]? = some (some d) ∧ isX d = false ∧ q d
theorem wLoc_iff {σ : Sl} {i : Nat} {q : D → Prop} : wLoc σ i q ↔ ∃ d, σ[i]? = some (some d) ∧ isX d = false ∧ q d := by unfold wLoc; exact Iff.rfl
theorem wLoc_z {d : D} {l : Sl} {q : D → Prop} (hx : isX d = false) (h : q d) : wLoc (some d :: l) 0 q := wLoc_iff.mpr ⟨d, rfl, hx, h⟩
theorem wLoc_s {a : Option D} {l : Sl} {i : Nat} {q : D → Prop} (h : wLoc l i q) : wLoc (a :: l) (i + 1) q := by
  obtain ⟨d, h1, h2, h3⟩ := wLoc_iff.mp h
  exact wLoc_iff.mpr ⟨d, by rw [List.getElem?_cons_succ]; exact h1, h2, h3⟩
theorem wE_iff {F : Wd} {e : Ex} {σ : Sl} {S : Sto} {Q : D → Sto → Prop} {E : XE} : wE F e σ S Q E ↔ ((evA F e).v σ S).wp Q E := by unfold wE; exact Iff.rfl
theorem wT_iff {F : Wd} {e : Ex} {σ : Sl} {S : Sto} {Q : Bool → Sto → Prop} {E : XE} : wT F e σ S Q E ↔ ((evA F e).t σ S).wp Q E := by unfold wT; exact Iff.rfl
theorem wL_iff {F : Wd} {e : Ex} {σ : Sl} {S : Sto} {Q : List D → Sto → Prop} {E : XE} : wL F e σ S Q E ↔ ((evA F e).l σ S).wp Q E := by unfold wL; exact Iff.rfl
theorem wA_iff {F : Wd} {e : Exs} {σ : Sl} {S : Sto} {Q : List D → Sto → Prop} {E : XE} : wA F e σ S Q E ↔ (evs F e σ S).wp Q E := by unfold wA; exact Iff.rfl
theorem wI_iff {F : Wd} {e : Kq.It} {σ : Sl} {S : Sto} {Q : Gd → List D → Sto → Prop} {E : XE} : wI F e σ S Q E ↔ (evI F e σ S).wp (fun p S => Q p.1 p.2 S) E := by unfold wI; exact Iff.rfl
theorem wS_iff {F : Wd} {c : Cm} {σ : Sl} {S : Sto} {nx : Sl → Sto → Prop} {rt : D → Sto → Prop} {er : XS} {bk ct : Sl → Sto → Prop} : wS F c σ S nx rt er bk ct ↔ (evS c F σ S).wp nx rt er bk ct := by unfold wS; exact Iff.rfl
theorem wSs_iff {F : Wd} {c : Cms} {σ : Sl} {S : Sto} {nx : Sl → Sto → Prop} {rt : D → Sto → Prop} {er : XS} {bk ct : Sl → Sto → Prop} : wSs F c σ S nx rt er bk ct ↔ (evSs c F σ S).wp nx rt er bk ct := by unfold wSs; exact Iff.rfl
theorem wH_iff {F : Wd} {h : Hds} {x : Str} {fs : List D} {σ : Sl} {S : Sto} {nx : Sl → Sto → Prop} {rt : D → Sto → Prop} {er : XS} {bk ct : Sl → Sto → Prop} : wH F h x fs σ S nx rt er bk ct ↔ (evH h F x fs σ S).wp nx rt er bk ct := by unfold wH; exact Iff.rfl

/-- a slot stored, kept written out -/
inductive SetR : Sl → Nat → Option D → Sl → Prop
  | z {a : Option D} {l : Sl} {d : Option D} : SetR (a :: l) 0 d (d :: l)
  | s {a : Option D} {l l' : Sl} {i : Nat} {d : Option D} : SetR l i d l' → SetR (a :: l) (i + 1) d (a :: l')
theorem SetR.eq {σ σ' : Sl} {i : Nat} {d : Option D} (h : SetR σ i d σ') : σ.set i d = σ' := by
  induction h with
  | z => rfl
  | s _ ih => rw [List.set_cons_succ, ih]
/-- targets stored -/
inductive TgR : Tg → D → Sl → Sl → Prop
  | nm {i : Nat} {d : D} {σ σ' : Sl} : SetR σ i (some d) σ' → TgR (.nm i) d σ σ'
  | t1 {t : Tg} {ds : List D} {d : D} {σ σ' : Sl} : ds = [d] → TgR t d σ σ' → TgR (.tp (.cons t .nil)) (.tup ds) σ σ'
  | t2 {t u : Tg} {ds : List D} {d e : D} {σ σ' σ'' : Sl} : ds = [d, e] → TgR t d σ σ' → TgR u e σ' σ'' → TgR (.tp (.cons t (.cons u .nil))) (.tup ds) σ σ''
  | t3 {t u v : Tg} {ds : List D} {d e f : D} {σ σ' σ'' σ3 : Sl} : ds = [d, e, f] → TgR t d σ σ' → TgR u e σ' σ'' → TgR v f σ'' σ3 → TgR (.tp (.cons t (.cons u (.cons v .nil)))) (.tup ds) σ σ3
  | t5 {t u v x y : Tg} {ds : List D} {d e f g h : D} {σ σ' σ'' σ3 σ4 σ5 : Sl} : ds = [d, e, f, g, h] → TgR t d σ σ' → TgR u e σ' σ'' → TgR v f σ'' σ3 → TgR x g σ3 σ4 → TgR y h σ4 σ5 → TgR (.tp (.cons t (.cons u (.cons v (.cons x (.cons y .nil)))))) (.tup ds) σ σ5
theorem TgR.eq {t : Tg} {d : D} {σ σ' : Sl} (h : TgR t d σ σ') : asgT t d σ = some σ' := by
  induction h with
  | nm h => show some _ = some _; rw [h.eq]
  | t1 e _ ih => subst e; simp only [asgT, asgTs, ih, Option.bind_some]
  | t2 e _ _ i1 i2 => subst e; simp only [asgT, asgTs, i1, i2, Option.bind_some]
  | t3 e _ _ _ i1 i2 i3 => subst e; simp only [asgT, asgTs, i1, i2, i3, Option.bind_some]
  | t5 e _ _ _ _ _ i1 i2 i3 i4 i5 => subst e; simp only [asgT, asgTs, i1, i2, i3, i4, i5, Option.bind_some]

@[irreducible] def wSet (σ : Sl) (i : Nat) (d : Option D) (q : Sl → Prop) : Prop := ∃ σ', SetR σ i d σ' ∧ q σ'
theorem wSet_iff {σ : Sl} {i : Nat} {d : Option D} {q : Sl → Prop} : wSet σ i d q ↔ ∃ σ', SetR σ i d σ' ∧ q σ' := by unfold wSet; exact Iff.rfl
theorem wSet_z {a d : Option D} {l : Sl} {q : Sl → Prop} (h : q (d :: l)) : wSet (a :: l) 0 d q := wSet_iff.mpr ⟨_, .z, h⟩
theorem wSet_s {a d : Option D} {l : Sl} {i : Nat} {q : Sl → Prop} (h : wSet l i d fun l' => q (a :: l')) : wSet (a :: l) (i + 1) d q := let ⟨_, h1, h2⟩ := wSet_iff.mp h; wSet_iff.mpr ⟨_, .s h1, h2⟩
@[irreducible] def wTg (t : Tg) (d : D) (σ : Sl) (q : Sl → Prop) : Prop := ∃ σ', TgR t d σ σ' ∧ q σ'
theorem wTg_iff {t : Tg} {d : D} {σ : Sl} {q : Sl → Prop} : wTg t d σ q ↔ ∃ σ', TgR t d σ σ' ∧ q σ' := by unfold wTg; exact Iff.rfl
theorem wTg_nm {i : Nat} {d : D} {σ : Sl} {q : Sl → Prop} (h : wSet σ i (some d) q) : wTg (.nm i) d σ q := let ⟨_, h1, h2⟩ := wSet_iff.mp h; wTg_iff.mpr ⟨_, .nm h1, h2⟩
theorem wTg_1 {t : Tg} {d : D} {σ : Sl} {q : Sl → Prop} (h : wTg t d σ q) : wTg (.tp (.cons t .nil)) (.tup [d]) σ q := let ⟨_, h1, h2⟩ := wTg_iff.mp h; wTg_iff.mpr ⟨_, .t1 rfl h1, h2⟩
theorem wTg_2 {t u : Tg} {d e : D} {σ : Sl} {q : Sl → Prop} (h : wTg t d σ fun σ' => wTg u e σ' q) : wTg (.tp (.cons t (.cons u .nil))) (.tup [d, e]) σ q := by
  obtain ⟨_, h1, h⟩ := wTg_iff.mp h
  obtain ⟨_, h2, h⟩ := wTg_iff.mp h
  exact wTg_iff.mpr ⟨_, .t2 rfl h1 h2, h⟩
theorem wTg_3 {t u v : Tg} {d e f : D} {σ : Sl} {q : Sl → Prop} (h : wTg t d σ fun σ' => wTg u e σ' fun σ' => wTg v f σ' q) : wTg (.tp (.cons t (.cons u (.cons v .nil)))) (.tup [d, e, f]) σ q := by
  obtain ⟨_, h1, h⟩ := wTg_iff.mp h
  obtain ⟨_, h2, h⟩ := wTg_iff.mp h
  obtain ⟨_, h3, h⟩ := wTg_iff.mp h
  exact wTg_iff.mpr ⟨_, .t3 rfl h1 h2 h3, h⟩
theorem wTg_5 {t u v x y : Tg} {d e f g k : D} {σ : Sl} {q : Sl → Prop} (h : wTg t d σ fun σ' => wTg u e σ' fun σ' => wTg v f σ' fun σ' => wTg x g σ' fun σ' => wTg y k σ' q) : wTg (.tp (.cons t (.cons u (.cons v (.cons x (.cons y .nil)))))) (.tup [d, e, f, g, k]) σ q := by
  obtain ⟨_, h1, h⟩ := wTg_iff.mp h
  obtain ⟨_, h2, h⟩ := wTg_iff.mp h
  obtain ⟨_, h3, h⟩ := wTg_iff.mp h
  obtain ⟨_, h4, h⟩ := wTg_iff.mp h
  obtain ⟨_, h5, h⟩ := wTg_iff.mp h
  exact wTg_iff.mpr ⟨_, .t5 rfl h1 h2 h3 h4 h5, h⟩
@[irreducible] def wWp (σ : Sl) (ow : List Nat) (q : Sl → Prop) : Prop := q (wipeD σ ow)
theorem wWp_iff {σ : Sl} {ow : List Nat} {q : Sl → Prop} : wWp σ ow q ↔ q (wipeD σ ow) := by unfold wWp; exact Iff.rfl
theorem wWp_nil {σ : Sl} {q : Sl → Prop} (h : q σ) : wWp σ [] q := wWp_iff.mpr h
theorem wWp_cons {σ : Sl} {v : Nat} {vs : List Nat} {q : Sl → Prop} (h : wWp σ vs fun σ' => wSet σ' v none q) : wWp σ (v :: vs) q := by
  obtain ⟨σ', h1, h2⟩ := wSet_iff.mp (wWp_iff.mp h)
  refine wWp_iff.mpr ?_
  show q ((wipeD σ vs).set v none)
  rw [h1.eq]
  exact h2
/-- the slots at the start -/
@[irreducible] def wStart (k : Nat) (ds : List D) (q : Sl → Prop) : Prop := q (ds.map some ++ List.replicate (k - ds.length) none)
theorem wStart_iff {k : Nat} {ds : List D} {q : Sl → Prop} : wStart k ds q ↔ q (ds.map some ++ List.replicate (k - ds.length) none) := by unfold wStart; exact Iff.rfl
theorem st_cons {k : Nat} {d : D} {ds : List D} {q : Sl → Prop} (h : wStart k ds fun l => q (some d :: l)) : wStart (k + 1) (d :: ds) q := by
  rw [wStart_iff] at h ⊢
  rw [List.length_cons, Nat.add_sub_add_right]
  exact h
theorem st_pad {k : Nat} {q : Sl → Prop} (h : wStart k [] fun l => q (none :: l)) : wStart (k + 1) [] q := by
  rw [wStart_iff] at h ⊢
  exact h
theorem st_z {q : Sl → Prop} (h : q []) : wStart 0 [] q := wStart_iff.mpr h
theorem loc_ok {o : Option (Option D)} {d : D} {S : Sto} (h : o = some (some d)) (hx : isX d = false) : locD o S = .ok d S := by
  subst h; cases d <;> first | rfl | cases hx

section
variable {F : Wd} {σ : Sl} {S : Sto} {Q : D → Sto → Prop} {E : XE}
theorem w_con {d : D} (h : Q d S) : wE F (.con d) σ S Q E := wE_iff.mpr h
theorem w_loc {i : Nat} (h : wLoc σ i fun d => Q d S) : wE F (.loc i) σ S Q E := by
  obtain ⟨d, h1, h2, h3⟩ := wLoc_iff.mp h
  exact wE_iff.mpr (wp_ok (loc_ok h1 h2) h3)
theorem w_bin {o : BO} {a b : Ex} (h : wE F a σ S (fun x S1 => wE F b σ S1 (fun y S2 => wR (binD o x y S2) Q E) E) E) : wE F (.bin o a b) σ S Q E := by
  simp only [wE_iff, wR_iff] at h ⊢
  exact wp_bind (R.wp_mono h (fun _ _ => wp_bind) fun _ _ _ => id)
theorem w_neg {a : Ex} (h : wE F a σ S (fun x S1 => wR (negD x S1) Q E) E) : wE F (.neg a) σ S Q E := by
  simp only [wE_iff, wR_iff] at h ⊢
  exact wp_bind h
@[irreducible] def wNot (x : D) (q : Bool → Prop) : Prop := match x with
  | .bl b => q (!b)
  | _ => False
theorem w_nt {a : Ex} (h : wE F a σ S (fun x S1 => wNot x fun b => Q (.bl b) S1) E) : wE F (.nt a) σ S Q E := by
  simp only [wE_iff, wR_iff] at h ⊢
  refine wp_bind (R.wp_mono h (fun x S1 h => ?_) fun _ _ _ => id)
  unfold wNot at h
  cases x <;> exact h
@[irreducible] def wAnd (x : D) (p q : Prop) : Prop := match x with
  | .bl true => p
  | .bl false => q
  | _ => False
theorem w_ands {a b : Ex} (h : wE F a σ S (fun x S1 => wAnd x (wE F b σ S1 Q E) (Q (.bl false) S1)) E) : wE F (.ands a b) σ S Q E := by
  simp only [wE_iff, wR_iff] at h ⊢
  refine wp_bind (R.wp_mono h (fun x S1 h => ?_) fun _ _ _ => id)
  unfold wAnd at h
  cases x with
  | bl b => cases b <;> exact h
  | _ => exact h
theorem w_ors {a b : Ex} (h : wE F a σ S (fun x S1 => wAnd x (Q (.bl true) S1) (wE F b σ S1 Q E)) E) : wE F (.ors a b) σ S Q E := by
  simp only [wE_iff, wR_iff] at h ⊢
  refine wp_bind (R.wp_mono h (fun x S1 h => ?_) fun _ _ _ => id)
  unfold wAnd at h
  cases x with
  | bl b => cases b <;> exact h
  | _ => exact h
theorem w_ite {t a b : Ex} (h : wT F t σ S (fun k S1 => if k = true then wE F a σ S1 Q E else wE F b σ S1 Q E) E) : wE F (.ite t a b) σ S Q E := by
  simp only [wE_iff, wT_iff, wR_iff] at h ⊢
  refine wp_bind (R.wp_mono h (fun x S1 h => ?_) fun _ _ _ => id)
  cases x <;> exact h
theorem w_cmp {o : CO} {a b : Ex} (h : wE F a σ S (fun x S1 => wE F b σ S1 (fun y S2 => wR (cmpD o x y S2) Q E) E) E) : wE F (.cmp o a b) σ S Q E := by
  simp only [wE_iff, wR_iff] at h ⊢
  exact wp_bind (R.wp_mono h (fun _ _ => wp_bind) fun _ _ _ => id)
def wChn (k : D) (p q : Prop) : Prop := match k with
    | .bl true => p
    | .bl false => q
    | _ => False
theorem w_chn {o p : CO} {a b c : Ex} (h : wE F a σ S (fun x S1 => wE F b σ S1 (fun y S2 => wR (cmpD o x y S2) (fun k S3 => wAnd k (wE F c σ S3 (fun z S4 => wR (cmpD p y z S4) Q E) E) (Q (.bl false) S3)) E) E) E) : wE F (.chn o p a b c) σ S Q E := by
  simp only [wE_iff, wR_iff] at h ⊢
  refine wp_bind (R.wp_mono h (fun x S1 h => wp_bind (R.wp_mono h (fun y S2 h => wp_bind (R.wp_mono h (fun k S3 h => ?_) fun _ _ _ => id)) fun _ _ _ => id)) fun _ _ _ => id)
  unfold wAnd at h
  cases k with
  | bl b =>
    cases b with
    | true => exact wp_bind h
    | false => exact h
  | _ => exact h
theorem w_tup {as : Exs} (h : wA F as σ S (fun ds S1 => Q (.tup ds) S1) E) : wE F (.tup as) σ S Q E := by
  simp only [wE_iff, wA_iff, wR_iff] at h ⊢
  exact wp_bind h
theorem w_lst {as : Exs} (h : wA F as σ S (fun ds S1 => Q (.ref S1.length) (S1 ++ [.lst true ds])) E) : wE F (.lst as) σ S Q E := by
  simp only [wE_iff, wA_iff, wR_iff] at h ⊢
  exact wp_bind h
theorem w_idx {a b : Ex} (h : wE F a σ S (fun x S1 => wE F b σ S1 (fun y S2 => wR (idxD x y S2) Q E) E) E) : wE F (.idx a b) σ S Q E := by
  simp only [wE_iff, wR_iff] at h ⊢
  exact wp_bind (R.wp_mono h (fun _ _ => wp_bind) fun _ _ _ => id)
theorem w_sl {a : Ex} {l u : Exs} (h : wE F a σ S (fun x S1 => wA F l σ S1 (fun ls S2 => wR (partR ls S2) (fun y S3 => wA F u σ S3 (fun us S4 => wR (partR us S4) (fun z S5 => wR (slD x y z S5) Q E) E) E) E) E) E) : wE F (.sl a l u) σ S Q E := by
  simp only [wE_iff, wA_iff, wR_iff] at h ⊢
  refine wp_bind (R.wp_mono h (fun x S1 h => ?_) fun _ _ _ => id)
  refine wp_bind (wp_bind (R.wp_mono h (fun ls S2 h => R.wp_mono h (fun y S3 h => ?_) fun _ _ _ => id) fun _ _ _ => id))
  refine wp_bind (wp_bind (R.wp_mono h (fun us S4 h => R.wp_mono h (fun z S5 h => ?_) fun _ _ _ => id) fun _ _ _ => id))
  exact h
theorem w_call {f : Str} {as : Exs} (h : wA F as σ S (fun ds S1 => wR (F.fn f ds S1) Q E) E) : wE F (.call f as) σ S Q E := by
  simp only [wE_iff, wA_iff, wR_iff] at h ⊢
  exact wp_bind h
theorem w_cal {f : Str} {dfl : List D} {arr : List Nat} {as ks : Exs} (h : wA F as σ S (fun ds S1 => wA F ks σ S1 (fun es S2 => wR (F.fn f (pickD arr (ds ++ es ++ dfl)) S2) Q E) E) E) : wE F (.cal f dfl arr as ks) σ S Q E := by
  simp only [wE_iff, wA_iff, wR_iff] at h ⊢
  exact wp_bind (R.wp_mono h (fun _ _ => wp_bind) fun _ _ _ => id)
theorem w_bi {b : Bi} {as : Exs} (h : wA F as σ S (fun ds S1 => wR (biD b ds S1) Q E) E) : wE F (.bi b as) σ S Q E := by
  simp only [wE_iff, wA_iff, wR_iff] at h ⊢
  exact wp_bind h
theorem w_bl {b : Bi} {a : Ex} (h : wL F a σ S (fun ds S1 => wR (biL b ds S1) Q E) E) : wE F (.bl b a) σ S Q E := by
  simp only [wE_iff, wL_iff, wR_iff] at h ⊢
  exact wp_bind h
theorem w_isi {a : Ex} {t : String} (h : wE F a σ S (fun x S1 => wR (isiT x t S1) Q E) E) : wE F (.isi a t) σ S Q E := by
  simp only [wE_iff, wR_iff] at h ⊢
  exact wp_bind h
theorem w_lc {ow : List Nat} {t : Tg} {it : Kq.It} {c e : Ex} (h : wL F (.lc ow t it c e) σ S (fun ds S1 => Q (.ref S1.length) (S1 ++ [.lst true ds])) E) : wE F (.lc ow t it c e) σ S Q E := by
  simp only [wE_iff, wL_iff, wR_iff] at h ⊢
  exact wp_bind h
theorem w_fld {cs : List Str} {a : Ex} {f : Str} (h : wE F a σ S (fun x S1 => wR (fldD cs x f S1) Q E) E) : wE F (.fld cs a f) σ S Q E := by
  simp only [wE_iff, wR_iff] at h ⊢
  exact wp_bind h
theorem w_mth {cs : List (Str × Str)} {m : Str} {a : Ex} {as : Exs} (h : wE F a σ S (fun x S1 => ∃ k, mthK cs m x S1 = some k ∧ wA F as σ S1 (fun ds S2 => wR (F.fn k (x :: ds) S2) Q E) E) E) : wE F (.mth cs m a as) σ S Q E := by
  simp only [wE_iff, wA_iff, wR_iff] at h ⊢
  refine wp_bind (R.wp_mono h (fun x S1 h => ?_) fun _ _ _ => id)
  obtain ⟨k, e, h⟩ := h
  rw [e]
  exact wp_bind h
theorem w_bm {m : Bm} {a : Ex} {as : Exs} (h : wE F a σ S (fun x S1 => bmChk m x S1 = true ∧ wA F as σ S1 (fun ds S2 => wR (bmD m x ds S2) Q E) E) E) : wE F (.bm m a as) σ S Q E := by
  simp only [wE_iff, wA_iff, wR_iff] at h ⊢
  refine wp_bind (R.wp_mono h (fun x S1 h => ?_) fun _ _ _ => id)
  rw [if_pos h.1]
  exact wp_bind h.2
theorem w_eis {i : Nat} {c : Str} (h : wR (eisD F.ec F.kin c (σ[i]?) S) Q E) : wE F (.eis i c) σ S Q E := wE_iff.mpr (wR_iff.mp h)
theorem w_lrg {tu : Bool} {as : Exs} (h : wA F as σ S (fun ds S1 => wR (lrgD tu ds S1) Q E) E) : wE F (.lrg tu as) σ S Q E := by
  simp only [wA_iff, wE_iff, wR_iff] at h ⊢
  exact wp_bind h
theorem w_rep {as : Exs} (h : wA F as σ S (fun ds S1 => wR (repD ds S1) Q E) E) : wE F (.rep as) σ S Q E := by
  simp only [wA_iff, wE_iff, wR_iff] at h ⊢
  exact wp_bind h
theorem w_dgt {kvs : List (Str × D)} {a : Ex} (h : wE F a σ S (fun x S1 => wR (dgtD kvs x S1) Q E) E) : wE F (.dgt kvs a) σ S Q E := by
  simp only [wE_iff, wR_iff] at h ⊢
  exact wp_bind h
theorem w_efl {i : Nat} {f : Str} (h : wR (eflD F.ec F.fld f (σ[i]?) S) Q E) : wE F (.efl i f) σ S Q E := wE_iff.mpr (wR_iff.mp h)
theorem w_mk {c key : Str} {as : Exs} (h : wA F as σ S (fun ds S1 => wR (F.fn key (.ref S1.length :: ds) (S1 ++ [.ins c []])) (fun d S2 => d = .non ∧ Q (.ref S1.length) S2) E) E) : wE F (.mk c key as) σ S Q E := by
  simp only [wE_iff, wA_iff, wR_iff] at h ⊢
  refine wp_bind (R.wp_mono h (fun ds S1 h => ?_) fun _ _ _ => id)
  generalize F.fn key (.ref S1.length :: ds) (S1 ++ [.ins c []]) = r at h
  cases r with
  | no => exact h
  | err x fs S2 => exact h
  | ok d S2 =>
    obtain ⟨rfl, h⟩ := h
    exact h
end
/-! ### arguments -/
section
variable {F : Wd} {σ : Sl} {S : Sto} {Q : List D → Sto → Prop} {E : XE}
theorem w_anil (h : Q [] S) : wA F .nil σ S Q E := wA_iff.mpr h
theorem w_acons {a : Ex} {r : Exs} (h : wE F a σ S (fun d S1 => wA F r σ S1 (fun ds S2 => Q (d :: ds) S2) E) E) : wA F (.cons a r) σ S Q E := by
  simp only [wE_iff, wA_iff, wR_iff] at h ⊢
  exact wp_bind (R.wp_mono h (fun _ _ h => wp_bind (R.wp_mono h (fun _ _ h => h) fun _ _ _ => id)) fun _ _ _ => id)
/-! ### items -/
theorem w_lof {e : Ex} (hl : (evA F e).l = fun σ S => ((evA F e).v σ S).bind itemsR) (h : wE F e σ S (fun d S1 => wR (itemsR d S1) Q E) E) : wL F e σ S Q E := by
  simp only [wE_iff, wL_iff, wR_iff] at h ⊢
  rw [hl]
  exact wp_bind h
theorem w_lite {t a b : Ex} (h : wE F (.ite t a b) σ S (fun d S1 => wR (itemsR d S1) Q E) E) : wL F (.ite t a b) σ S Q E := by
  simp only [wE_iff, wL_iff, wR_iff] at h ⊢
  exact wp_bind h
theorem w_llst {as : Exs} (h : wA F as σ S Q E) : wL F (.lst as) σ S Q E := by
  simp only [wL_iff, wA_iff] at h ⊢
  exact h
theorem w_llc {ow : List Nat} {t : Tg} {it : Kq.It} {c e : Ex} (h : wI F it σ S (fun g l S1 => wLc F g ow t c e σ l S1 Q E) E) : wL F (.lc ow t it c e) σ S Q E := by
  simp only [wL_iff, wI_iff, wLc_iff] at h ⊢
  exact wp_bind h
end
section
variable {F : Wd} {σ : Sl} {S : Sto} {Q : Gd → List D → Sto → Prop} {E : XE}
theorem w_itmp {a : Ex} (h : wL F a σ S (fun ds S1 => Q [] ds S1) E) : wI F (.tmp a) σ S Q E := by
  simp only [wL_iff, wI_iff, wLc_iff] at h ⊢
  exact wp_bind h
theorem w_iex {a : Ex} (h : wE F a σ S (fun x S1 => wP (itG x S1) Q E) E) : wI F (.ex a) σ S Q E := by
  simp only [wE_iff, wI_iff, wP_iff] at h ⊢
  exact wp_bind h
theorem w_irng {as : Exs} (h : wA F as σ S (fun x S1 => wP (rngD x S1) Q E) E) : wI F (.rng as) σ S Q E := by
  simp only [wA_iff, wI_iff, wP_iff] at h ⊢
  exact wp_bind h
theorem w_izip {a b : Ex} (h : wE F a σ S (fun x S1 => wE F b σ S1 (fun y S2 => wP (zipD x y S2) Q E) E) E) : wI F (.zip a b) σ S Q E := by
  simp only [wE_iff, wI_iff, wP_iff] at h ⊢
  exact wp_bind (R.wp_mono h (fun _ _ => wp_bind) fun _ _ _ => id)
theorem w_izip3 {a b c : Ex} (h : wE F a σ S (fun x S1 => wE F b σ S1 (fun y S2 => wE F c σ S2 (fun z S3 => wP (zip3D x y z S3) Q E) E) E) E) : wI F (.zip3 a b c) σ S Q E := by
  simp only [wE_iff, wI_iff, wP_iff] at h ⊢
  exact wp_bind (R.wp_mono h (fun _ _ h => wp_bind (R.wp_mono h (fun _ _ => wp_bind) fun _ _ _ => id)) fun _ _ _ => id)
theorem w_ienm {a : Ex} (h : wE F a σ S (fun x S1 => wP (enmD x S1) Q E) E) : wI F (.enm a) σ S Q E := by
  simp only [wE_iff, wI_iff, wP_iff] at h ⊢
  exact wp_bind h
end
/-! ### tests -/
section
variable {F : Wd} {σ : Sl} {S : Sto} {Q : Bool → Sto → Prop} {E : XE}
theorem w_tof {e : Ex} (hl : (evA F e).t = fun σ S => ((evA F e).v σ S).bind truD) (h : wE F e σ S (fun d S1 => wR (truD d S1) Q E) E) : wT F e σ S Q E := by
  simp only [wE_iff, wT_iff, wR_iff] at h ⊢
  rw [hl]
  exact wp_bind h
theorem w_tlst {as : Exs} (h : wE F (.lst as) σ S (fun d S1 => wR (truD d S1) Q E) E) : wT F (.lst as) σ S Q E := by
  simp only [wE_iff, wT_iff, wR_iff] at h ⊢
  exact wp_bind h
theorem w_tnt {a : Ex} (h : wT F a σ S (fun k S1 => Q (!k) S1) E) : wT F (.nt a) σ S Q E := by
  simp only [wT_iff] at h ⊢
  exact wp_bind h
theorem w_tand {a b : Ex} (h : wT F a σ S (fun k S1 => if k = true then wT F b σ S1 Q E else Q false S1) E) : wT F (.ands a b) σ S Q E := by
  simp only [wT_iff] at h ⊢
  refine wp_bind (R.wp_mono h (fun x S1 h => ?_) fun _ _ _ => id)
  cases x <;> exact h
theorem w_tor {a b : Ex} (h : wT F a σ S (fun k S1 => if k = true then Q true S1 else wT F b σ S1 Q E) E) : wT F (.ors a b) σ S Q E := by
  simp only [wT_iff] at h ⊢
  refine wp_bind (R.wp_mono h (fun x S1 h => ?_) fun _ _ _ => id)
  cases x <;> exact h
theorem w_tite {t a b : Ex} (h : wT F t σ S (fun k S1 => if k = true then wT F a σ S1 Q E else wT F b σ S1 Q E) E) : wT F (.ite t a b) σ S Q E := by
  simp only [wT_iff] at h ⊢
  refine wp_bind (R.wp_mono h (fun x S1 h => ?_) fun _ _ _ => id)
  cases x <;> exact h
end
/-! ### statements -/
section
variable {F : Wd} {σ : Sl} {S : Sto} {nx : Sl → Sto → Prop} {rt : D → Sto → Prop} {er : XS} {bk ct : Sl → Sto → Prop}
theorem w_nil (h : nx σ S) : wSs F .nil σ S nx rt er bk ct := wSs_iff.mpr h
theorem w_cons {a : Cm} {r : Cms} (h : wS F a σ S (fun σ S => wSs F r σ S nx rt er bk ct) rt er bk ct) : wSs F (.cons a r) σ S nx rt er bk ct := by
  simp only [wS_iff, wSs_iff] at h ⊢
  exact wp_seq h
theorem w_one {a : Cm} (h : wS F a σ S nx rt er bk ct) : wSs F (.cons a .nil) σ S nx rt er bk ct := w_cons (by
  simp only [wS_iff] at h ⊢
  exact RS.wp_mono h (fun _ _ h => w_nil h) (fun _ _ => id) (fun _ _ _ _ => id) (fun _ _ => id) fun _ _ => id)
/-- what one statement leaves is told, then the rest -/
theorem w_cut {a : Cm} {r : Cms} (P : Sl → Sto → Prop) (h : wS F a σ S P rt er bk ct) (k : ∀ σ S, P σ S → wSs F r σ S nx rt er bk ct) : wSs F (.cons a r) σ S nx rt er bk ct := w_cons (by
  simp only [wS_iff] at h ⊢
  exact RS.wp_mono h k (fun _ _ => id) (fun _ _ _ _ => id) (fun _ _ => id) fun _ _ => id)
theorem w_ex {e : Ex} (h : wE F e σ S (fun _ S1 => nx σ S1) fun x fs S => er x fs σ S) : wS F (.ex e) σ S nx rt er bk ct := by
  simp only [wE_iff, wS_iff] at h ⊢
  exact wp_of h
theorem w_asg {t : Tg} {e : Ex} (h : wE F e σ S (fun d S1 => wTg t d σ fun σ' => nx σ' S1) fun x fs S => er x fs σ S) : wS F (.asg t e) σ S nx rt er bk ct := by
  simp only [wE_iff, wS_iff] at h ⊢
  refine wp_of (R.wp_mono h (fun d S1 h => ?_) fun _ _ _ => id)
  obtain ⟨σ', h1, h2⟩ := wTg_iff.mp h
  rw [h1.eq]
  exact h2
theorem w_par {i j : Nat} {a b : Ex} (h : wE F a σ S (fun x S1 => wE F b σ S1 (fun y S2 => wSet σ i (some x) fun σ1 => wSet σ1 j (some y) fun σ2 => nx σ2 S2) fun x fs S => er x fs σ S) fun x fs S => er x fs σ S) : wS F (.par i j a b) σ S nx rt er bk ct := by
  simp only [wE_iff, wS_iff] at h ⊢
  refine wp_of (R.wp_mono h (fun x S1 h => wp_of (R.wp_mono h (fun y S2 h => ?_) fun _ _ _ => id)) fun _ _ _ => id)
  obtain ⟨σ1, h1, h⟩ := wSet_iff.mp h
  obtain ⟨σ2, h2, h3⟩ := wSet_iff.mp h
  rw [h1.eq, h2.eq]
  exact h3
@[irreducible] def wOpt (o : Option Sto) (q : Sto → Prop) : Prop := match o with
  | some S => q S
  | none => False
theorem w_some {o : Option Sto} {S : Sto} {q : Sto → Prop} (e : o = some S) (h : q S) : wOpt o q := by unfold wOpt; rw [e]; exact h
theorem w_sub {a i e : Ex} (h : wE F e σ S (fun d S1 => wE F a σ S1 (fun x S2 => wE F i σ S2 (fun k S3 => wOpt (setD x k d S3) fun S4 => nx σ S4) fun x fs S => er x fs σ S) fun x fs S => er x fs σ S) fun x fs S => er x fs σ S) : wS F (.sub a i e) σ S nx rt er bk ct := by
  simp only [wE_iff, wS_iff] at h ⊢
  refine wp_of (R.wp_mono h (fun x S1 h => wp_of (R.wp_mono h (fun y S2 h => wp_of (R.wp_mono h (fun k S3 h => ?_) fun _ _ _ => id)) fun _ _ _ => id)) fun _ _ _ => id)
  unfold RS.opt
  unfold wOpt at h
  split <;> rename_i e <;> rw [e] at h <;> exact h
theorem w_fst {cs : List Str} {a : Ex} {f : Str} {e : Ex} (h : wE F e σ S (fun d S1 => wE F a σ S1 (fun x S2 => wOpt (setF cs x f d S2) fun S4 => nx σ S4) fun x fs S => er x fs σ S) fun x fs S => er x fs σ S) : wS F (.fst cs a f e) σ S nx rt er bk ct := by
  simp only [wE_iff, wS_iff] at h ⊢
  refine wp_of (R.wp_mono h (fun x S1 h => wp_of (R.wp_mono h (fun y S2 h => ?_) fun _ _ _ => id)) fun _ _ _ => id)
  unfold RS.opt
  unfold wOpt at h
  split <;> rename_i e <;> rw [e] at h <;> exact h
theorem w_aug {i : Nat} {o : BO} {e : Ex} {a : Int} (hi : σ[i]? = some (some (.int a))) (h : wE F e σ S (fun y S1 => ∃ b, y = .int b ∧ wR (binD o (.int a) (.int b) S1) (fun z S2 => wSet σ i (some z) fun σ' => nx σ' S2) fun x fs S => er x fs σ S) fun x fs S => er x fs σ S) : wS F (.aug i o e) σ S nx rt er bk ct := by
  simp only [wE_iff, wS_iff] at h ⊢
  refine wp_of (wp_ok (loc_ok hi rfl) (wp_of (R.wp_mono h (fun y S1 h => wp_of ?_) fun _ _ _ => id)))
  obtain ⟨b, rfl, h⟩ := h
  refine R.wp_mono (show (augD o (.int a) (.int b) S1).wp _ _ from wR_iff.mp h) (fun z S2 h => ?_) fun _ _ _ => id
  obtain ⟨σ', h1, h2⟩ := wSet_iff.mp h
  rw [h1.eq]
  exact h2
theorem w_if {t : Ex} {b c : Cms} (h : wT F t σ S (fun k S1 => if k = true then wSs F b σ S1 nx rt er bk ct else wSs F c σ S1 nx rt er bk ct) fun x fs S => er x fs σ S) : wS F (.ite t b c) σ S nx rt er bk ct := by
  simp only [wT_iff, wS_iff, wSs_iff] at h ⊢
  refine wp_of (R.wp_mono h (fun x S1 h => ?_) fun _ _ _ => id)
  cases x <;> exact h
theorem w_ret {e : Ex} (h : wE F e σ S rt fun x fs S => er x fs σ S) : wS F (.ret e) σ S nx rt er bk ct := by
  simp only [wE_iff, wS_iff] at h ⊢
  exact wp_of h
theorem w_retN (h : rt .non S) : wS F .retN σ S nx rt er bk ct := wS_iff.mpr h
theorem w_pass (h : nx σ S) : wS F .pass σ S nx rt er bk ct := wS_iff.mpr h
theorem w_brk (h : bk σ S) : wS F .brk σ S nx rt er bk ct := wS_iff.mpr h
theorem w_cont (h : ct σ S) : wS F .cont σ S nx rt er bk ct := wS_iff.mpr h
theorem w_rse {x : Str} {as : Exs} (h : wA F as σ S (fun ds S1 => er x ds σ S1) fun x fs S => er x fs σ S) : wS F (.rse x as) σ S nx rt er bk ct := by
  simp only [wA_iff, wS_iff] at h ⊢
  exact wp_of h
theorem w_try {b : Cms} {hs : Hds} (h : wSs F b σ S nx rt (fun x fs σ1 S1 => wH F hs x fs σ1 S1 nx rt er bk ct) bk ct) : wS F (.try_ b hs) σ S nx rt er bk ct := by
  simp only [wS_iff, wSs_iff, wH_iff] at h ⊢
  show (tryD (evSs b F σ S) fun x fs σ1 S1 => evH hs F x fs σ1 S1).wp nx rt er bk ct
  generalize evSs b F σ S = r at h
  cases r <;> exact h
theorem w_hnil {x : Str} {fs : List D} (h : er x fs σ S) : wH F .nil x fs σ S nx rt er bk ct := wH_iff.mpr h
theorem w_hskip {c : Str} {i : Option Nat} {b : Cms} {r : Hds} {x : Str} {fs : List D} (hk : F.kin x c = false) (h : wH F r x fs σ S nx rt er bk ct) : wH F (.cons c i b r) x fs σ S nx rt er bk ct := by
  simp only [wH_iff] at h ⊢
  show (if F.kin x c = true then outX i (evSs b { F with ec := some (x, fs) } (inX i σ) S) else evH r F x fs σ S).wp nx rt er bk ct
  rw [if_neg (by simp [hk])]
  exact h
theorem w_hcatch {c : Str} {i : Option Nat} {b : Cms} {r : Hds} {x : Str} {fs : List D} (hk : F.kin x c = true) (h : wSs { F with ec := some (x, fs) } b (inX i σ) S (fun σ S => noX (clr i σ) = true ∧ nx (clr i σ) S) rt (fun _ _ _ _ => False) (fun σ S => noX (clr i σ) = true ∧ bk (clr i σ) S) (fun σ S => noX (clr i σ) = true ∧ ct (clr i σ) S)) : wH F (.cons c i b r) x fs σ S nx rt er bk ct := by
  simp only [wH_iff, wSs_iff] at h ⊢
  show (if F.kin x c = true then outX i (evSs b { F with ec := some (x, fs) } (inX i σ) S) else evH r F x fs σ S).wp nx rt er bk ct
  rw [if_pos hk]
  generalize evSs b { F with ec := some (x, fs) } (inX i σ) S = q at h
  cases q with
  | nx σ S => show RS.wp (if noX (clr i σ) = true then _ else _) _ _ _ _ _; rw [if_pos h.1]; exact h.2
  | rt d S => exact h
  | bk σ S => show RS.wp (if noX (clr i σ) = true then _ else _) _ _ _ _ _; rw [if_pos h.1]; exact h.2
  | ct σ S => show RS.wp (if noX (clr i σ) = true then _ else _) _ _ _ _ _; rw [if_pos h.1]; exact h.2
  | err y gs σ S => exact h
  | no => exact h
/-- a for: a word I over the number of the items done -/
theorem w_forL {g : Gd} {t : Tg} {b : Cms} {ds : List D} (I : Nat → Sl → Sto → Prop) (h0 : I 0 σ S)
    (hs : ∀ k (hk : k < ds.length) σ S, I k σ S → wTg t ds[k] σ fun σ' => wSs F b σ' S (fun σ S => stands g S ∧ I (k + 1) σ S) rt er nx (fun σ S => stands g S ∧ I (k + 1) σ S))
    (he : ∀ σ S, I ds.length σ S → nx σ S) : wFor F g t b ds σ S nx rt er bk ct := by
  rw [wFor_iff]
  have key : ∀ (m k : Nat) (σ : Sl) (S : Sto), k + m = ds.length → I k σ S → (forL g (turnD t fun σ S => evSs b F σ S) (ds.drop k) σ S).wp nx rt er bk ct := by
    intro m
    induction m with
    | zero =>
      intro k σ S e i
      have e' : k = ds.length := by omega
      subst e'
      rw [List.drop_length]
      exact he _ _ i
    | succ m ih =>
      intro k σ S e i
      have hk : k < ds.length := by omega
      rw [List.drop_eq_getElem_cons hk]
      obtain ⟨σ', h1, h2⟩ := wTg_iff.mp (hs k hk σ S i)
      rw [wSs_iff] at h2
      unfold forL
      have e2 : turnD t (fun σ S => evSs b F σ S) ds[k] σ S = evSs b F σ' S := by unfold turnD; rw [h1.eq]
      rw [e2]
      generalize evSs b F σ' S = r at h2
      cases r with
      | nx σ S => dsimp only; rw [if_pos h2.1]; exact ih (k + 1) σ S (by omega) h2.2
      | ct σ S => dsimp only; rw [if_pos h2.1]; exact ih (k + 1) σ S (by omega) h2.2
      | bk σ S => exact h2
      | rt d S => exact h2
      | err x fs σ S => exact h2
      | no => exact h2
  have := key ds.length 0 σ S (by omega) h0
  rwa [List.drop_zero] at this
theorem w_for {t : Tg} {it : Kq.It} {b : Cms} (h : wI F it σ S (fun g l S1 => wFor F g t b l σ S1 nx rt er bk ct) fun x fs S => er x fs σ S) : wS F (.for_ t it b) σ S nx rt er bk ct := by
  simp only [wI_iff, wS_iff, wFor_iff] at h ⊢
  exact wp_of h
/-- a while: a word I with a number that falls -/
theorem w_whl {t : Ex} {b : Cms} (I : Nat → Sl → Sto → Prop) {m : Nat} (hm : m < F.fuel) (h0 : I m σ S)
    (hs : ∀ m σ S, I m σ S → wT F t σ S (fun k S1 => if k = true then wSs F b σ S1 (fun σ S => ∃ m', m' < m ∧ I m' σ S) rt er nx (fun σ S => ∃ m', m' < m ∧ I m' σ S) else nx σ S1) fun x fs S => er x fs σ S) : wS F (.whl t b) σ S nx rt er bk ct := by
  rw [wS_iff]
  show (whlL (evA F t).t (fun σ S => evSs b F σ S) F.fuel σ S).wp nx rt er bk ct
  have key : ∀ (n m : Nat) (σ : Sl) (S : Sto), m < n → I m σ S → (whlL (evA F t).t (fun σ S => evSs b F σ S) n σ S).wp nx rt er bk ct := by
    intro n
    induction n with
    | zero => intro m σ S h; omega
    | succ n ih =>
      intro m σ S hmn i
      unfold whlL
      have h := hs m σ S i
      rw [wT_iff] at h
      refine wp_of (R.wp_mono h (fun k S1 h => ?_) fun _ _ _ => id)
      cases k with
      | false => exact h
      | true =>
        rw [if_pos rfl] at h ⊢
        rw [wSs_iff] at h
        generalize evSs b F σ S1 = r at h
        cases r with
        | nx σ S => obtain ⟨m', h1, h2⟩ := h; exact ih m' σ S (by omega) h2
        | ct σ S => obtain ⟨m', h1, h2⟩ := h; exact ih m' σ S (by omega) h2
        | bk σ S => exact h
        | rt d S => exact h
        | err x fs σ S => exact h
        | no => exact h
  exact key F.fuel m σ S hm h0
end
theorem w_callD {F : Wd} {n : Nat} {b : Cms} {ds : List D} {S : Sto} {Q : D → Sto → Prop} {E : XE} (h : wSs F b (ds.map some ++ List.replicate (n - ds.length) none) S (fun _ S => Q .non S) Q (fun x fs _ S => E x fs S) (fun _ _ => False) fun _ _ => False) : (callD F n b ds S).wp Q E := by
  rw [wSs_iff] at h
  unfold callD
  generalize evSs b F (ds.map some ++ List.replicate (n - ds.length) none) S = r at h
  cases r <;> exact h
/-- a def's call, at a level that is high enough -/
theorem w_fn {T : Tb} {f : Str} {k : Nat} {c : Cms} (ht : T.tab f = some (k, c)) {n : Nat} (hn : 1 ≤ n) {ds : List D} {S : Sto} {Q : D → Sto → Prop} {E : XE} (h : ∀ m, n = m + 1 → wStart k ds fun σ => wSs (W T m) c σ S (fun _ S => Q .non S) Q (fun x fs _ S => E x fs S) (fun _ _ => False) fun _ _ => False) : wR ((W T n).fn f ds S) Q E := by
  rw [wR_iff]
  obtain ⟨m, rfl⟩ : ∃ m, n = m + 1 := ⟨n - 1, by omega⟩
  rw [W_fn ht]
  exact w_callD (wStart_iff.mp (h m rfl))

theorem w_ok {α : Type} {r : R α} {a : α} {S : Sto} {Q : α → Sto → Prop} {E : XE} (h : r = .ok a S) (q : Q a S) : wR r Q E := wR_iff.mpr (wp_ok h q)
theorem w_err {α : Type} {r : R α} {x : Str} {fs : List D} {S : Sto} {Q : α → Sto → Prop} {E : XE} (h : r = .err x fs S) (q : E x fs S) : wR r Q E := wR_iff.mpr (wp_er h q)
theorem w_eq {α : Type} {r : R α} {a : α} {S : Sto} (h : wR r (fun b S' => b = a ∧ S' = S) noE) : r = .ok a S := wp_eq (wR_iff.mp h)
theorem w_ex' {α : Type} {r : R α} {P : α → Sto → Prop} (h : wR r P noE) : ∃ a S, r = .ok a S ∧ P a S := wp_ex (wR_iff.mp h)
theorem w_er {α : Type} {r : R α} {x : Str} {fs : List D} {S : Sto} (h : wR r (fun _ _ => False) fun y gs S' => y = x ∧ gs = fs ∧ S' = S) : r = .err x fs S := wp_err (wR_iff.mp h)
/-- which kind of question is it -/
theorem gE {F : Wd} {e : Ex} {σ : Sl} {S : Sto} {Q : D → Sto → Prop} {E : XE} (h : wE F e σ S Q E) : wE F e σ S Q E := h
theorem gT {F : Wd} {e : Ex} {σ : Sl} {S : Sto} {Q : Bool → Sto → Prop} {E : XE} (h : wT F e σ S Q E) : wT F e σ S Q E := h
theorem gL {F : Wd} {e : Ex} {σ : Sl} {S : Sto} {Q : List D → Sto → Prop} {E : XE} (h : wL F e σ S Q E) : wL F e σ S Q E := h
theorem gA {F : Wd} {e : Exs} {σ : Sl} {S : Sto} {Q : List D → Sto → Prop} {E : XE} (h : wA F e σ S Q E) : wA F e σ S Q E := h
theorem gI {F : Wd} {e : Kq.It} {σ : Sl} {S : Sto} {Q : Gd → List D → Sto → Prop} {E : XE} (h : wI F e σ S Q E) : wI F e σ S Q E := h
theorem gS {F : Wd} {c : Cm} {σ : Sl} {S : Sto} {nx : Sl → Sto → Prop} {rt : D → Sto → Prop} {er : XS} {bk ct : Sl → Sto → Prop} (h : wS F c σ S nx rt er bk ct) : wS F c σ S nx rt er bk ct := h
theorem gC {F : Wd} {c : Cms} {σ : Sl} {S : Sto} {nx : Sl → Sto → Prop} {rt : D → Sto → Prop} {er : XS} {bk ct : Sl → Sto → Prop} (h : wSs F c σ S nx rt er bk ct) : wSs F c σ S nx rt er bk ct := h
theorem gR {α : Type} {r : R α} {Q : α → Sto → Prop} {E : XE} (h : wR r Q E) : wR r Q E := h
theorem gP {r : R (Gd × List D)} {Q : Gd → List D → Sto → Prop} {E : XE} (h : wP r Q E) : wP r Q E := h
theorem w_okp {r : R (Gd × List D)} {g : Gd} {l : List D} {S : Sto} {Q : Gd → List D → Sto → Prop} {E : XE} (h : r = .ok (g, l) S) (q : Q g l S) : wP r Q E := wP_iff.mpr (wp_ok h q)
theorem gIf {b : Bool} {A B : Prop} (h : if b = true then A else B) : if b = true then A else B := h

/-! ### tests decided -/
theorem ift {A B : Prop} (h : A) : if true = true then A else B := by rw [if_pos rfl]; exact h
theorem iff' {A B : Prop} (h : B) : if false = true then A else B := by rw [if_neg (by decide)]; exact h
theorem ifd {p : Prop} [Decidable p] {A B : Prop} (h : p → A) (k : ¬p → B) : if decide p = true then A else B := by
  by_cases hp : p
  · rw [if_pos (by simpa using hp)]; exact h hp
  · rw [if_neg (by simpa using hp)]; exact k hp
theorem ifnd {p : Prop} [Decidable p] {A B : Prop} (h : ¬p → A) (k : p → B) : if (!decide p) = true then A else B := by
  by_cases hp : p
  · rw [if_neg (by simpa using hp)]; exact k hp
  · rw [if_pos (by simpa using hp)]; exact h hp
theorem ifb {b : Bool} {A B : Prop} (h : b = true → A) (k : b = false → B) : if b = true then A else B := by
  cases b
  · rw [if_neg (by decide)]; exact k rfl
  · rw [if_pos rfl]; exact h rfl
theorem ift' {b : Bool} {A B : Prop} (e : b = true) (h : A) : if b = true then A else B := by rw [if_pos e]; exact h
theorem iff'' {b : Bool} {A B : Prop} (e : b = false) (h : B) : if b = true then A else B := by rw [if_neg (by simp [e])]; exact h
theorem and_bl {b : Bool} {p q : Prop} (h : if b = true then p else q) : wAnd (.bl b) p q := by
  unfold wAnd
  cases b
  · exact (show q by simpa using h)
  · exact (show p by simpa using h)
theorem not_bl {b : Bool} {q : Bool → Prop} (h : q (!b)) : wNot (.bl b) q := by unfold wNot; exact h

/-! ### list comprehensions -/
open Classical in
/-- a word I over the number of the items done and what is made so far -/
theorem w_lcE {F : Wd} {g : Gd} {ow : List Nat} {t : Tg} {c e : Ex} {σ : Sl} {ds : List D} {S : Sto} {Q : List D → Sto → Prop} {E : XE} (I : Nat → List D → Sto → Prop) (h0 : I 0 [] S)
    (hs : ∀ k (hk : k < ds.length) xs S, I k xs S → wWp σ ow fun σ0 => wTg t ds[k] σ0 fun σ' => wT F c σ' S (fun b S1 => if b = true then wE F e σ' S1 (fun x S2 => stands g S2 ∧ I (k + 1) (xs ++ [x]) S2) noE else stands g S1 ∧ I (k + 1) xs S1) noE)
    (he : ∀ xs S, I ds.length xs S → xs.length ≤ big ∧ Q xs S) : wLc F g ow t c e σ ds S Q E := by
  rw [wLc_iff]
  unfold lcE
  refine wp_bind ?_
  have key : ∀ (m k : Nat) (xs : List D) (S : Sto) , k + m = ds.length → I k xs S → (lcL g (fun d S2 => match asgT t d (wipeD σ ow) with
        | some σ1 => (((evA F c).t σ1 S2).quiet).bind fun b S3 => if b = true then (((evA F e).v σ1 S3).quiet).bind fun x S4 => .ok (some x) S4 else .ok none S3
        | none => .no) (ds.drop k) S).wp (fun ys S => (if (xs ++ ys).length ≤ big then R.ok (xs ++ ys) S else .no).wp Q E) E := by
    intro m
    induction m with
    | zero =>
      intro k xs S e i
      have e' : k = ds.length := by omega
      subst e'
      rw [List.drop_length]
      obtain ⟨h1, h2⟩ := he _ _ i
      show R.wp (if (xs ++ []).length ≤ big then R.ok (xs ++ []) S else .no) Q E
      rw [List.append_nil, if_pos h1]
      exact h2
    | succ m ih =>
      intro k xs S e' i
      have hk : k < ds.length := by omega
      rw [List.drop_eq_getElem_cons hk]
      obtain ⟨σ', h1, h2⟩ := wTg_iff.mp (wWp_iff.mp (hs k hk xs S i))
      unfold lcL
      rw [h1.eq]
      dsimp only
      rw [wT_iff] at h2
      generalize (evA F c).t σ' S = r at h2
      cases r with
      | no => exact h2.elim
      | err x fs S => exact (show False from h2).elim
      | ok b S1 =>
        cases b with
        | false =>
          have h3 : stands g S1 ∧ I (k + 1) xs S1 := h2
          dsimp only [R.quiet, R.bind]
          simp only [Bool.false_eq_true, if_false]
          rw [if_pos h3.1]
          refine wp_bind (R.wp_mono (ih (k + 1) xs S1 (by omega) h3.2) (fun ys S2 h => ?_) fun _ _ _ => id)
          exact h
        | true =>
          have h3 : wE F e σ' S1 (fun x S2 => stands g S2 ∧ I (k + 1) (xs ++ [x]) S2) noE := h2
          rw [wE_iff] at h3
          dsimp only [R.quiet, R.bind]
          simp only [if_true]
          generalize (evA F e).v σ' S1 = r at h3
          cases r with
          | no => exact h3.elim
          | err x fs S => exact (show False from h3).elim
          | ok d S2 =>
            have h4 : stands g S2 ∧ I (k + 1) (xs ++ [d]) S2 := h3
            dsimp only
            rw [if_pos h4.1]
            refine wp_bind (R.wp_mono (ih (k + 1) (xs ++ [d]) S2 (by omega) h4.2) (fun ys S3 h => ?_) fun _ _ _ => id)
            show R.wp (if (xs ++ (d :: ys)).length ≤ big then R.ok (xs ++ (d :: ys)) S3 else .no) Q E
            rw [List.append_cons]
            exact h
  have := key ds.length 0 [] S (by omega) h0
  rw [List.drop_zero] at this
  exact R.wp_mono this (fun ys S h => h) fun _ _ _ => id
/-- each item by itself, the store as it was, all are taken -/
theorem w_lcM {α : Type} {F : Wd} {g : Gd} {ow : List Nat} {t : Tg} {e : Ex} {σ : Sl} {ds : List D} {S : Sto} {Q : List D → Sto → Prop} {E : XE} (xs : List α) (p q : α → D) (hd : ds = xs.map p) (hl : xs.length ≤ big) (hg : stands g S)
    (hs : wWp σ ow fun σ0 => ∀ x ∈ xs, wTg t (p x) σ0 fun σ' => wE F e σ' S (fun y S2 => y = q x ∧ S2 = S) noE) (h : Q (xs.map q) S) : wLc F g ow t (.con (.bl true)) e σ ds S Q E := by
  subst hd
  refine w_lcE (fun k ys S' => ys = (xs.take k).map q ∧ S' = S) ⟨rfl, rfl⟩ (fun k hk ys S' i => ?_) fun ys S' i => ?_
  · obtain ⟨rfl, rfl⟩ := i
    have hk' : k < xs.length := by simpa using hk
    obtain ⟨σ', h1, h2⟩ := wTg_iff.mp (wWp_iff.mp hs xs[k] (List.getElem_mem hk'))
    refine wWp_iff.mpr (wTg_iff.mpr ⟨σ', by rw [List.getElem_map]; exact h1, ?_⟩)
    show wT F _ σ' S' _ noE
    rw [wT_iff]
    show wE F e σ' S' _ noE
    rw [wE_iff] at h2 ⊢
    refine R.wp_mono h2 (fun y S2 h => ?_) fun _ _ _ => id
    obtain ⟨rfl, rfl⟩ := h
    refine ⟨hg, ?_, rfl⟩
    rw [List.take_succ_eq_append_getElem hk', List.map_append]
    rfl
  · obtain ⟨rfl, rfl⟩ := i
    rw [List.length_map, List.length_map, List.take_length]
    exact ⟨hl, h⟩
theorem W_fn_eq {T : Tb} {n : Nat} {f : Str} {ds : List D} {S : Sto} {d : D} {S' : Sto} (h : wR ((W T n).fn f ds S) (fun b S1 => b = d ∧ S1 = S') noE) : (W T n).fn f ds S = .ok d S' := wp_eq (wR_iff.mp h)
end Kq
set_option Elab.async false
set_option linter.all false
set_option maxRecDepth 100000
set_option maxHeartbeats 2000000
set_option autoImplicit false
/-! # The Q layer, part T: every def keeps its promise at every level -/
namespace Kq
open PySem PySem.Spec PyProof.Rows L2

/-- a def at an address, as the head and its code tell it; key: its name in the table -/
structure FnA (G : Gv) (T : Tb) (al : List (Str × Sg)) (key : Str) (f : Addr) (fd : FuncData) (ps : List Str) : Prop where
  ex : ∃ (N : List Str) (code : Cms) (x qual : Str) (params : Arguments) (body : List Stmt) (scope : Scope) (dvs : List V) (kws : List (Str × V)),
    FunD G.K x qual params body scope dvs kws f fd ∧ scopeB N ps scope = true ∧ comp ⟨N, scope, fun _ => true, true, false, al⟩ body = some code ∧ T.tab key = some (N.length, code)
/-- a def, as the head and its code tell it -/
structure FnS (G : Gv) (T : Tb) (al : List (Str × Sg)) (x : Str) (ps : List Str) (po : Bool) (sh : List Shape) : Prop where
  ex : ∃ (fd : FuncData) (N : List Str) (code : Cms) (y qual : Str) (params : Arguments) (body : List Stmt) (scope : Scope) (dvs : List V) (kws : List (Str × V)),
    G.mg x = some (.ref (He.ga G.K x)) ∧ PySem.W.keepIn G.K (.ref (He.ga G.K x)) = true ∧ FunD G.K y qual params body scope dvs kws (He.ga G.K x) fd ∧ scopeB N ps scope = true ∧ comp ⟨N, scope, fun _ => true, true, false, al⟩ body = some code ∧ T.tab x = some (N.length, code) ∧ (po = true → Binds G.K fd ps []) ∧ ∀ z ∈ sh, ShOk G.K fd ps z
/-- a class that is made, a method: likewise -/
structure CxS (G : Gv) (kn : Kn) (T : Tb) (al : List (Str × Sg)) (x key : Str) (ps : List Str) : Prop where
  ex : ∃ (C f : Addr) (fd : FuncData), G.mg x = some (.ref C) ∧ x ∈ kn.pn ∧ kn.cls x = some C ∧ Mk G.K C f ∧ FnA G T al key f fd ps ∧ Binds G.K fd ps []
structure MtS (G : Gv) (kn : Kn) (T : Tb) (al : List (Str × Sg)) (key c m : Str) (ps : List Str) : Prop where
  ex : ∃ (C f : Addr) (fd : FuncData), c ∈ kn.pn ∧ kn.cls c = some C ∧ Meth G.K C m f ∧ FnA G T al key f fd ps ∧ Binds G.K fd ps []
def StS (G : Gv) (kn : Kn) (T : Tb) (al : List (Str × Sg)) : List (Str × Sg) → Prop
  | [] => True
  | (x, s) :: r => ((x == ("__debug__" : Str)) = false ∧ match s with
      | .fn ps po sh => FnS G T al x ps po sh
      | .cls key ps => CxS G kn T al x key ps
      | .met c m ps => MtS G kn T al x c m ps
      | s => GF G kn (W T 0) 0 x s) ∧ StS G kn T al r
theorem fn0 {G : Gv} {kn : Kn} {f : Addr} {fd : FuncData} {ps : List Str} : FnOk G.P G.w G.K G.mg G.base (L2.CX G.P G.w) 0 f fd ps (spOf kn ps fun _ _ => .no) :=
  ⟨fun _ _ _ _ h => h.1, fun _ _ _ _ _ _ _ _ _ _ _ _ _ ⟨_, _, _, _, _, _, h⟩ => (show False from h).elim⟩
theorem W_wf (T : Tb) (n : Nat) : (W T n).wf bigFuel = W T n := by cases n <;> rfl
theorem levels {G : Gv} {kn : Kn} {T : Tb} {al : List (Str × Sg)} (xg : XnG G kn (W T 0)) (h : StS G kn T al al) (nr : noRep al = true) : ∀ n, GFs G kn (W T n) (2 * n + 2) al := by
  have xg' : ∀ n, XnG G kn (W T n) := fun n => ⟨xg.hK, xg.ec, by rw [W_kin]; exact xg.exm, by rw [W_kin, W_fld]; exact xg.xn, xg.po⟩
  have base : ∀ l, StS G kn T al l → GFs G kn (W T 0) 2 l := by
    intro l
    induction l with
    | nil => exact fun _ => trivial
    | cons p r ih =>
      intro h
      obtain ⟨x, s⟩ := p
      obtain ⟨⟨h1, h2⟩, h3⟩ := h
      refine ⟨h1, ?_, ih h3⟩
      cases s with
      | fn ps po sh =>
        obtain ⟨fd, N, code, y, qual, params, body, scope, dvs, kws, e1, e2, e3, e4, e5, e6, e7, e8⟩ := FnS.ex h2
        exact ⟨_, fd, e1, e2, fn0.mono (by omega), e7, e8⟩
      | exc fs => exact h2
      | blt => exact h2
      | «bif» b => exact h2
      | con d => exact h2
      | cls key ps =>
        obtain ⟨C, f, fd, e1, e2, e3, e4, e5, e6⟩ := CxS.ex h2
        exact ⟨C, f, fd, e1, e2, e3, e4, fn0.mono (by omega), e6⟩
      | met c m ps =>
        obtain ⟨C, f, fd, e1, e2, e3, e4, e5⟩ := MtS.ex h2
        exact ⟨C, f, fd, e1, e2, e3, fn0.mono (by omega), e5⟩
      | hint cs => exact trivial
      | fld f cs => exact h2
      | rep => exact h2
      | dic kvs => exact h2
  intro n
  induction n with
  | zero => exact base al h
  | succ n ih =>
    have fa : ∀ {key : Str} {f : Addr} {fd : FuncData} {ps : List Str}, FnA G T al key f fd ps → FnOk G.P G.w G.K G.mg G.base (L2.CX G.P G.w) (2 * n + 2 + 2) f fd ps (spOf kn ps ((W T (n + 1)).fn key)) := by
      intro key f fd ps hf
      obtain ⟨N, code, x, qual, params, body, scope, dvs, kws, e3, e4, e5, e6⟩ := hf.ex
      refine def_ok e3 e4 e5 (xg' n) (by omega) ih (fun ds S _ _ => ⟨bigFuel, ?_⟩) nr
      rw [W_wf, W_fn e6]
    have step : ∀ l, StS G kn T al l → GFs G kn (W T (n + 1)) (2 * n + 2 + 2) l := by
      intro l
      induction l with
      | nil => exact fun _ => trivial
      | cons p r ih2 =>
        intro h
        obtain ⟨x, s⟩ := p
        obtain ⟨⟨h1, h2⟩, h3⟩ := h
        refine ⟨h1, ?_, ih2 h3⟩
        cases s with
        | fn ps po sh =>
          obtain ⟨fd, N, code, y, qual, params, body, scope, dvs, kws, e1, e2, e3, e4, e5, e6, e7, e8⟩ := FnS.ex h2
          exact ⟨_, fd, e1, e2, fa ⟨N, code, _, qual, params, body, scope, dvs, kws, e3, e4, e5, e6⟩, e7, e8⟩
        | exc fs => exact h2
        | blt => exact h2
        | «bif» b => exact h2
        | con d => exact h2
        | cls key ps =>
          obtain ⟨C, f, fd, e1, e2, e3, e4, e5, e6⟩ := CxS.ex h2
          exact ⟨C, f, fd, e1, e2, e3, e4, fa e5, e6⟩
        | met c m ps =>
          obtain ⟨C, f, fd, e1, e2, e3, e4, e5⟩ := MtS.ex h2
          exact ⟨C, f, fd, e1, e2, e3, fa e4, e5⟩
        | hint cs => exact trivial
        | fld f cs => exact h2
        | rep => exact h2
        | dic kvs => exact h2
    exact step al h
/-- the law's def, at a level -/
theorem law_fn {G : Gv} {kn : Kn} {T : Tb} {al : List (Str × Sg)} {k : Nat} {ps : List Str} (xg : XnG G kn (W T 0)) (h : StS G kn T al al) (nr : noRep al = true) {x : Str} {f : Addr} {fd : FuncData} (hm : G.mg x = some (.ref f)) {qual : Str} {params : Arguments} {body : List Stmt} {scope : Scope} {dvs : List V} {kws : List (Str × V)} (F : FunD G.K x qual params body scope dvs kws f fd) {N : List Str} {code : Cms} (e4 : scopeB N ps scope = true) (e5 : comp ⟨N, scope, fun _ => true, true, false, al⟩ body = some code) (e6 : T.tab x = some (N.length, code)) :
    FnOk G.P G.w G.K G.mg G.base (L2.CX G.P G.w) (2 * k + 4) f fd ps (spOf kn ps ((W T (k + 1)).fn x)) := by
  have xg' : XnG G kn (W T k) := ⟨xg.hK, xg.ec, by rw [W_kin]; exact xg.exm, by rw [W_kin, W_fld]; exact xg.xn, xg.po⟩
  refine def_ok F e4 e5 xg' (by omega) (levels xg h nr k) (fun ds S _ _ => ⟨bigFuel, ?_⟩) nr
  rw [W_wf, W_fn e6]
/-- the law's def, at a level; it may ask repr -/
theorem law_fnQ {G : Gv} {kn : Kn} {T : Tb} {al : List (Str × Sg)} {k : Nat} {ps : List Str} (xg : XnG G kn (W T 0)) (h : StS G kn T al al) (nr : noRep al = true) (hr : G.mg "repr" = none) {x : Str} {f : Addr} {fd : FuncData} {qual : Str} {params : Arguments} {body : List Stmt} {scope : Scope} {dvs : List V} {kws : List (Str × V)}
    (F : FunD G.K x qual params body scope dvs kws f fd) {N : List Str} {code : Cms} (e4 : scopeB N ps scope = true) (e5 : comp ⟨N, scope, fun _ => true, true, false, ("repr", .rep) :: al⟩ body = some code) (e6 : T.tab x = some (N.length, code)) :
    LawOk G kn (2 * k + 4) f fd ps ((W T (k + 1)).fn x) := by
  have xg' : XnG G kn (W T k) := ⟨xg.hK, xg.ec, by rw [W_kin]; exact xg.exm, by rw [W_kin, W_fld]; exact xg.xn, xg.po⟩
  intro s H args us vs Q E room e0 hb hv sp
  refine law_okQ F e4 e5 xg' (by omega) ⟨by decide, hr, levels xg h nr k⟩ (fun ds S _ _ => ⟨bigFuel, ?_⟩) room e0 hb hv sp
  rw [W_wf, W_fn e6]
end Kq
set_option Elab.async false
set_option linter.all false
set_option maxRecDepth 100000
set_option maxHeartbeats 2000000
set_option autoImplicit false
/-! # The Q layer, part U: ratios as Lean's own, sizes, what operations give -/
namespace Kq
open PySem PySem.Spec PyProof.Rows L2

/-! ### data -/
def dQ (q : Rat) : D := .tup [.int q.num, .int q.den]
def dV (v : List Rat) : D := .tup (v.map dQ)
def dM (m : List (List Rat)) : D := .tup (m.map dV)
theorem divInt_nA {a b : Int} (h : b ≠ 0) : (Rat.divInt a b).num = nA a b ∧ ((Rat.divInt a b).den : Int) = nB a b := by
  have h1 : Rat.divInt (nA a b) (nB a b) = Rat.divInt a b := by
    rw [Rat.divInt_eq_divInt_iff (by have := nB_pos (a := a) h; omega) h]
    exact n_cross
  have hp := nB_pos (a := a) h
  have hg := n_gcd (a := a) h
  rw [← h1]
  generalize nA a b = x at *
  generalize nB a b = y at *
  obtain ⟨n, rfl⟩ := Int.eq_ofNat_of_zero_le (Int.le_of_lt hp)
  have hn : n ≠ 0 := by omega
  have c : x.natAbs.Coprime n := by simpa [Int.gcd] using hg
  have e : (⟨x, n, hn, c⟩ : Rat) = Rat.divInt x n := Rat.mk_eq_divInt
  rw [← e]
  exact ⟨rfl, rfl⟩
theorem dQ_divInt {a b : Int} (h : b ≠ 0) : D.tup [.int (nA a b), .int (nB a b)] = dQ (Rat.divInt a b) := by
  obtain ⟨h1, h2⟩ := divInt_nA (a := a) h
  unfold dQ
  rw [h1, h2]
theorem divInt_cross {a b : Int} (h : b ≠ 0) : (Rat.divInt a b).num * b = a * (Rat.divInt a b).den := by
  obtain ⟨h1, h2⟩ := divInt_nA (a := a) h
  rw [h1, h2]
  exact n_cross
theorem den_ne (q : Rat) : (q.den : Int) ≠ 0 := by have := q.den_nz; omega
theorem den_pos (q : Rat) : (0 : Int) < q.den := by have := q.den_pos; omega
theorem q_cop (q : Rat) : Nat.gcd q.num.natAbs q.den = 1 := q.reduced
theorem num_eq (q : Rat) : (q.num : Rat) = q * ((q.den : Int) : Rat) := by
  have h := Rat.num_divInt_den q
  rw [Rat.divInt_eq_div] at h
  have h0 : ((q.den : Int) : Rat) ≠ 0 := fun z => den_ne q (by exact_mod_cast (Rat.intCast_eq_zero_iff.mp z))
  calc (q.num : Rat) = (q.num : Rat) / ((q.den : Int) : Rat) * ((q.den : Int) : Rat) := (Rat.div_mul_cancel h0).symm
    _ = q * ((q.den : Int) : Rat) := by rw [h]
theorem add_divInt (p q : Rat) : Rat.divInt (p.num * q.den + q.num * p.den) (p.den * q.den) = p + q := by
  conv => rhs; rw [← Rat.num_divInt_den p, ← Rat.num_divInt_den q]
  rw [Rat.divInt_add_divInt _ _ (den_ne p) (den_ne q)]
theorem sub_divInt (p q : Rat) : Rat.divInt (p.num * q.den - q.num * p.den) (p.den * q.den) = p - q := by
  conv => rhs; rw [← Rat.num_divInt_den p, ← Rat.num_divInt_den q]
  rw [Rat.divInt_sub_divInt _ _ (den_ne p) (den_ne q)]
theorem mul_divInt (p q : Rat) : Rat.divInt (p.num * q.num) (p.den * q.den) = p * q := by
  conv => rhs; rw [← Rat.num_divInt_den p, ← Rat.num_divInt_den q]
  rw [Rat.divInt_mul_divInt]
theorem div_divInt (p q : Rat) : Rat.divInt (p.num * q.den) (p.den * q.num) = p / q := by
  conv => rhs; rw [← Rat.num_divInt_den p, ← Rat.num_divInt_den q]
  rw [Rat.div_def, Rat.inv_divInt, Rat.divInt_mul_divInt]
theorem dQ_neg (p : Rat) : D.tup [.int (-p.num), .int p.den] = dQ (-p) := by
  unfold dQ
  rw [Rat.neg_num, Rat.neg_den]
theorem dQ_int (i : Int) : D.tup [.int i, .int 1] = dQ (i : Rat) := by
  unfold dQ
  rw [Rat.num_intCast, Rat.den_intCast]
  rfl
theorem dQ_inj {p q : Rat} (h : dQ p = dQ q) : p = q := by
  unfold dQ at h
  injection h with h
  injection h with h1 h2
  injection h1 with h1
  injection h2 with h2 _
  injection h2 with h2
  exact Rat.ext h1 (by exact_mod_cast h2)

theorem q0_eq : D.tup [.int 0, .int 1] = dQ 0 := by
  have := dQ_int 0
  rw [this]; rfl
theorem q1_eq : D.tup [.int 1, .int 1] = dQ 1 := by
  have := dQ_int 1
  rw [this]; rfl
theorem qm_eq : D.tup [.int (-1), .int 1] = dQ (-1) := by
  have := dQ_int (-1)
  rw [this]; rfl
theorem qh_eq : D.tup [.int 1, .int 2] = dQ (1 / 2) := by
  have : (1 / 2 : Rat) = Rat.divInt 1 2 := by rw [Rat.divInt_eq_div]; rfl
  rw [this]; rfl
section
variable {F : Wd} {σ : Sl} {S : Sto} {Q : D → Sto → Prop} {E : XE}
theorem w_con0 (h : Q (dQ 0) S) : wE F (.con (.tup [.int 0, .int 1])) σ S Q E := w_con (by rw [q0_eq]; exact h)
theorem w_con1 (h : Q (dQ 1) S) : wE F (.con (.tup [.int 1, .int 1])) σ S Q E := w_con (by rw [q1_eq]; exact h)
theorem w_conh (h : Q (dQ (1 / 2)) S) : wE F (.con (.tup [.int 1, .int 2])) σ S Q E := w_con (by rw [qh_eq]; exact h)
theorem w_tup0 (h : Q (dQ 0) S) : wE F (.tup (.cons (.con (.int 0)) (.cons (.con (.int 1)) .nil))) σ S Q E := w_tup (w_acons (w_con (w_acons (w_con (w_anil (by rw [q0_eq]; exact h))))))
theorem w_tup1 (h : Q (dQ 1) S) : wE F (.tup (.cons (.con (.int 1)) (.cons (.con (.int 1)) .nil))) σ S Q E := w_tup (w_acons (w_con (w_acons (w_con (w_anil (by rw [q1_eq]; exact h))))))
theorem w_tupm (h : Q (dQ (-1)) S) : wE F (.tup (.cons (.neg (.con (.int 1))) (.cons (.con (.int 1)) .nil))) σ S Q E := w_tup (w_acons (w_neg (w_con (wR_iff.mpr (wp_ok (ev_neg S 1) (w_acons (w_con (w_anil (by rw [qm_eq]; exact h)))))))))
end
/-! ### sizes -/
def lt2 (i : Int) (k : Nat) : Prop := i.natAbs < 2 ^ k
instance (i : Int) (k : Nat) : Decidable (lt2 i k) := by unfold lt2; infer_instance
structure szQ (q : Rat) (k : Nat) : Prop where
  num : lt2 q.num k
  den : lt2 (q.den : Int) k
theorem lt2_lit {i : Int} (h : i.natAbs < 2 ^ 70) : lt2 i 70 := h
theorem lt2_mono {i : Int} {a b : Nat} (h : lt2 i a) (hab : a ≤ b) : lt2 i b := Nat.lt_of_lt_of_le h (Nat.pow_le_pow_right (by decide) hab)
theorem szQ.mono {q : Rat} {a b : Nat} (h : szQ q a) (hab : a ≤ b) : szQ q b := ⟨lt2_mono h.1 hab, lt2_mono h.2 hab⟩
theorem lt2_mul {i j : Int} {a b : Nat} (hi : lt2 i a) (hj : lt2 j b) : lt2 (i * j) (a + b) := ab_mul hi hj
theorem lt2_add {i j : Int} {a b : Nat} (hi : lt2 i a) (hj : lt2 j b) : lt2 (i + j) (max a b + 1) := ab_add (ab_mono hi (Nat.le_max_left ..)) (ab_mono hj (Nat.le_max_right ..))
theorem lt2_sub {i j : Int} {a b : Nat} (hi : lt2 i a) (hj : lt2 j b) : lt2 (i - j) (max a b + 1) := ab_sub (ab_mono hi (Nat.le_max_left ..)) (ab_mono hj (Nat.le_max_right ..))
theorem lt2_neg {i : Int} {a : Nat} (hi : lt2 i a) : lt2 (-i) a := by unfold lt2; rw [Int.natAbs_neg]; exact hi
theorem lt2_abs {i : Int} {a : Nat} (hi : lt2 i a) : lt2 (i.natAbs : Int) a := by unfold lt2; rw [Int.natAbs_natCast]; exact hi
theorem lt2_ediv {i j : Int} {a : Nat} (hi : lt2 i a) : lt2 (i / j) a := by
  unfold lt2 at hi ⊢
  refine Nat.lt_of_le_of_lt ?_ hi
  rw [Int.natAbs_ediv]
  by_cases h : 0 ≤ i ∨ j = 0 ∨ j ∣ i
  · rw [if_pos h]
    exact Nat.div_le_self ..
  · rw [if_neg h]
    have h1 : ¬0 ≤ i := fun z => h (.inl z)
    have h2 : j ≠ 0 := fun z => h (.inr (.inl z))
    have h3 : ¬j ∣ i := fun z => h (.inr (.inr z))
    have hj : 2 ≤ j.natAbs := by
      by_cases e : j.natAbs = 1
      · exact absurd (Int.natAbs_dvd_natAbs.mp (by rw [e]; exact Nat.one_dvd _)) h3
      · omega
    have := Nat.div_le_div_left hj (by decide : 0 < 2) (a := i.natAbs)
    omega
theorem lt2_le {i : Int} {a : Nat} (h0 : -(2 ^ a : Nat) < i) (h1 : i < (2 ^ a : Nat)) : lt2 i a := by unfold lt2; omega
theorem lt2_log {i : Int} {k : Nat} (h : lt2 i k) : i.natAbs.log2 ≤ k := by
  unfold lt2 at h
  by_cases h0 : i.natAbs = 0
  · rw [h0]; simp
  · exact Nat.le_of_lt ((Nat.log2_lt h0).mpr h)
theorem mul_ok {i j : Int} {a b : Nat} (hi : lt2 i a) (hj : lt2 j b) (h : a + b < 100000000) : mulOk i j = true := by
  have := lt2_log hi
  have := lt2_log hj
  unfold mulOk
  rw [decide_eq_true_eq]
  omega
theorem div_ok {i j : Int} {b : Nat} (hj : lt2 j b) (hb : b ≤ 8990) (h0 : j ≠ 0) : divOk i j = true := by
  have h := lt2_log hj
  unfold divOk
  rw [Bool.and_eq_true, decide_eq_true_eq, Bool.not_eq_true']
  refine ⟨h0, ?_⟩
  unfold Builtin.divisionGoesByPylong
  simp only [Bool.and_eq_false_iff, decide_eq_false_iff_not]
  left
  split <;> omega
theorem div_okS {i j : Int} {a : Nat} (hi : lt2 i a) (ha : a ≤ 8990) (h0 : j ≠ 0) : divOk i j = true := by
  have h := lt2_log hi
  unfold divOk
  rw [Bool.and_eq_true, decide_eq_true_eq, Bool.not_eq_true']
  refine ⟨h0, ?_⟩
  unfold Builtin.divisionGoesByPylong
  simp only [Bool.and_eq_false_iff, decide_eq_false_iff_not]
  by_cases hj : (if (j == 0) = true then 0 else j.natAbs.log2 / 30 + 1) > 300
  · right
    split at hj
    · omega
    · rename_i hz
      rw [if_neg hz]
      split <;> omega
  · left; exact hj
theorem szQ_divInt {a b : Int} {k : Nat} (hb : b ≠ 0) (ha : lt2 a k) (hs : lt2 b k) : szQ (Rat.divInt a b) k := by
  obtain ⟨h1, h2⟩ := divInt_nA (a := a) hb
  exact ⟨by rw [h1]; exact Nat.lt_of_le_of_lt (nA_le hb) ha, by rw [h2]; exact Nat.lt_of_le_of_lt (nB_le hb) hs⟩
theorem szQ_add {p q : Rat} {a b : Nat} (hp : szQ p a) (hq : szQ q b) : szQ (p + q) (a + b + 1) := by
  rw [← add_divInt]
  refine szQ_divInt (Int.mul_ne_zero (den_ne p) (den_ne q)) ?_ (lt2_mono (lt2_mul hp.2 hq.2) (by omega))
  refine lt2_mono (lt2_add (lt2_mul hp.1 hq.2) (lt2_mul hq.1 hp.2)) ?_
  rw [Nat.add_comm b a, Nat.max_self]
  exact Nat.le_refl _
theorem szQ_sub {p q : Rat} {a b : Nat} (hp : szQ p a) (hq : szQ q b) : szQ (p - q) (a + b + 1) := by
  rw [← sub_divInt]
  refine szQ_divInt (Int.mul_ne_zero (den_ne p) (den_ne q)) ?_ (lt2_mono (lt2_mul hp.2 hq.2) (by omega))
  refine lt2_mono (lt2_sub (lt2_mul hp.1 hq.2) (lt2_mul hq.1 hp.2)) ?_
  rw [Nat.add_comm b a, Nat.max_self]
  exact Nat.le_refl _
theorem szQ_mul {p q : Rat} {a b : Nat} (hp : szQ p a) (hq : szQ q b) : szQ (p * q) (a + b) := by
  rw [← mul_divInt]
  exact szQ_divInt (Int.mul_ne_zero (den_ne p) (den_ne q)) (lt2_mul hp.1 hq.1) (lt2_mul hp.2 hq.2)
theorem szQ_0 {k : Nat} (h : 1 ≤ k) : szQ 0 k := ⟨lt2_mono (show lt2 0 1 by decide) h, lt2_mono (show lt2 1 1 by decide) h⟩
theorem szQ_1 {k : Nat} (h : 1 ≤ k) : szQ 1 k := ⟨lt2_mono (show lt2 1 1 by decide) h, lt2_mono (show lt2 1 1 by decide) h⟩
theorem szQ_h {k : Nat} (h : 2 ≤ k) : szQ (1 / 2) k := by
  have : (1 / 2 : Rat) = Rat.divInt 1 2 := by rw [Rat.divInt_eq_div]; rfl
  rw [this]
  exact ⟨lt2_mono (show lt2 1 2 by decide) h, lt2_mono (show lt2 2 2 by decide) h⟩
theorem szQ_neg {p : Rat} {a : Nat} (hp : szQ p a) : szQ (-p) a := ⟨by rw [Rat.neg_num]; exact lt2_neg hp.1, by rw [Rat.neg_den]; exact hp.2⟩

/-! ### what operations give -/
section
variable (S : Sto) (i j : Int) (q : Rat)
theorem o_q0 : idxD (dQ q) (.int 0) S = .ok (.int q.num) S := idx_tup0 S _ _
theorem o_q1 : idxD (dQ q) (.int 1) S = .ok (.int q.den) S := idx_tup1 S _ _ _
theorem o_idx {ds : List D} {d : D} {i : Int} {S : Sto} {n : Nat} (hi : i = (n : Int)) (h : ds[n]? = some d) : idxD (.tup ds) (.int i) S = .ok d S := by
  obtain ⟨h1, h2⟩ := List.getElem?_eq_some_iff.mp h
  rw [idx_tup S hi h1, h2]
theorem o_idxr {ds : List D} {d : D} {i : Int} {S : Sto} {n m : Nat} {mu : Bool} (hS : S[m]? = some (.lst mu ds)) (hi : i = (n : Int)) (h : ds[n]? = some d) : idxD (.ref m) (.int i) S = .ok d S := by
  obtain ⟨h1, h2⟩ := List.getElem?_eq_some_iff.mp h
  rw [idx_ref hS hi h1, h2]
theorem o_lenr {n : Nat} {mu : Bool} {ds : List D} {S : Sto} (h : S[n]? = some (.lst mu ds)) : biD .len [.ref n] S = .ok (.int ds.length) S := bi_len_ref h
theorem o_itemsT (ds : List D) : itemsR (.tup ds) S = .ok ds S := rfl
theorem o_items {n : Nat} {mu : Bool} {ds : List D} {S : Sto} (h : S[n]? = some (.lst mu ds)) : itemsR (.ref n) S = .ok ds S := by unfold itemsR itemsD; simp only [h]
theorem o_itT (ds : List D) : itG (.tup ds) S = .ok ([], ds) S := rfl
theorem o_it {n : Nat} {mu : Bool} {ds : List D} {S : Sto} (h : S[n]? = some (.lst mu ds)) : itG (.ref n) S = .ok ([(n, .lst mu ds)], ds) S := by unfold itG srcD; simp only [h]
theorem o_rng {n : Int} {S : Sto} (h : -1000000 < n ∧ n < 1000000) : rngD [.int n] S = .ok ([], (List.range n.toNat).map fun i => .int (Int.ofNat i)) S := by
  have h' : n < big ∧ -big < n := ⟨h.2, h.1⟩
  unfold rngD; simp only [h', and_self, if_true]
theorem o_rng2 {m n : Int} {S : Sto} (h : (-1000000 < m ∧ m < 1000000) ∧ -1000000 < n ∧ n < 1000000) : rngD [.int m, .int n] S = .ok ([], (List.range (n - m).toNat).map fun i => .int (m + Int.ofNat i)) S := by
  have h' : -big < m ∧ m < big ∧ n < big ∧ -big < n := ⟨h.1.1, h.1.2, h.2.2, h.2.1⟩
  unfold rngD; simp only [h', and_self, if_true]
theorem o_max : biD .max [.int i, .int j] S = .ok (.int (max i j)) S := by
  rw [bi_max]
  congr 2
  split <;> omega
theorem o_min : biD .min [.int i, .int j] S = .ok (.int (min i j)) S := by
  rw [bi_min]
  congr 2
  split <;> omega
theorem o_addL {n m : Nat} {x y : List D} {S : Sto} (h1 : S[n]? = some (.lst true x)) (h2 : S[m]? = some (.lst true y)) (h : x.length + y.length ≤ 1000000) : binD .add (.ref n) (.ref m) S = .ok (.ref S.length) (S ++ [.lst true (x ++ y)]) := by
  unfold binD
  simp only [h1, h2]
  rw [if_pos (show x.length + y.length ≤ big from h)]
theorem o_setD {n i : Nat} {xs : List D} {d : D} {k : Int} {S : Sto} (hS : S[n]? = some (.lst true xs)) (hk : k = (i : Int)) (hi : i < xs.length) : setD (.ref n) (.int k) d S = some (S.set n (.lst true (xs.set i d))) := by
  unfold setD
  simp only [hS]
  have : L2.ixN xs.length k = some i := by
    subst hk
    unfold L2.ixN
    rw [if_pos (Int.natCast_nonneg i), if_pos (by omega)]
    simp
  rw [this]
theorem o_setget {S : Sto} {n : Nat} {o p : Ob} (h : S[n]? = some o) : (S.set n p)[n]? = some p := by
  obtain ⟨h1, _⟩ := List.getElem?_eq_some_iff.mp h
  rw [List.getElem?_set_self h1]
theorem o_setne {S : Sto} {n m : Nat} {o p : Ob} (h : S[m]? = some o) (hn : n ≠ m) : (S.set n p)[m]? = some o := by
  rw [List.getElem?_set_ne hn, h]
theorem o_intb (b : Bool) : biD .int [.bl b] S = .ok (.int (if b = true then 1 else 0)) S := rfl
theorem flat_rep {α : Type} (x : α) : ∀ n : Nat, (List.replicate n [x]).flatten = List.replicate n x
  | 0 => rfl
  | n + 1 => by rw [List.replicate_succ, List.flatten_cons, flat_rep x n, List.replicate_succ]; rfl
theorem o_rep {d : D} {j : Int} {S : Sto} (h : -1000000 < j ∧ j < 1000000) : binD .mul (.tup [d]) (.int j) S = .ok (.tup (List.replicate j.toNat d)) S := by
  unfold binD
  simp only
  rw [if_pos ⟨h.1, h.2, by show [d].length * j.toNat ≤ 1000000; simp; omega⟩, flat_rep]
theorem o_rev (ds : List D) : binD .rev (.tup ds) .non S = .ok (.tup ds.reverse) S := rfl
theorem o_part0 : partR [] S = .ok none S := rfl
theorem o_part1 : partR [.int i] S = .ok (some i) S := rfl
theorem o_slT (ds : List D) (l h : Option Int) : slD (.tup ds) l h S = .ok (.tup (cutD ds l h)) S := rfl
theorem o_slr {n : Nat} {mu : Bool} {ds : List D} {l u : Option Int} {S : Sto} (h : S[n]? = some (.lst mu ds)) : slD (.ref n) l u S = .ok (.ref S.length) (S ++ [.lst true (cutD ds l u)]) := by unfold slD; simp only [h]
theorem o_zip (x y : List D) : zipD (.tup x) (.tup y) S = .ok ([], (x.zip y).map fun p => .tup [p.1, p.2]) S := rfl
theorem o_new {S : Sto} {o : Ob} : (S ++ [o])[S.length]? = some o := by simp
theorem o_old {S J : Sto} {n : Nat} {o : Ob} (h : S[n]? = some o) : (S ++ J)[n]? = some o := by
  obtain ⟨h1, h2⟩ := List.getElem?_eq_some_iff.mp h
  rw [List.getElem?_append_left h1, h]
theorem o_set {S : Sto} {o p : Ob} : (S ++ [o]).set S.length p = S ++ [p] := by simp
theorem o_app {n : Nat} {xs : List D} {d : D} {S : Sto} (h : S[n]? = some (.lst true xs)) (hl : xs.length < big) : bmD .append (.ref n) [d] S = .ok .non (S.set n (.lst true (xs ++ [d]))) := by
  unfold bmD; simp only [h, if_pos hl]
theorem o_appC {n : Nat} {xs : List D} {S : Sto} (h : S[n]? = some (.lst true xs)) : bmChk .append (.ref n) S = true := by
  unfold bmChk; simp only [h]
theorem o_tt (ds : List D) : isiT (.tup ds) "tuple" S = .ok (.bl true) S := rfl
theorem o_ii : isiT (.int i) "int" S = .ok (.bl true) S := rfl
theorem o_ib : isiT (.int i) "bool" S = .ok (.bl false) S := rfl
theorem o_bb (b : Bool) : isiT (.bl b) "bool" S = .ok (.bl true) S := rfl
theorem o_bi (b : Bool) : isiT (.bl b) "int" S = .ok (.bl true) S := rfl
theorem stands_nil : stands [] S := fun _ h => nomatch h
theorem stands_one {n : Nat} {o : Ob} {S : Sto} (h : S[n]? = some o) : stands [(n, o)] S := fun p hp => by
  rcases List.mem_cons.mp hp with rfl | hp
  · exact h
  · cases hp
theorem eqv_bl (a b : Bool) : PyData.eqv (.bool a) (.bool b) = decide (a = b) := by
  unfold PyData.eqv
  cases a <;> cases b <;> rfl
theorem o_eqb (a b : Bool) : cmpD .eq (.bl a) (.bl b) S = .ok (.bl (decide (a = b))) S := by
  have : eqD S (.bl a) (.bl b) = some (decide (a = b)) := by
    unfold eqD
    simp only [toPS, toP]
    rw [if_pos ⟨rfl, rfl⟩, eqv_bl]
  unfold cmpD
  simp only [this]
theorem o_neb (a b : Bool) : cmpD .ne (.bl a) (.bl b) S = .ok (.bl (!decide (a = b))) S := by
  have : eqD S (.bl a) (.bl b) = some (decide (a = b)) := by
    unfold eqD
    simp only [toPS, toP]
    rw [if_pos ⟨rfl, rfl⟩, eqv_bl]
  unfold cmpD
  simp only [this]
end

section
variable (S : Sto) {i j : Int}
theorem o_divP (h : divOk i j = true) (hj : 0 ≤ j) : binD .fdiv (.int i) (.int j) S = .ok (.int (i / j)) S := by
  rw [ev_fdiv h, Int.fdiv_eq_ediv_of_nonneg _ hj]
theorem o_modP (hj : 0 < j) : binD .mod (.int i) (.int j) S = .ok (.int (i % j)) S := by
  rw [ev_mod (by omega), Int.fmod_eq_emod_of_nonneg _ (by omega)]
@[irreducible] def tenp (k : Nat) : Int := 10 ^ k
theorem tenp_eq (k : Nat) : tenp k = 10 ^ k := by unfold tenp; rfl
theorem tenp_pos (k : Nat) : 0 < tenp k := by rw [tenp_eq]; exact Int.pow_pos (by decide)
theorem tenp_lt (k : Nat) : lt2 (tenp k) (4 * k + 1) := by
  rw [tenp_eq]
  unfold lt2
  rw [Int.natAbs_pow]
  show 10 ^ k < 2 ^ (4 * k + 1)
  rw [Nat.pow_succ, Nat.pow_mul]
  have : 10 ^ k ≤ 16 ^ k := Nat.pow_le_pow_left (by decide) k
  have : 0 < 16 ^ k := Nat.pow_pos (by decide)
  show 10 ^ k < 16 ^ k * 2
  omega
theorem o_pow10 (h : 0 ≤ j ∧ j ≤ 1000) : binD .pow (.int 10) (.int j) S = .ok (.int (tenp j.toNat)) S := by
  rw [ev_pow ⟨h.1, by omega, by decide⟩, tenp_eq]
/-- an item of a list at an open index -/
theorem idx_pick {n : Nat} {mu : Bool} {ds : List D} {i : Int} {S : Sto} (hS : S[n]? = some (.lst mu ds)) (h0 : 0 ≤ i) (h1 : i < ds.length) : ∃ d ∈ ds, idxD (.ref n) (.int i) S = .ok d S := by
  have h : i.toNat < ds.length := by omega
  exact ⟨ds[i.toNat], List.getElem_mem h, by rw [idx_ref hS (m := i.toNat) (by omega) h]⟩
theorem o_mid {S J : Sto} {o : Ob} : (S ++ o :: J)[S.length]? = some o := by simp
theorem o_setm {S J : Sto} {o p : Ob} : (S ++ o :: J).set S.length p = S ++ p :: J := by simp
end
theorem bits_lt2 {z : Int} {k : Nat} (h : Builtin.Int.intBits z ≤ k) : lt2 z k := by
  unfold Builtin.Int.intBits at h
  unfold lt2
  split at h
  · rename_i h0
    have : z = 0 := by simpa using h0
    subst this
    exact Nat.pow_pos (by decide)
  · rename_i h0
    have h0' : z.natAbs ≠ 0 := by simpa using h0
    exact (Nat.log2_lt h0').mp (by omega)
theorem gFn {T : Tb} {n : Nat} {f : Str} {ds : List D} {S : Sto} {r : R D} (h : (W T n).fn f ds S = r) : (W T n).fn f ds S = r := h
theorem w_exI {r : R D} {α : Type} {f : α → D} {S' : α → Sto} {P : α → Prop} (h : wR r (fun d S1 => ∃ a, d = f a ∧ S1 = S' a ∧ P a) noE) : ∃ a, r = .ok (f a) (S' a) ∧ P a := by
  obtain ⟨_, _, e, a, rfl, rfl, h2⟩ := w_ex' h
  exact ⟨a, e, h2⟩
theorem w_exJ {r : R D} {α : Type} {f : α → D} {S' : α → Sto} (h : wR r (fun d S1 => ∃ a, d = f a ∧ S1 = S' a) noE) : ∃ a, r = .ok (f a) (S' a) := by
  obtain ⟨_, _, e, a, rfl, rfl⟩ := w_ex' h
  exact ⟨a, e⟩
/-- the script is the store's first object -/
structure Scr (ns : List Int) (S : Sto) : Prop where
  at0 : S[0]? = some (.lst false (ns.map D.int))
  len : ns.length ≤ 63
  sz : ∀ z ∈ ns, lt2 z 1048576
theorem law_fin {T : Tb} {k : Nat} (h : ∀ (ns : List Int) (S : Sto), Scr ns S → wR ((W T k).fn "law" [.ref 0] S) (fun d _ => d = .bl true) noE) : ∀ ns : List Int, ns.length ≤ 63 → (∀ z ∈ ns, Builtin.Int.intBits z ≤ 1048576) → ∃ S', (W T k).fn "law" [.ref 0] [.lst false (ns.map D.int)] = .ok (.bl true) S' := fun ns hl hb => by
  obtain ⟨_, S', e, rfl⟩ := w_ex' (h ns [.lst false (ns.map D.int)] ⟨rfl, hl, fun z hz => bits_lt2 (hb z hz)⟩)
  exact ⟨S', e⟩
theorem Scr.app {ns : List Int} {S : Sto} (h : Scr ns S) (J : Sto) : Scr ns (S ++ J) := ⟨o_old h.at0, h.len, h.sz⟩
theorem wTg_q {t u : Tg} {r : Rat} {σ : Sl} {q : Sl → Prop} (h : wTg t (.int r.num) σ fun σ' => wTg u (.int r.den) σ' q) : wTg (.tp (.cons t (.cons u .nil))) (dQ r) σ q := wTg_2 h

/-! ### arguments in the parameters' order, written out -/
inductive NthR : List D → Nat → D → Prop
  | z {d : D} {l : List D} : NthR (d :: l) 0 d
  | s {a : D} {l : List D} {i : Nat} {d : D} : NthR l i d → NthR (a :: l) (i + 1) d
theorem NthR.eq {l : List D} {i : Nat} {d : D} (h : NthR l i d) : l.getD i .non = d := by
  induction h with
  | z => rfl
  | s _ ih => rw [List.getD_cons_succ]; exact ih
inductive PkR (xs : List D) : List Nat → List D → Prop
  | nil : PkR xs [] []
  | cons {i : Nat} {arr : List Nat} {d : D} {ys : List D} : NthR xs i d → PkR xs arr ys → PkR xs (i :: arr) (d :: ys)
theorem PkR.eq {xs : List D} {arr : List Nat} {ys : List D} (h : PkR xs arr ys) : pickD arr xs = ys := by
  unfold pickD
  induction h with
  | nil => rfl
  | cons h _ ih => rw [List.map_cons, ih, h.eq]
theorem w_pk {F : Wd} {f : Str} {arr : List Nat} {xs ys : List D} {S : Sto} {Q : D → Sto → Prop} {E : XE} (h : PkR xs arr ys) (q : wR (F.fn f ys S) Q E) : wR (F.fn f (pickD arr xs) S) Q E := by rw [h.eq]; exact q

/-! ### a store that has grown -/
def Ext (S S' : Sto) : Prop := ∃ J, S' = S ++ J
theorem Ext.refl {S : Sto} : Ext S S := ⟨[], by simp⟩
theorem Ext.app {S S' J : Sto} (h : Ext S S') : Ext S (S' ++ J) := by
  obtain ⟨K, rfl⟩ := h
  exact ⟨K ++ J, by simp⟩
theorem Ext.trans {S S' S'' : Sto} (h : Ext S S') (k : Ext S' S'') : Ext S S'' := by
  obtain ⟨K, rfl⟩ := h
  obtain ⟨J, rfl⟩ := k
  exact ⟨K ++ J, by simp⟩
theorem Ext.get {S S' : Sto} (h : Ext S S') {n : Nat} {o : Ob} (e : S[n]? = some o) : S'[n]? = some o := by
  obtain ⟨K, rfl⟩ := h
  exact o_old e
theorem Ext.le {S S' : Sto} (h : Ext S S') : S.length ≤ S'.length := by
  obtain ⟨K, rfl⟩ := h
  simp
theorem Ext.set {S S' : Sto} (h : Ext S S') {n : Nat} {o : Ob} (hn : S.length ≤ n) : Ext S (S'.set n o) := by
  obtain ⟨K, rfl⟩ := h
  exact ⟨K.set (n - S.length) o, by rw [List.set_append_right _ _ hn]⟩
theorem Scr.ext {ns : List Int} {S S' : Sto} (h : Scr ns S) (x : Ext S S') : Scr ns S' := ⟨x.get h.at0, h.len, h.sz⟩
theorem w_exX {r : R D} {α : Type} {f : α → D} {P : α → Sto → Prop} (h : wR r (fun d S1 => ∃ a, d = f a ∧ P a S1) noE) : ∃ a S1, r = .ok (f a) S1 ∧ P a S1 := by
  obtain ⟨_, S1, e, a, rfl, h2⟩ := w_ex' h
  exact ⟨a, S1, e, h2⟩
theorem w_pick {n : Nat} {mu : Bool} {ds : List D} {i : Int} {S : Sto} {Q : D → Sto → Prop} {E : XE} (hS : S[n]? = some (.lst mu ds)) (h0 : 0 ≤ i) (h1 : i < ds.length) (h : ∀ d ∈ ds, Q d S) : wR (idxD (.ref n) (.int i) S) Q E := by
  obtain ⟨d, hd, e⟩ := idx_pick hS h0 h1
  exact w_ok e (h d hd)
theorem w_pickT {ds : List D} {i : Int} {S : Sto} {Q : D → Sto → Prop} {E : XE} (h0 : 0 ≤ i) (h1 : i < ds.length) (h : ∀ d ∈ ds, Q d S) : wR (idxD (.tup ds) (.int i) S) Q E := by
  have hi : i.toNat < ds.length := by omega
  exact w_ok (o_idx (n := i.toNat) (by omega) (List.getElem?_eq_getElem hi)) (h _ (List.getElem_mem hi))

/-! ### loops over typed items -/
section
variable {F : Wd} {σ : Sl} {S : Sto} {nx : Sl → Sto → Prop} {rt : D → Sto → Prop} {er : XS} {bk ct : Sl → Sto → Prop} {t : Tg} {b : Cms}
theorem w_forM {α : Type} (xs : List α) {p : α → D} (I : Nat → Sl → Sto → Prop) (h0 : I 0 σ S)
    (hs : ∀ k (hk : k < xs.length) σ S, I k σ S → wTg t (p xs[k]) σ fun σ' => wSs F b σ' S (fun σ S => I (k + 1) σ S) rt er nx (fun σ S => I (k + 1) σ S))
    (he : ∀ σ S, I xs.length σ S → nx σ S) : wFor F [] t b (xs.map p) σ S nx rt er bk ct := by
  refine w_forL I h0 (fun k hk σ S i => ?_) fun σ S i => he σ S (by rwa [List.length_map] at i)
  have hk' : k < xs.length := by simpa using hk
  obtain ⟨σ', h1, h2⟩ := wTg_iff.mp (hs k hk' σ S i)
  refine wTg_iff.mpr ⟨σ', by rw [List.getElem_map]; exact h1, ?_⟩
  rw [wSs_iff] at h2 ⊢
  exact RS.wp_mono h2 (fun _ _ h => ⟨stands_nil _, h⟩) (fun _ _ => id) (fun _ _ _ _ => id) (fun _ _ => id) fun _ _ h => ⟨stands_nil _, h⟩
theorem w_forR {n : Int} (I : Nat → Sl → Sto → Prop) (h0 : I 0 σ S)
    (hs : ∀ k : Nat, (k : Int) < n → ∀ σ S, I k σ S → wTg t (.int k) σ fun σ' => wSs F b σ' S (fun σ S => I (k + 1) σ S) rt er nx (fun σ S => I (k + 1) σ S))
    (he : ∀ σ S, I n.toNat σ S → nx σ S) : wFor F [] t b ((List.range n.toNat).map fun i => D.int (Int.ofNat i)) σ S nx rt er bk ct := by
  refine w_forM (List.range n.toNat) I h0 (fun k hk σ S i => ?_) fun σ S i => he σ S (by rwa [List.length_range] at i)
  have hk' : k < n.toNat := by simpa using hk
  have := hs k (by omega) σ S i
  rw [List.getElem_range]
  exact this
/-- over a list of the store: it must stand -/
theorem w_forS {α : Type} {n : Nat} {mu : Bool} (xs : List α) {p : α → D} (I : Nat → Sl → Sto → Prop) (h0 : I 0 σ S) (hst : ∀ k σ S, I k σ S → S[n]? = some (.lst mu (xs.map p)))
    (hs : ∀ k (hk : k < xs.length) σ S, I k σ S → wTg t (p xs[k]) σ fun σ' => wSs F b σ' S (fun σ S => I (k + 1) σ S) rt er nx (fun σ S => I (k + 1) σ S))
    (he : ∀ σ S, I xs.length σ S → nx σ S) : wFor F [(n, .lst mu (xs.map p))] t b (xs.map p) σ S nx rt er bk ct := by
  refine w_forL I h0 (fun k hk σ S i => ?_) fun σ S i => he σ S (by rwa [List.length_map] at i)
  have hk' : k < xs.length := by simpa using hk
  obtain ⟨σ', h1, h2⟩ := wTg_iff.mp (hs k hk' σ S i)
  refine wTg_iff.mpr ⟨σ', by rw [List.getElem_map]; exact h1, ?_⟩
  rw [wSs_iff] at h2 ⊢
  exact RS.wp_mono h2 (fun _ _ h => ⟨stands_one (hst _ _ _ h), h⟩) (fun _ _ => id) (fun _ _ _ _ => id) (fun _ _ => id) fun _ _ h => ⟨stands_one (hst _ _ _ h), h⟩
theorem w_lcV {α : Type} {ow : List Nat} {e : Ex} {Q : List D → Sto → Prop} {E : XE} (xs : List α) {p : α → D} (q : α → D) (hl : xs.length ≤ 1000000)
    (hs : wWp σ ow fun σ0 => ∀ x ∈ xs, wTg t (p x) σ0 fun σ' => wE F e σ' S (fun y S2 => y = q x ∧ S2 = S) noE) (h : Q (xs.map q) S) : wLc F [] ow t (.con (.bl true)) e σ (xs.map p) S Q E :=
  w_lcM xs p q rfl hl (stands_nil _) hs h
theorem w_lcS {α : Type} {n : Nat} {mu : Bool} {ow : List Nat} {e : Ex} {Q : List D → Sto → Prop} {E : XE} (xs : List α) {p : α → D} (q : α → D) (hn : S[n]? = some (.lst mu (xs.map p))) (hl : xs.length ≤ 1000000)
    (hs : wWp σ ow fun σ0 => ∀ x ∈ xs, wTg t (p x) σ0 fun σ' => wE F e σ' S (fun y S2 => y = q x ∧ S2 = S) noE) (h : Q (xs.map q) S) : wLc F [(n, .lst mu (xs.map p))] ow t (.con (.bl true)) e σ (xs.map p) S Q E :=
  w_lcM xs p q rfl hl (stands_one hn) hs h
/-- each item may leave objects behind -/
theorem w_lcX {α β : Type} {g : Gd} {ow : List Nat} {e : Ex} {Q : List D → Sto → Prop} {E : XE} (xs : List α) {p : α → D} (f : β → D) (P : α → β → Prop) (hg : ∀ S1, Ext S S1 → stands g S1) (hl : xs.length ≤ 1000000)
    (hs : wWp σ ow fun σ0 => ∀ x ∈ xs, ∀ S1, Ext S S1 → wTg t (p x) σ0 fun σ' => wE F e σ' S1 (fun y S2 => ∃ b, y = f b ∧ Ext S1 S2 ∧ P x b) noE)
    (h : ∀ (bs : List β) (S1 : Sto), Ext S S1 → bs.length = xs.length → (∀ i (h1 : i < xs.length) (h2 : i < bs.length), P xs[i] bs[i]) → Q (bs.map f) S1) : wLc F g ow t (.con (.bl true)) e σ (xs.map p) S Q E := by
  refine w_lcE (fun k ys S' => ∃ (bs : List β), ys = bs.map f ∧ Ext S S' ∧ bs.length = k ∧ ∀ i (h1 : i < xs.length) (h2 : i < bs.length), P xs[i] bs[i]) ⟨[], rfl, Ext.refl, rfl, fun i _ h2 => by simp at h2⟩ (fun k hk ys S' i => ?_) fun ys S' i => ?_
  · obtain ⟨bs, rfl, hx, hlen, hP⟩ := i
    have hk' : k < xs.length := by simpa using hk
    obtain ⟨σ', h1, h2⟩ := wTg_iff.mp (wWp_iff.mp hs xs[k] (List.getElem_mem hk') S' hx)
    refine wWp_iff.mpr (wTg_iff.mpr ⟨σ', by rw [List.getElem_map]; exact h1, ?_⟩)
    show wT F _ σ' S' _ noE
    rw [wT_iff]
    show wE F e σ' S' _ noE
    rw [wE_iff] at h2 ⊢
    refine R.wp_mono h2 (fun y S2 h => ?_) fun _ _ _ => id
    obtain ⟨b, rfl, hx2, hb⟩ := h
    refine ⟨hg _ (hx.trans hx2), bs ++ [b], by simp, hx.trans hx2, by simp [hlen], fun i h1 h2 => ?_⟩
    by_cases hi : i < bs.length
    · rw [List.getElem_append_left hi]; exact hP i h1 hi
    · have : i = k := by simp at h2; omega
      subst this
      rw [List.getElem_append_right (by omega)]
      simpa using hb
  · obtain ⟨bs, rfl, hx, hlen, hP⟩ := i
    rw [List.length_map] at hlen ⊢
    exact ⟨by show bs.length ≤ 1000000; omega, h bs _ hx hlen hP⟩
theorem w_lcR {n : Int} {ow : List Nat} {e : Ex} {Q : List D → Sto → Prop} {E : XE} (q : Nat → D) (hl : n ≤ 1000000)
    (hs : wWp σ ow fun σ0 => ∀ i : Nat, (i : Int) < n → wTg t (.int i) σ0 fun σ' => wE F e σ' S (fun y S2 => y = q i ∧ S2 = S) noE) (h : Q ((List.range n.toNat).map q) S) : wLc F [] ow t (.con (.bl true)) e σ ((List.range n.toNat).map fun i => D.int (Int.ofNat i)) S Q E :=
  w_lcM (List.range n.toNat) _ q rfl (by rw [List.length_range]; show n.toNat ≤ 1000000; omega) (stands_nil _) (wWp_iff.mpr fun i hi => by
    have := List.mem_range.mp hi
    exact wWp_iff.mp hs i (by omega)) h
end
section
variable (S : Sto) (v : List Rat)
theorem o_itV : itG (dV v) S = .ok ([], v.map dQ) S := rfl
theorem o_itemsV : itemsR (dV v) S = .ok (v.map dQ) S := rfl
theorem o_itM (m : List (List Rat)) : itG (dM m) S = .ok ([], m.map dV) S := rfl
theorem o_itemsM (m : List (List Rat)) : itemsR (dM m) S = .ok (m.map dV) S := rfl
theorem o_lenV : biD .len [dV v] S = .ok (.int v.length) S := by unfold dV; rw [bi_len_tup, List.length_map]
theorem o_lenM (m : List (List Rat)) : biD .len [dM m] S = .ok (.int m.length) S := by unfold dM; rw [bi_len_tup, List.length_map]
theorem o_lenQ (q : Rat) : biD .len [dQ q] S = .ok (.int 2) S := rfl
theorem o_itemsQ (q : Rat) : itemsR (dQ q) S = .ok [.int q.num, .int q.den] S := rfl
theorem o_tV : isiT (dV v) "tuple" S = .ok (.bl true) S := rfl
theorem o_tM (m : List (List Rat)) : isiT (dM m) "tuple" S = .ok (.bl true) S := rfl
theorem o_tQ (q : Rat) : isiT (dQ q) "tuple" S = .ok (.bl true) S := rfl
theorem o_idxV {v : List Rat} {i : Int} {S : Sto} {n : Nat} (hi : i = (n : Int)) (h : n < v.length) : idxD (dV v) (.int i) S = .ok (dQ v[n]) S := o_idx hi (by rw [List.getElem?_map, List.getElem?_eq_getElem h]; rfl)
theorem o_idxM {m : List (List Rat)} {i : Int} {S : Sto} {n : Nat} (hi : i = (n : Int)) (h : n < m.length) : idxD (dM m) (.int i) S = .ok (dV m[n]) S := o_idx hi (by rw [List.getElem?_map, List.getElem?_eq_getElem h]; rfl)
theorem o_zipV (w : List Rat) : zipD (dV v) (dV w) S = .ok ([], (v.zip w).map fun p => .tup [dQ p.1, dQ p.2]) S := by
  unfold dV
  rw [o_zip, List.zip_map, List.map_map]
  rfl
theorem o_zipVM (m : List (List Rat)) : zipD (dV v) (dM m) S = .ok ([], (v.zip m).map fun p => .tup [dQ p.1, dV p.2]) S := by
  unfold dV dM
  rw [o_zip, List.zip_map, List.map_map]
  rfl
theorem o_addV (w : List Rat) {S : Sto} {v : List Rat} (h : v.length + w.length ≤ 1000000) : binD .add (dV v) (dV w) S = .ok (dV (v ++ w)) S := by
  unfold dV binD
  simp only [List.length_map]
  rw [if_pos (show v.length + w.length ≤ big from h), List.map_append]
theorem o_addT {x y : List D} {S : Sto} (h : x.length + y.length ≤ 1000000) : binD .add (.tup x) (.tup y) S = .ok (.tup (x ++ y)) S := by
  unfold binD
  simp only
  rw [if_pos (show x.length + y.length ≤ big from h)]
theorem o_addVT {v : List Rat} {ds : List D} {S : Sto} (h : v.length + ds.length ≤ 1000000) : binD .add (dV v) (.tup ds) S = .ok (.tup (v.map dQ ++ ds)) S := by
  unfold dV
  exact o_addT (by rw [List.length_map]; exact h)
theorem o_addTV {v : List Rat} {ds : List D} {S : Sto} (h : ds.length + v.length ≤ 1000000) : binD .add (.tup ds) (dV v) S = .ok (.tup (ds ++ v.map dQ)) S := by
  unfold dV
  exact o_addT (by rw [List.length_map]; exact h)
theorem cut_le {α : Type} {xs : List α} {l u : Option Int} : (cutD xs l u).length ≤ xs.length := by
  unfold cutD
  rw [List.length_take, List.length_drop]
  omega
theorem o_addQT (q : Rat) {ds : List D} {S : Sto} (h : ds.length ≤ 1000) : binD .add (dQ q) (.tup ds) S = .ok (.tup (.int q.num :: .int q.den :: ds)) S := by
  unfold dQ
  exact o_addT (by simp only [List.length_cons, List.length_nil]; omega)
theorem cut_map {α β : Type} {f : α → β} {xs : List α} {l u : Option Int} : cutD (xs.map f) l u = (cutD xs l u).map f := by
  unfold cutD
  rw [List.length_map, ← List.map_drop, ← List.map_take]
theorem o_slV (l u : Option Int) : slD (dV v) l u S = .ok (dV (cutD v l u)) S := by
  unfold dV slD
  simp only [cut_map]
theorem o_slM (m : List (List Rat)) (l u : Option Int) : slD (dM m) l u S = .ok (dM (cutD m l u)) S := by
  unfold dM slD
  simp only [cut_map]
theorem o_addTM {m : List (List Rat)} {ds : List D} {S : Sto} (h : ds.length + m.length ≤ 1000000) : binD .add (.tup ds) (dM m) S = .ok (.tup (ds ++ m.map dV)) S := by
  unfold dM
  exact o_addT (by rw [List.length_map]; exact h)
theorem o_repM {r : List Rat} {j : Int} {S : Sto} (h : -1000000 < j ∧ j < 1000000) : binD .mul (dM [r]) (.int j) S = .ok (dM (List.replicate j.toNat r)) S := by
  unfold dM
  rw [List.map_replicate]
  exact o_rep h
theorem o_lcm {i j : Int} {S : Sto} {a b : Nat} (hi : lt2 i a) (hj : lt2 j b) (ha : a ≤ 5990) (hb : b ≤ 5990) : biD .lcm [.int i, .int j] S = .ok (.int (Nat.lcm i.natAbs j.natAbs : Nat)) S := by
  have h1 := lt2_log hi
  have h2 := lt2_log hj
  unfold biD
  simp only
  rw [if_pos ⟨by omega, by omega⟩]
theorem o_tupV : biL .tup (v.map dQ) S = .ok (dV v) S := rfl
theorem o_tupM (m : List (List Rat)) : biL .tup (m.map dV) S = .ok (dM m) S := rfl
theorem o_tupL (ds : List D) : biL .tup ds S = .ok (.tup ds) S := rfl
theorem o_lstL (ds : List D) : biL .lst ds S = .ok (.ref S.length) (S ++ [.lst true ds]) := rfl
theorem allB_map {α : Type} {xs : List α} {f : α → Bool} : allB (xs.map fun x => D.bl (f x)) = some (xs.map f) := by
  induction xs with
  | nil => rfl
  | cons x r ih => simp only [List.map_cons, allB, ih]; rfl
theorem o_allL {α : Type} (xs : List α) (f : α → Bool) : biL .all (xs.map fun x => D.bl (f x)) S = .ok (.bl (xs.all f)) S := by
  unfold biL
  simp only [allB_map]
  rw [List.all_map]
  rfl
theorem o_anyL {α : Type} (xs : List α) (f : α → Bool) : biL .any (xs.map fun x => D.bl (f x)) S = .ok (.bl (xs.any f)) S := by
  unfold biL
  simp only [allB_map]
  rw [List.any_map]
  rfl
end

/-! ### slices -/
theorem cut_mn {α : Type} {xs : List α} (m n : Nat) : cutD xs (some (m : Int)) (some (n : Int)) = (xs.drop m).take (n - m) := by
  unfold cutD
  rw [HT.sIx_nat, HT.sIx_nat]
  apply List.ext_getElem?
  intro k
  rw [List.getElem?_take, List.getElem?_take, List.getElem?_drop, List.getElem?_drop]
  by_cases hm : m ≤ xs.length
  · rw [Nat.min_eq_left hm]
    by_cases hn : n ≤ xs.length
    · rw [Nat.min_eq_left hn]
    · rw [Nat.min_eq_right (by omega)]
      by_cases hk : k < n - m
      · rw [if_pos hk]
        by_cases hk2 : k < xs.length - m
        · rw [if_pos hk2]
        · rw [if_neg hk2, List.getElem?_eq_none (by omega)]
      · rw [if_neg hk, if_neg (by omega)]
  · rw [Nat.min_eq_right (by omega : xs.length ≤ m), if_neg (by omega), List.getElem?_eq_none (l := xs) (i := m + k) (by omega)]
    simp
theorem cut_mem {α : Type} {xs : List α} {l u : Option Int} {x : α} (h : x ∈ cutD xs l u) : x ∈ xs := List.mem_of_mem_drop (List.mem_of_mem_take h)
theorem cut_to {α : Type} {xs : List α} (n : Nat) : cutD xs none (some (n : Int)) = xs.take n := by
  have := cut_mn (xs := xs) 0 n
  rw [List.drop_zero, Nat.sub_zero] at this
  rw [← this]
  unfold cutD
  rw [HT.sIx_none, HT.sIx_nat xs.length 0 0]
  simp
theorem cut_from {α : Type} {xs : List α} (m : Nat) : cutD xs (some (m : Int)) none = xs.drop m := by
  unfold cutD
  rw [HT.sIx_nat, HT.sIx_none]
  by_cases hm : m ≤ xs.length
  · rw [Nat.min_eq_left hm, List.take_of_length_le (by simp)]
  · rw [Nat.min_eq_right (by omega), List.drop_eq_nil_of_le (by omega), List.drop_eq_nil_of_le (by omega)]
    simp
end Kq
set_option Elab.async false
set_option linter.all false
set_option maxRecDepth 100000
set_option maxHeartbeats 2000000
set_option autoImplicit false
/-! # The Q layer, part V: plain values of any form -/
namespace Kq
open PySem PySem.Spec PyProof.Rows L2
/-! ### plain values, with a depth -/
inductive Val (S : Sto) : Nat → D → Prop
  | non {k : Nat} : Val S (k + 1) .non
  | bl {k : Nat} (b : Bool) : Val S (k + 1) (.bl b)
  | int {k : Nat} {i : Int} : lt2 i 8000 → Val S (k + 1) (.int i)
  | str {k : Nat} {x : Str} : PyData.canLay0 (.str x) = true → x.length ≤ 1000 → Val S (k + 1) (.str x)
  | tup {k : Nat} {ds : List D} : (∀ d ∈ ds, Val S k d) → ds.length ≤ 100000 → Val S (k + 1) (.tup ds)
  | ref {k : Nat} {n : Nat} {mu : Bool} {ds : List D} : S[n]? = some (.lst mu ds) → (∀ d ∈ ds, Val S k d) → ds.length ≤ 100000 → Val S (k + 1) (.ref n)
def isTp : D → Bool
  | .tup _ => true
  | _ => false
def isInt : D → Bool
  | .int _ => true
  | _ => false
def isIntB : D → Bool
  | .int _ => true
  | .bl _ => true
  | _ => false
def isBl : D → Bool
  | .bl _ => true
  | _ => false
theorem v_isX {S : Sto} {k : Nat} {d : D} (h : Val S k d) : isX d = false := by cases h <;> rfl
theorem v_tup {S : Sto} {k : Nat} {d : D} (h : Val S k d) : isiT d "tuple" S = .ok (.bl (isTp d)) S := by
  cases h with
  | ref e => unfold isiT; simp only [e]; rfl
  | _ => rfl
theorem v_int {S : Sto} {k : Nat} {d : D} (h : Val S k d) : isiT d "int" S = .ok (.bl (isIntB d)) S := by
  cases h with
  | ref e => unfold isiT; simp only [e]; rfl
  | _ => rfl
theorem v_bool {S : Sto} {k : Nat} {d : D} (h : Val S k d) : isiT d "bool" S = .ok (.bl (isBl d)) S := by
  cases h with
  | ref e => unfold isiT; simp only [e]; rfl
  | _ => rfl
def isStr : D → Bool
  | .str _ => true
  | _ => false
theorem v_str {S : Sto} {k : Nat} {d : D} (h : Val S k d) : isiT d "str" S = .ok (.bl (isStr d)) S := by
  cases h with
  | ref e => unfold isiT; simp only [e]; rfl
  | _ => rfl
theorem Val.up {S : Sto} {k : Nat} {d : D} (h : Val S k d) : Val S (k + 1) d := by
  induction h with
  | non => exact .non
  | bl b => exact .bl b
  | int h => exact .int h
  | str x l => exact .str x l
  | tup _ h ih => exact .tup ih h
  | ref e _ h ih => exact .ref e ih h
theorem Val.mono {S : Sto} {k l : Nat} {d : D} (h : Val S k d) (hl : k ≤ l) : Val S l d := by
  obtain ⟨j, rfl⟩ := Nat.le.dest hl
  induction j with
  | zero => exact h
  | succ j ih => exact (ih (by omega)).up
theorem Val.app {S : Sto} {k : Nat} {d : D} (h : Val S k d) (J : Sto) : Val (S ++ J) k d := by
  induction h with
  | non => exact .non
  | bl b => exact .bl b
  | int h => exact .int h
  | str x l => exact .str x l
  | tup _ h ih => exact .tup ih h
  | ref e _ h ih => exact .ref (o_old e) ih h
theorem Val.ext {S S' : Sto} {k : Nat} {d : D} (h : Val S k d) (x : Ext S S') : Val S' k d := by
  obtain ⟨J, rfl⟩ := x
  exact h.app J
theorem Val.q {S : Sto} {q : Rat} {k : Nat} (h : szQ q k) (hk : k ≤ 8000) : Val S 2 (dQ q) := .tup (fun d hd => by
  simp only [List.mem_cons, List.not_mem_nil, or_false] at hd
  rcases hd with rfl | rfl
  · exact .int (lt2_mono h.num hk)
  · exact .int (lt2_mono h.den hk)) (by show 2 ≤ 100000; decide)
theorem Val.v {S : Sto} {v : List Rat} {k : Nat} (hl : v.length ≤ 100000) (h : ∀ q ∈ v, szQ q k) (hk : k ≤ 8000) : Val S 3 (dV v) := .tup (fun d hd => by
  obtain ⟨q, hq, rfl⟩ := List.mem_map.mp hd
  exact .q (h q hq) hk) (by rw [List.length_map]; exact hl)
/-- a plain value is data -/
theorem mapO_all {α β : Type} {f : α → Option β} {P : β → Prop} : ∀ {xs : List α}, (∀ x ∈ xs, ∃ y, f x = some y ∧ P y) → ∃ ys, mapO f xs = some ys ∧ (∀ y ∈ ys, P y) ∧ ys.length = xs.length
  | [], _ => ⟨[], rfl, (fun _ h => nomatch h), rfl⟩
  | x :: xs, h => by
    obtain ⟨y, e, p⟩ := h x (by simp)
    obtain ⟨ys, e2, p2, l⟩ := mapO_all (xs := xs) fun z hz => h z (by simp [hz])
    refine ⟨y :: ys, by unfold mapO; rw [e, e2], fun z hz => ?_, by simp [l]⟩
    rcases List.mem_cons.mp hz with rfl | hz
    · exact p
    · exact p2 z hz
theorem canAll {ps : List PyData} (h : ∀ p ∈ ps, p.canLay0 = true) : PyData.canLayAll0 ps = true := by
  induction ps with
  | nil => simp [PyData.canLayAll0]
  | cons p r ih =>
    simp only [PyData.canLayAll0, Bool.and_eq_true]
    exact ⟨h p (by simp), ih fun q hq => h q (by simp [hq])⟩
theorem depAll {ps : List PyData} {k : Nat} (h : ∀ p ∈ ps, p.depth ≤ k) : PyData.depthAll ps ≤ k := by
  induction ps with
  | nil => simp [PyData.depthAll]
  | cons p r ih =>
    simp only [PyData.depthAll]
    have := h p (by simp)
    have := ih fun q hq => h q (by simp [hq])
    omega
theorem v_data {S : Sto} {k : Nat} {d : D} (h : Val S k d) : ∀ j, k ≤ j → ∃ p, toPk S j d = some p ∧ p.canLay0 = true ∧ p.depth ≤ k := by
  induction h with
  | non => intro j hj; obtain ⟨i, rfl⟩ : ∃ i, j = i + 1 := ⟨j - 1, by omega⟩; exact ⟨_, rfl, rfl, by simp [PyData.depth]⟩
  | bl b => intro j hj; obtain ⟨i, rfl⟩ : ∃ i, j = i + 1 := ⟨j - 1, by omega⟩; exact ⟨_, rfl, rfl, by simp [PyData.depth]⟩
  | int h => intro j hj; obtain ⟨i, rfl⟩ : ∃ i, j = i + 1 := ⟨j - 1, by omega⟩; exact ⟨_, rfl, rfl, by simp [PyData.depth]⟩
  | str x l => intro j hj; obtain ⟨i, rfl⟩ : ∃ i, j = i + 1 := ⟨j - 1, by omega⟩; exact ⟨_, rfl, x, by simp [PyData.depth]⟩
  | tup _ _ ih =>
    intro j hj; obtain ⟨i, rfl⟩ : ∃ i, j = i + 1 := ⟨j - 1, by omega⟩
    obtain ⟨ps, e, hp, hl⟩ := mapO_all fun d hd => ih d hd i (by omega)
    refine ⟨.tuple ps, by unfold toPk; simp only [e], ?_, ?_⟩
    · simp only [PyData.canLay0]; exact canAll fun p h => (hp p h).1
    · have := depAll fun p h => (hp p h).2
      simp only [PyData.depth]; omega
  | ref e0 _ _ ih =>
    intro j hj; obtain ⟨i, rfl⟩ : ∃ i, j = i + 1 := ⟨j - 1, by omega⟩
    obtain ⟨ps, e, hp, hl⟩ := mapO_all fun d hd => ih d hd i (by omega)
    refine ⟨.list ps, by unfold toPk; simp only [e0, e], ?_, ?_⟩
    · simp only [PyData.canLay0]; exact canAll fun p h => (hp p h).1
    · have := depAll fun p h => (hp p h).2
      simp only [PyData.depth]; omega
mutual
theorem toP_k {S : Sto} : ∀ {k : Nat} {d : D} {p : PyData}, Val S k d → toP d = some p → toPk S k d = some p
  | _, _, _, .non, h => by cases h; rfl
  | _, _, _, .bl b, h => by cases h; rfl
  | _, _, _, .int i, h => by cases h; rfl
  | _, _, _, .str x _, h => by cases h; rfl
  | k + 1, .tup ds, p, .tup hm _, h => by
    unfold toP at h
    rw [Option.map_eq_some_iff] at h
    obtain ⟨ps, e, rfl⟩ := h
    have := toPs_k (S := S) ds hm e
    unfold toPk
    simp only [this]
  | _, _, _, .ref _ _ _, h => by cases h
theorem toPs_k {S : Sto} {k : Nat} : ∀ (ds : List D) {ps : List PyData}, (∀ d ∈ ds, Val S k d) → toPs ds = some ps → mapO (toPk S k) ds = some ps
  | [], _, _, h => by cases h; rfl
  | d :: r, ps, hm, h => by
    unfold toPs at h
    rw [Option.bind_eq_some_iff] at h
    obtain ⟨p, e, h⟩ := h
    rw [Option.map_eq_some_iff] at h
    obtain ⟨qs, e2, rfl⟩ := h
    have h1 := toP_k (S := S) (hm d (by simp)) e
    have h2 := toPs_k (S := S) r (fun x hx => hm x (by simp [hx])) e2
    unfold mapO
    rw [h1, h2]
end
theorem shaped_of {p : PyData} {k : Nat} (h : p.canLay0 = true) (h2 : p.depth ≤ k) (hk : k ≤ 64) : SeqAt.shaped p = true := by
  unfold SeqAt.shaped
  rw [h, Bool.true_and, decide_eq_true_eq]
  omega
/-- == with the empty tuple -/
theorem v_eq0 {S : Sto} {k : Nat} {ds : List D} (h : Val S k (.tup ds)) (hk : k ≤ 12) : cmpD .eq (.tup ds) (.tup []) S = .ok (.bl ds.isEmpty) S := by
  have key : ∀ ps : List PyData, ps.length = ds.length → PyData.eqv (.tuple ps) (.tuple []) = ds.isEmpty := fun ps hl => by
    cases ps with
    | nil => cases ds with
      | nil => simp [PyData.eqv, PyData.eqvAll]
      | cons => simp at hl
    | cons => cases ds with
      | nil => simp at hl
      | cons => simp [PyData.eqv, PyData.eqvAll]
  have s0 : SeqAt.shaped (.tuple []) = true := by decide
  have hd : ∀ p, toPk S k (.tup ds) = some p → ∃ ps, p = .tuple ps ∧ ps.length = ds.length := fun p e => by
    cases k with
    | zero => cases e
    | succ k =>
      unfold toPk at e
      simp only at e
      split at e
      · rename_i ps e2
        cases e
        refine ⟨ps, rfl, ?_⟩
        clear key s0 h
        induction ds generalizing ps with
        | nil => cases e2; rfl
        | cons d r ih =>
          unfold mapO at e2
          split at e2
          · rename_i y s e3 e4
            cases e2
            simp [ih _ e4]
          · cases e2
      · cases e
  have e : eqD S (.tup ds) (.tup []) = some ds.isEmpty := by
    unfold eqD
    have t0 : toPS S (.tup []) = some (.tuple []) := rfl
    cases e1 : toPS S (.tup ds) with
    | some p =>
      have e2 : toP (.tup ds) = some p := e1
      have e3 := toP_k h e2
      obtain ⟨q, e4, c1, c2⟩ := v_data h k (Nat.le_refl _)
      rw [e3] at e4
      cases e4
      obtain ⟨ps, rfl, hl⟩ := hd _ e3
      rw [t0]
      simp only
      rw [if_pos ⟨shaped_of c1 c2 (by omega), s0⟩, key ps hl]
    | none =>
      rw [t0]
      simp only
      obtain ⟨q, e4, c1, c2⟩ := v_data h k (Nat.le_refl _)
      obtain ⟨p, e5, c3, c4⟩ := v_data h 12 hk
      have : ∃ ps, p = .tuple ps ∧ ps.length = ds.length := by
        have h12 := h.mono hk
        unfold toPk at e5
        simp only at e5
        split at e5
        · rename_i ps e6
          cases e5
          refine ⟨ps, rfl, ?_⟩
          clear key s0 h hd e1 e4 h12 c3 c4
          induction ds generalizing ps with
          | nil => cases e6; rfl
          | cons d r ih =>
            unfold mapO at e6
            split at e6
            · rename_i y s e7 e8
              cases e6
              simp [ih _ e8]
            · cases e6
        · cases e5
      obtain ⟨ps, rfl, hl⟩ := this
      rw [e5]
      show (if SeqAt.shaped (.tuple ps) = true ∧ SeqAt.shaped (.tuple []) = true then some (PyData.eqv (.tuple ps) (.tuple [])) else none) = _
      rw [if_pos ⟨shaped_of c3 c4 (by omega), s0⟩, key ps hl]
  unfold cmpD
  simp only [e]
def ratB : D → Bool
  | .tup [.int a, .int b] => decide (0 < b) && decide (Int.gcd a b = 1)
  | _ => false
/-- a slot with any plain value -/
theorem wLoc_v {S : Sto} {k : Nat} {d : D} {l : Sl} {q : D → Prop} (hv : Val S k d) (h : q d) : wLoc (some d :: l) 0 q := wLoc_z (v_isX hv) h
theorem ratB_q (q : Rat) : ratB (dQ q) = true := by
  show (decide ((0 : Int) < q.den) && decide (Int.gcd q.num q.den = 1)) = true
  rw [decide_eq_true (den_pos q), Bool.true_and, decide_eq_true_eq]
  exact q_cop q
/-- in a list of ratios -/
def pQ (q : Rat) : PyData := .tuple [.int q.num, .int q.den]
theorem toPk_q {S : Sto} {k : Nat} (q : Rat) : toPk S (k + 2) (dQ q) = some (pQ q) := rfl
theorem toPk_qs {S : Sto} {k : Nat} (v : List Rat) : mapO (toPk S (k + 2)) (v.map dQ) = some (v.map pQ) := by
  induction v with
  | nil => rfl
  | cons q r ih =>
    rw [List.map_cons, List.map_cons]
    unfold mapO
    rw [toPk_q, ih]
theorem eqv_pQ (p q : Rat) : PyData.eqv (pQ p) (pQ q) = decide (p = q) := by
  have : PyData.eqv (pQ p) (pQ q) = (p.num == q.num && ((p.den : Int) == (q.den : Int) && true)) := by
    unfold pQ
    simp only [PyData.eqv, PyData.eqvAll]
  rw [this]
  by_cases h : p = q
  · subst h; simp
  · rw [decide_eq_false h]
    have : ¬(p.num = q.num ∧ p.den = q.den) := fun z => h (Rat.ext z.1 z.2)
    by_cases h1 : p.num = q.num
    · have h2 : ¬p.den = q.den := fun z => this ⟨h1, z⟩
      simp [h1]
      omega
    · simp [h1]
theorem eqD_q (S : Sto) (p q : Rat) : eqD S (dQ p) (dQ q) = some (decide (p = q)) := by
  have e : ∀ r, toPS S (dQ r) = some (pQ r) := fun _ => rfl
  have s : ∀ r, SeqAt.shaped (pQ r) = true := fun r => shaped_of (k := 1) rfl (by simp [pQ, PyData.depth, PyData.depthAll]) (by decide)
  unfold eqD
  rw [e, e]
  simp only
  rw [if_pos ⟨s p, s q⟩, eqv_pQ]
theorem o_eqQ (S : Sto) (p q : Rat) : cmpD .eq (dQ p) (dQ q) S = .ok (.bl (decide (p = q))) S := by
  unfold cmpD
  simp only [eqD_q]
theorem o_neQ (S : Sto) (p q : Rat) : cmpD .ne (dQ p) (dQ q) S = .ok (.bl (!decide (p = q))) S := by
  unfold cmpD
  simp only [eqD_q]
theorem inD_q {S : Sto} {i : Nat} {mu : Bool} {v : List Rat} (h : S[i]? = some (.lst mu (v.map dQ))) (r : Rat) : inD S (dQ r) (.ref i) = some (decide (r ∈ v)) := by
  have e1 : toPk S 12 (.ref i) = some (.list (v.map pQ)) := by
    unfold toPk
    simp only [h, toPk_qs (S := S) (k := 9) v]
  unfold inD
  simp only [e1, toPk_q (S := S) (k := 10) r]
  have s1 : SeqAt.shaped (pQ r) = true := shaped_of (k := 1) rfl (by simp [pQ, PyData.depth, PyData.depthAll]) (by decide)
  have s2 : SeqAt.shaped (.list (v.map pQ)) = true := by
    refine shaped_of (k := 2) ?_ ?_ (by decide)
    · simp only [PyData.canLay0]
      exact canAll fun p hp => by obtain ⟨q, _, rfl⟩ := List.mem_map.mp hp; rfl
    · simp only [PyData.depth]
      have := depAll (ps := v.map pQ) (k := 1) fun p hp => by obtain ⟨q, _, rfl⟩ := List.mem_map.mp hp; simp [pQ, PyData.depth, PyData.depthAll]
      omega
  rw [if_pos ⟨s1, s2⟩, List.any_map]
  congr 1
  rw [Bool.eq_iff_iff, List.any_eq_true, decide_eq_true_eq]
  constructor
  · rintro ⟨x, hx, e⟩
    have e' : PyData.eqv (pQ x) (pQ r) = true := e
    rw [eqv_pQ, decide_eq_true_eq] at e'
    subst e'
    exact hx
  · intro hr
    exact ⟨r, hr, by show PyData.eqv (pQ r) (pQ r) = true; rw [eqv_pQ, decide_eq_true_eq]⟩
theorem o_ninQ {S : Sto} {i : Nat} {mu : Bool} {v : List Rat} (h : S[i]? = some (.lst mu (v.map dQ))) (r : Rat) : cmpD .nin (dQ r) (.ref i) S = .ok (.bl (!decide (r ∈ v))) S := by
  have e1 : signIn (dQ r) (.ref i) = none := rfl
  have e2 : itemsD S (.ref i) = some (v.map dQ) := by unfold itemsD; simp only [h]
  have e3 : flatD (dQ r) = false := rfl
  unfold cmpD
  simp only [e1, e2, e3, inD_q h, Bool.false_eq_true, false_and, if_false]
theorem o_inQ {S : Sto} {i : Nat} {mu : Bool} {v : List Rat} (h : S[i]? = some (.lst mu (v.map dQ))) (r : Rat) : cmpD .inn (dQ r) (.ref i) S = .ok (.bl (decide (r ∈ v))) S := by
  have e1 : signIn (dQ r) (.ref i) = none := rfl
  have e2 : itemsD S (.ref i) = some (v.map dQ) := by unfold itemsD; simp only [h]
  have e3 : flatD (dQ r) = false := rfl
  unfold cmpD
  simp only [e1, e2, e3, inD_q h, Bool.false_eq_true, false_and, if_false]
def isNonB : D → Bool
  | .non => true
  | _ => false
theorem v_is {S : Sto} {k : Nat} {d : D} (h : Val S k d) : cmpD .is d .non S = .ok (.bl (isNonB d)) S := by cases h <;> rfl
theorem v_isn {S : Sto} {k : Nat} {d : D} (h : Val S k d) : cmpD .isn d .non S = .ok (.bl (!isNonB d)) S := by cases h <;> rfl
section
variable (S : Sto) (i : Int)
theorem o_isI : cmpD .is (.int i) .non S = .ok (.bl false) S := rfl
theorem o_isnI : cmpD .isn (.int i) .non S = .ok (.bl true) S := rfl
theorem o_isN : cmpD .is .non .non S = .ok (.bl true) S := rfl
theorem o_isnN : cmpD .isn .non .non S = .ok (.bl false) S := rfl
theorem o_isnb0 (b : Bool) : cmpD .is .non (.bl b) S = .ok (.bl false) S := rfl
theorem o_isnnb0 (b : Bool) : cmpD .isn .non (.bl b) S = .ok (.bl true) S := rfl
theorem o_isbb (a b : Bool) : cmpD .is (.bl a) (.bl b) S = .ok (.bl (decide (a = b))) S := rfl
theorem o_isnbb (a b : Bool) : cmpD .isn (.bl a) (.bl b) S = .ok (.bl (!decide (a = b))) S := rfl
theorem o_st (ds : List D) : isiT (.tup ds) "str" S = .ok (.bl false) S := rfl
theorem o_sn : isiT .non "tuple" S = .ok (.bl false) S := rfl
theorem o_tn : isiT (.int i) "tuple" S = .ok (.bl false) S := rfl
theorem o_sI : isiT (.int i) "str" S = .ok (.bl false) S := rfl
theorem o_tb (b : Bool) : isiT (.bl b) "tuple" S = .ok (.bl false) S := rfl
theorem o_sb (b : Bool) : isiT (.bl b) "str" S = .ok (.bl false) S := rfl
theorem o_ss (x : Str) : isiT (.str x) "str" S = .ok (.bl true) S := rfl
theorem o_ts (x : Str) : isiT (.str x) "tuple" S = .ok (.bl false) S := rfl
theorem o_isB (b : Bool) : cmpD .is (.bl b) .non S = .ok (.bl false) S := rfl
theorem o_isS (x : Str) : cmpD .is (.str x) .non S = .ok (.bl false) S := rfl
theorem o_isT (ds : List D) : cmpD .is (.tup ds) .non S = .ok (.bl false) S := rfl
theorem o_isnT (ds : List D) : cmpD .isn (.tup ds) .non S = .ok (.bl true) S := rfl
end
/-! ### a written row of items -/
section
variable {F : Wd} {σ : Sl} {S : Sto} {nx : Sl → Sto → Prop} {rt : D → Sto → Prop} {er : XS} {bk ct : Sl → Sto → Prop} {t : Tg} {b : Cms}
theorem w_forN {g : Gd} (h : nx σ S) : wFor F g t b [] σ S nx rt er bk ct := wFor_iff.mpr h
theorem w_forC {d : D} {r : List D} (h : wTg t d σ fun σ' => wSs F b σ' S (fun σ S => wFor F [] t b r σ S nx rt er bk ct) rt er nx (fun σ S => wFor F [] t b r σ S nx rt er bk ct)) : wFor F [] t b (d :: r) σ S nx rt er bk ct := by
  obtain ⟨σ', h1, h2⟩ := wTg_iff.mp h
  simp only [wSs_iff, wFor_iff] at h2
  rw [wFor_iff]
  have e2 : turnD t (fun σ S => evSs b F σ S) d σ S = evSs b F σ' S := by unfold turnD; rw [h1.eq]
  unfold forL
  rw [e2]
  generalize evSs b F σ' S = q at h2
  cases q with
  | nx σ S => dsimp only; rw [if_pos (stands_nil S)]; exact h2
  | ct σ S => dsimp only; rw [if_pos (stands_nil S)]; exact h2
  | bk σ S => exact h2
  | rt d S => exact h2
  | err x fs σ S => exact h2
  | no => exact h2
theorem w_forCS {n : Nat} {o : Ob} {d : D} {r : List D} (h : wTg t d σ fun σ' => wSs F b σ' S (fun σ S => S[n]? = some o ∧ wFor F [(n, o)] t b r σ S nx rt er bk ct) rt er nx (fun σ S => S[n]? = some o ∧ wFor F [(n, o)] t b r σ S nx rt er bk ct)) : wFor F [(n, o)] t b (d :: r) σ S nx rt er bk ct := by
  obtain ⟨σ', h1, h2⟩ := wTg_iff.mp h
  simp only [wSs_iff, wFor_iff] at h2
  rw [wFor_iff]
  have e2 : turnD t (fun σ S => evSs b F σ S) d σ S = evSs b F σ' S := by unfold turnD; rw [h1.eq]
  unfold forL
  rw [e2]
  generalize evSs b F σ' S = q at h2
  cases q with
  | nx σ S => dsimp only; rw [if_pos (stands_one h2.1)]; exact h2.2
  | ct σ S => dsimp only; rw [if_pos (stands_one h2.1)]; exact h2.2
  | bk σ S => exact h2
  | rt d S => exact h2
  | err x fs σ S => exact h2
  | no => exact h2
theorem w_forD {ds : List D} (I : Nat → Sl → Sto → Prop) (h0 : I 0 σ S)
    (hs : ∀ k (hk : k < ds.length) σ S, I k σ S → wTg t ds[k] σ fun σ' => wSs F b σ' S (fun σ S => I (k + 1) σ S) rt er nx (fun σ S => I (k + 1) σ S))
    (he : ∀ σ S, I ds.length σ S → nx σ S) : wFor F [] t b ds σ S nx rt er bk ct := by
  have := w_forM (p := id) ds I h0 hs he (F := F) (t := t) (b := b) (rt := rt) (er := er) (bk := bk) (ct := ct)
  rwa [List.map_id] at this
theorem w_lcD {ow : List Nat} {e : Ex} {Q : List D → Sto → Prop} {E : XE} {ds : List D} (q : D → D) (hl : ds.length ≤ 1000000)
    (hs : wWp σ ow fun σ0 => ∀ x ∈ ds, wTg t x σ0 fun σ' => wE F e σ' S (fun y S2 => y = q x ∧ S2 = S) noE) (h : Q (ds.map q) S) : wLc F [] ow t (.con (.bl true)) e σ ds S Q E :=
  w_lcM ds id q (by simp) hl (stands_nil _) hs h
end
end Kq
set_option Elab.async false
set_option linter.all false
set_option maxRecDepth 100000
set_option maxHeartbeats 2000000
set_option autoImplicit false
/-! # The Q layer, part X: equality of plain data, texts, stores -/
namespace Kq
open PySem PySem.Spec PyProof.Rows L2
/-! ### pure values: no lists -/
inductive Pv : Nat → D → Prop
  | non {k : Nat} : Pv (k + 1) .non
  | bl {k : Nat} (b : Bool) : Pv (k + 1) (.bl b)
  | int {k : Nat} (i : Int) : Pv (k + 1) (.int i)
  | str {k : Nat} {x : Str} : PyData.canLay0 (.str x) = true → Pv (k + 1) (.str x)
  | tup {k : Nat} {ds : List D} : (∀ d ∈ ds, Pv k d) → ds.length ≤ 100000 → Pv (k + 1) (.tup ds)
theorem Pv.up {k : Nat} {d : D} (h : Pv k d) : Pv (k + 1) d := by
  induction h with
  | non => exact .non
  | bl b => exact .bl b
  | int i => exact .int i
  | str x => exact .str x
  | tup _ h ih => exact .tup ih h
theorem Pv.mono {k l : Nat} {d : D} (h : Pv k d) (hl : k ≤ l) : Pv l d := by
  obtain ⟨j, rfl⟩ := Nat.le.dest hl
  induction j with
  | zero => exact h
  | succ j ih => exact (ih (by omega)).up
theorem Pv.nil {k : Nat} : Pv (k + 1) (.tup []) := .tup (fun _ h => by simp at h) (by simp)
theorem Pv.cons {k : Nat} {d : D} {ds : List D} (h : Pv k d) (r : Pv (k + 1) (.tup ds)) (hl : ds.length < 1000) : Pv (k + 1) (.tup (d :: ds)) := by
  cases r with
  | tup hm _ => exact .tup (fun e he => by rcases List.mem_cons.mp he with rfl | he <;> first | exact h | exact hm e he) (by simp; omega)
theorem Pv.q (q : Rat) : Pv 2 (dQ q) := .tup (fun d hd => by
  simp only [List.mem_cons, List.not_mem_nil, or_false] at hd
  rcases hd with rfl | rfl <;> exact .int _) (by simp)
theorem Pv.v {v : List Rat} (hl : v.length ≤ 100000) : Pv 3 (dV v) := .tup (fun d hd => by
  obtain ⟨q, _, rfl⟩ := List.mem_map.mp hd
  exact .q q) (by rw [List.length_map]; exact hl)
theorem Pv.m {m : List (List Rat)} (hl : m.length ≤ 100000) (h : ∀ v ∈ m, v.length ≤ 100000) : Pv 4 (dM m) := .tup (fun d hd => by
  obtain ⟨v, hv, rfl⟩ := List.mem_map.mp hd
  exact .v (h v hv)) (by rw [List.length_map]; exact hl)
mutual
theorem pv_toP : ∀ {k : Nat} {d : D}, Pv k d → ∃ p, toP d = some p ∧ p.canLay0 = true ∧ p.depth ≤ k
  | _, _, .non => ⟨_, rfl, rfl, by simp [PyData.depth]⟩
  | _, _, .bl b => ⟨_, rfl, rfl, by simp [PyData.depth]⟩
  | _, _, .int i => ⟨_, rfl, rfl, by simp [PyData.depth]⟩
  | _, _, .str x => ⟨_, rfl, x, by simp [PyData.depth]⟩
  | k + 1, .tup ds, .tup hm _ => by
    obtain ⟨ps, e, h1, h2⟩ := pv_toPs ds hm
    refine ⟨.tuple ps, by unfold toP; rw [e]; rfl, ?_, ?_⟩
    · simp only [PyData.canLay0]; exact canAll h1
    · simp only [PyData.depth]
      have := depAll h2
      omega
theorem pv_toPs {k : Nat} : ∀ ds : List D, (∀ d ∈ ds, Pv k d) → ∃ ps, toPs ds = some ps ∧ (∀ p ∈ ps, p.canLay0 = true) ∧ ∀ p ∈ ps, p.depth ≤ k
  | [], _ => ⟨[], rfl, (fun _ h => nomatch h), fun _ h => nomatch h⟩
  | d :: r, hm => by
    obtain ⟨p, e1, h1, h2⟩ := pv_toP (hm d (by simp))
    obtain ⟨ps, e2, h3, h4⟩ := pv_toPs r fun x hx => hm x (by simp [hx])
    refine ⟨p :: ps, by unfold toPs; rw [e1, e2]; rfl, fun q hq => ?_, fun q hq => ?_⟩
    · rcases List.mem_cons.mp hq with rfl | hq
      · exact h1
      · exact h3 q hq
    · rcases List.mem_cons.mp hq with rfl | hq
      · exact h2
      · exact h4 q hq
end
theorem eqD_P {S : Sto} {d e : D} {p q : PyData} (hd : toP d = some p) (he : toP e = some q) (sp : SeqAt.shaped p = true) (sq : SeqAt.shaped q = true) : eqD S d e = some (PyData.eqv p q) := by
  have h1 : toPS S d = some p := by
    cases d <;> first | exact hd | cases hd
  have h2 : toPS S e = some q := by
    cases e <;> first | exact he | cases he
  unfold eqD
  simp only [h1, h2]
  rw [if_pos ⟨sp, sq⟩]
theorem eqD_refl {k : Nat} {d : D} (h : Pv k d) (hk : k ≤ 60) (S : Sto) : eqD S d d = some true := by
  obtain ⟨p, e, h1, h2⟩ := pv_toP h
  have s := shaped_of h1 h2 (by omega)
  rw [eqD_P e e s s, SeqAt.eqv_refl _ h1]
theorem o_eqR {k : Nat} {d : D} (h : Pv k d) (hk : k ≤ 60) (S : Sto) : cmpD .eq d d S = .ok (.bl true) S := by
  unfold cmpD
  simp only [eqD_refl h hk S]
theorem o_neR {k : Nat} {d : D} (h : Pv k d) (hk : k ≤ 60) (S : Sto) : cmpD .ne d d S = .ok (.bl false) S := by
  unfold cmpD
  simp only [eqD_refl h hk S, Bool.not_true]
/-! ### texts -/
theorem eqD_str {a b : Str} (ha : PyData.canLay0 (.str a) = true) (hb : PyData.canLay0 (.str b) = true) (S : Sto) : eqD S (.str a) (.str b) = some (decide (a = b)) := by
  rw [eqD_P (p := .str a) (q := .str b) rfl rfl (shaped_of (k := 0) ha (by simp [PyData.depth]) (by decide)) (shaped_of (k := 0) hb (by simp [PyData.depth]) (by decide))]
  rfl
theorem o_eqS {a b : Str} (ha : PyData.canLay0 (.str a) = true) (hb : PyData.canLay0 (.str b) = true) (S : Sto) : cmpD .eq (.str a) (.str b) S = .ok (.bl (decide (a = b))) S := by
  unfold cmpD
  simp only [eqD_str ha hb S]
theorem o_neS {a b : Str} (ha : PyData.canLay0 (.str a) = true) (hb : PyData.canLay0 (.str b) = true) (S : Sto) : cmpD .ne (.str a) (.str b) S = .ok (.bl (!decide (a = b))) S := by
  unfold cmpD
  simp only [eqD_str ha hb S]
/-! ### vectors -/
theorem toPs_v (v : List Rat) : toPs (v.map dQ) = some (v.map pQ) := by
  induction v with
  | nil => rfl
  | cons q r ih =>
    rw [List.map_cons, List.map_cons]
    unfold toPs
    rw [ih]
    rfl
theorem eqv_pV : ∀ v w : List Rat, PyData.eqv (.tuple (v.map pQ)) (.tuple (w.map pQ)) = decide (v = w)
  | [], [] => by simp [PyData.eqv, PyData.eqvAll]
  | [], _ :: _ => by simp [PyData.eqv, PyData.eqvAll]
  | _ :: _, [] => by simp [PyData.eqv, PyData.eqvAll]
  | p :: v, q :: w => by
    have ih := eqv_pV v w
    simp only [PyData.eqv] at ih ⊢
    simp only [List.map_cons, PyData.eqvAll, eqv_pQ, ih]
    rw [Bool.eq_iff_iff]
    simp
theorem sh_v (v : List Rat) : SeqAt.shaped (.tuple (v.map pQ)) = true := by
  refine shaped_of (k := 3) ?_ ?_ (by decide)
  · simp only [PyData.canLay0]
    refine canAll fun p hp => ?_
    obtain ⟨q, _, rfl⟩ := List.mem_map.mp hp
    simp [pQ, PyData.canLay0, PyData.canLayAll0]
  · simp only [PyData.depth]
    have : PyData.depthAll (v.map pQ) ≤ 2 := depAll fun p hp => by
      obtain ⟨q, _, rfl⟩ := List.mem_map.mp hp
      simp [pQ, PyData.depth, PyData.depthAll]
    omega
theorem eqD_V (S : Sto) (v w : List Rat) : eqD S (dV v) (dV w) = some (decide (v = w)) := by
  have e : ∀ v : List Rat, toP (dV v) = some (.tuple (v.map pQ)) := fun v => by
    unfold dV toP
    rw [toPs_v]
    rfl
  rw [eqD_P (e v) (e w) (sh_v v) (sh_v w), eqv_pV]
theorem o_eqV (S : Sto) (v w : List Rat) : cmpD .eq (dV v) (dV w) S = .ok (.bl (decide (v = w))) S := by
  unfold cmpD
  simp only [eqD_V]
theorem o_neV (S : Sto) (v w : List Rat) : cmpD .ne (dV v) (dV w) S = .ok (.bl (!decide (v = w))) S := by
  unfold cmpD
  simp only [eqD_V]
/-! ### in a list of whole numbers -/
theorem o_inI {S : Sto} {n : Nat} {mu : Bool} {is : List Int} (h : S[n]? = some (.lst mu (is.map D.int))) (i : Int) : cmpD .inn (.int i) (.ref n) S = .ok (.bl (decide (i ∈ is))) S := by
  have e1 : signIn (.int i) (.ref n) = none := rfl
  have e2 : itemsD S (.ref n) = some (is.map D.int) := by unfold itemsD; simp only [h]
  have e3 : (is.map D.int).all flatD = true := by rw [List.all_map, List.all_eq_true]; exact fun _ _ => rfl
  have e4 : ((is.map D.int).any fun y => eqF y (.int i)) = decide (i ∈ is) := by
    rw [List.any_map, Bool.eq_iff_iff, List.any_eq_true, decide_eq_true_eq]
    constructor
    · rintro ⟨x, hx, e⟩
      have e' : (x == i) = true := e
      have := eq_of_beq e'
      subst this
      exact hx
    · intro hi
      exact ⟨i, hi, by show (i == i) = true; simp⟩
  unfold cmpD
  simp only [e1, e2]
  rw [if_pos ⟨rfl, e3⟩, e4]
/-! ### lists -/
theorem o_repL {n : Nat} {d : D} {j : Int} {S : Sto} (hS : S[n]? = some (.lst true [d])) (h : -1000000 < j ∧ j < 1000000) : binD .mul (.ref n) (.int j) S = .ok (.ref S.length) (S ++ [.lst true (List.replicate j.toNat d)]) := by
  unfold binD
  simp only [hS]
  rw [if_pos ⟨h.1, h.2, by show [d].length * j.toNat ≤ 1000000; simp; omega⟩, flat_rep]
theorem o_repT0 {j : Int} (S : Sto) (h : -1000000 < j ∧ j < 1000000) : binD .mul (.tup [dQ 0]) (.int j) S = .ok (dV (List.replicate j.toNat 0)) S := by
  unfold dV
  rw [List.map_replicate]
  exact o_rep h
theorem rep_dV (n : Nat) : D.tup (List.replicate n (dQ 0)) = dV (List.replicate n 0) := by
  unfold dV
  rw [List.map_replicate]
/-- what stands -/
theorem w_of {r : R D} {Q : D → Sto → Prop} {E : XE} {P : D → Sto → Prop} (h : ∃ d S', r = .ok d S' ∧ P d S') (k : ∀ d S', P d S' → Q d S') : wR r Q E := by
  obtain ⟨d, S', e, p⟩ := h
  exact w_ok e (k d S' p)
theorem Ext.getL {S S' : Sto} (h : Ext S S') {n : Nat} {o : Ob} (e : S[n]? = some o) : S'[n]? = some o := h.get e
/-- a handler by a class above: all of it -/
theorem kin_W {T : Tb} {n : Nat} {x c : Str} {b : Bool} (h : T.kin x c = b) : (W T n).kin x c = b := by rw [W_kin, h]
/-- in a handler: is it one of a class -/
theorem o_eis {x c : Str} {fs : List D} {b : Bool} {kin : Str → Str → Bool} {o : Option (Option D)} (ho : o = some (some .exc)) (h : kin x c = b) (S : Sto) : eisD (some (x, fs)) kin c o S = .ok (.bl b) S := by
  subst ho
  unfold eisD
  simp only [h]
theorem dV_inj {v w : List Rat} (h : dV v = dV w) : v = w := by
  have h1 := eqD_V [] v w
  have h2 := eqD_V [] w w
  rw [h, h2] at h1
  simpa using h1.symm
/-- an item of a written list of whole numbers -/
theorem w_pickI {n : Nat} {mu : Bool} {ds : List D} {i : Int} {S : Sto} {Q : D → Sto → Prop} {E : XE} (is : List Int) (hS : S[n]? = some (.lst mu ds)) (e : ds = is.map D.int) (h0 : 0 ≤ i) (h1 : i < is.length) (h : ∀ j ∈ is, Q (.int j) S) : wR (idxD (.ref n) (.int i) S) Q E :=
  w_pick hS h0 (by rw [e, List.length_map]; exact h1) fun d hd => by
    rw [e] at hd
    obtain ⟨j, hj, rfl⟩ := List.mem_map.mp hd
    exact h j hj
/-- lists of the store with the same pure items -/
theorem eqD_LL {S : Sto} {a b : Nat} {mu mv : Bool} {ds : List D} (ha : S[a]? = some (.lst mu ds)) (hb : S[b]? = some (.lst mv ds)) {k : Nat} (h : ∀ d ∈ ds, Pv k d) (hk : k ≤ 50) : eqD S (.ref a) (.ref b) = some true := by
  obtain ⟨ps, e, h1, h2⟩ := pv_toPs ds h
  have ea : toPS S (.ref a) = some (.list ps) := by unfold toPS; simp only [ha, e]; rfl
  have eb : toPS S (.ref b) = some (.list ps) := by unfold toPS; simp only [hb, e]; rfl
  have c : (PyData.list ps).canLay0 = true := by simp only [PyData.canLay0]; exact canAll h1
  have s : SeqAt.shaped (.list ps) = true := shaped_of (k := k + 1) c (by simp only [PyData.depth]; have := depAll h2; omega) (by omega)
  unfold eqD
  simp only [ea, eb]
  rw [if_pos ⟨s, s⟩, SeqAt.eqv_refl _ c]
theorem o_eqLL {S : Sto} {a b : Nat} {mu mv : Bool} {ds : List D} (ha : S[a]? = some (.lst mu ds)) (hb : S[b]? = some (.lst mv ds)) {k : Nat} (h : ∀ d ∈ ds, Pv k d) (hk : k ≤ 50) : cmpD .eq (.ref a) (.ref b) S = .ok (.bl true) S := by
  unfold cmpD
  simp only [eqD_LL ha hb h hk]
theorem o_neLL {S : Sto} {a b : Nat} {mu mv : Bool} {ds : List D} (ha : S[a]? = some (.lst mu ds)) (hb : S[b]? = some (.lst mv ds)) {k : Nat} (h : ∀ d ∈ ds, Pv k d) (hk : k ≤ 50) : cmpD .ne (.ref a) (.ref b) S = .ok (.bl false) S := by
  unfold cmpD
  simp only [eqD_LL ha hb h hk, Bool.not_true]
section
variable {S : Sto} {n : Nat} {mu : Bool}
theorem o_allR {α : Type} {xs : List α} {f : α → Bool} (h : S[n]? = some (.lst mu (xs.map fun x => D.bl (f x)))) : biD .all [.ref n] S = .ok (.bl (xs.all f)) S := by
  unfold biD
  simp only [h, allB_map]
  rw [List.all_map]
  rfl
theorem o_anyR {α : Type} {xs : List α} {f : α → Bool} (h : S[n]? = some (.lst mu (xs.map fun x => D.bl (f x)))) : biD .any [.ref n] S = .ok (.bl (xs.any f)) S := by
  unfold biD
  simp only [h, allB_map]
  rw [List.any_map]
  rfl
theorem allI_map {α : Type} {xs : List α} {f : α → Int} : allI (xs.map fun x => D.int (f x)) = some (xs.map f) := by
  induction xs with
  | nil => rfl
  | cons x r ih => simp only [List.map_cons, allI, ih]; rfl
theorem o_sumR {α : Type} {xs : List α} {f : α → Int} (h : S[n]? = some (.lst mu (xs.map fun x => D.int (f x)))) : biD .sum [.ref n] S = .ok (.int (xs.map f).sum) S := by
  unfold biD
  simp only [h, allI_map]
theorem rgOk_of {i j c : Int} (h : (0 < c ∧ c < 1000000) ∧ (-1000000 < i ∧ i < 1000000) ∧ -1000000 < j ∧ j < 1000000) : rgOk i j c = true := by
  unfold rgOk
  simp only [Bool.and_eq_true, decide_eq_true_eq]
  omega
theorem o_rng3 {i j c : Int} (h : (0 < c ∧ c < 1000000) ∧ (-1000000 < i ∧ i < 1000000) ∧ -1000000 < j ∧ j < 1000000) : rngD [.int i, .int j, .int c] S = .ok ([], rgL i j c) S := by
  unfold rngD
  simp only [rgOk_of h, if_true]
theorem o_mkR {i j c : Int} (h : (0 < c ∧ c < 1000000) ∧ (-1000000 < i ∧ i < 1000000) ∧ -1000000 < j ∧ j < 1000000) : biD .rng [.int i, .int j, .int c] S = .ok (.ref S.length) (S ++ [.rng i j c]) := by
  unfold biD
  simp only [rgOk_of h, if_true]
theorem o_lenG {i j c : Int} (h : S[n]? = some (.rng i j c)) : biD .len [.ref n] S = .ok (.int (rgN i j c)) S := by
  unfold biD
  simp only [itemsD, rgO, h]
theorem o_itG {i j c : Int} (h : S[n]? = some (.rng i j c)) : itG (.ref n) S = .ok ([], rgL i j c) S := by
  unfold itG
  simp only [srcD, rgO, h]
theorem o_ext {m : Nat} {xs ys : List D} (h : S[n]? = some (.lst true xs)) (h2 : S[m]? = some (.lst true ys)) (hl : xs.length + ys.length ≤ 1000000) : bmD .extend (.ref n) [.ref m] S = .ok .non (S.set n (.lst true (xs ++ ys))) := by
  unfold bmD
  simp only [h, h2]
  rw [if_pos (show xs.length + ys.length ≤ big from hl)]
theorem o_extC {xs : List D} (h : S[n]? = some (.lst true xs)) : bmChk .extend (.ref n) S = true := by
  unfold bmChk; simp only [h]
end
/-! ### texts, enumerated items -/
theorem o_addS0 {a : Str} (h : a.length ≤ 1000) (S : Sto) : binD .add (.str a) (.str "") S = .ok (.str a) S := by
  have e2 : binD .add (.str a) (.str "") S = .ok (.str (a ++ "")) S := by
    unfold binD
    simp only
    rw [if_pos (show a.length + ("" : Str).length ≤ big by show a.length + 0 ≤ 1000000; omega)]
  rw [e2, str_nil]
theorem o_addT0 {x : List D} (h : x.length ≤ 1000000) (S : Sto) : binD .add (.tup x) (.tup []) S = .ok (.tup x) S := by
  rw [o_addT (by simpa using h), List.append_nil]
theorem idx_tup3 (S : Sto) (a b c d : D) (r : List D) : idxD (.tup (a :: b :: c :: d :: r)) (.int 3) S = .ok d S := o_idx (n := 3) rfl rfl
theorem idx_tup4 (S : Sto) (a b c d e : D) (r : List D) : idxD (.tup (a :: b :: c :: d :: e :: r)) (.int 4) S = .ok e S := o_idx (n := 4) rfl rfl
theorem at_last {xs : List D} {d : D} (h : xs.getLast? = some d) : L2.atI xs (-1) = some d := by
  have h0 : xs.length ≠ 0 := fun z => by rw [List.eq_nil_of_length_eq_zero z] at h; cases h
  unfold L2.atI L2.ixN
  rw [if_neg (by omega), if_pos (by omega)]
  show xs[(-1 + (xs.length : Int)).toNat]? = some d
  rw [show (-1 + (xs.length : Int)).toNat = xs.length - 1 by omega, ← List.getLast?_eq_getElem?, h]
theorem o_last {xs : List D} {d : D} (h : xs.getLast? = some d) (S : Sto) : idxD (.tup xs) (.int (-1)) S = .ok d S := by
  unfold idxD
  simp only [at_last h]
theorem o_lastR {n : Nat} {mu : Bool} {xs : List D} {d : D} {S : Sto} (hS : S[n]? = some (.lst mu xs)) (h : xs.getLast? = some d) : idxD (.ref n) (.int (-1)) S = .ok d S := by
  unfold idxD
  simp only [hS, at_last h]
theorem o_enmT (S : Sto) (ds : List D) : enmD (.tup ds) S = .ok ([], ds.zipIdx.map fun p => .tup [.int (Int.ofNat p.2), p.1]) S := rfl
theorem o_enm {S : Sto} {n : Nat} {mu : Bool} {ds : List D} (h : S[n]? = some (.lst mu ds)) : enmD (.ref n) S = .ok ([(n, .lst mu ds)], ds.zipIdx.map fun p => .tup [.int (Int.ofNat p.2), p.1]) S := by
  unfold enmD srcD; simp only [h]
/-- over an enumerated tuple -/
theorem w_forE {α : Type} {F : Wd} {σ : Sl} {S : Sto} {nx : Sl → Sto → Prop} {rt : D → Sto → Prop} {er : XS} {bk ct : Sl → Sto → Prop} {t : Tg} {b : Cms} (xs : List α) {p : α → D} (I : Nat → Sl → Sto → Prop) (h0 : I 0 σ S)
    (hs : ∀ k (hk : k < xs.length) σ S, I k σ S → wTg t (.tup [.int k, p xs[k]]) σ fun σ' => wSs F b σ' S (fun σ S => I (k + 1) σ S) rt er nx (fun σ S => I (k + 1) σ S))
    (he : ∀ σ S, I xs.length σ S → nx σ S) : wFor F [] t b ((xs.map p).zipIdx.map fun p => .tup [.int (Int.ofNat p.2), p.1]) σ S nx rt er bk ct := by
  have e : ((xs.map p).zipIdx.map fun p => D.tup [.int (Int.ofNat p.2), p.1]) = (List.range xs.length).map fun k => if h : k < xs.length then .tup [.int k, p xs[k]] else .non := by
    apply List.ext_getElem
    · simp
    · intro i h1 h2
      have hi : i < xs.length := by simpa using h2
      simp only [List.getElem_map, List.getElem_zipIdx, List.getElem_range]
      rw [dif_pos hi]
      simp
  rw [e]
  refine w_forM (List.range xs.length) I h0 (fun k hk σ S i => ?_) fun σ S i => he σ S (by rwa [List.length_range] at i)
  have hk' : k < xs.length := by simpa using hk
  have := hs k hk' σ S i
  rw [List.getElem_range, dif_pos hk']
  exact this
/-- a comprehension over enumerated items -/
theorem w_lcEn {α : Type} {F : Wd} {g : Gd} {σ : Sl} {S : Sto} {t : Tg} {ow : List Nat} {e : Ex} {Q : List D → Sto → Prop} {E : XE} (xs : List α) {p : α → D} (q : Nat → D) (hg : stands g S) (hl : xs.length ≤ 1000000)
    (hs : wWp σ ow fun σ0 => ∀ (k : Nat) (hk : k < xs.length), wTg t (.tup [.int k, p xs[k]]) σ0 fun σ' => wE F e σ' S (fun y S2 => y = q k ∧ S2 = S) noE) (h : Q ((List.range xs.length).map q) S) :
    wLc F g ow t (.con (.bl true)) e σ ((xs.map p).zipIdx.map fun p => .tup [.int (Int.ofNat p.2), p.1]) S Q E := by
  have e1 : ((xs.map p).zipIdx.map fun p => D.tup [.int (Int.ofNat p.2), p.1]) = (List.range xs.length).map fun k => if h : k < xs.length then .tup [.int k, p xs[k]] else .non := by
    apply List.ext_getElem
    · simp
    · intro i h1 h2
      have hi : i < xs.length := by simpa using h2
      simp only [List.getElem_map, List.getElem_zipIdx, List.getElem_range]
      rw [dif_pos hi]
      simp
  rw [e1]
  refine w_lcM (List.range xs.length) _ q rfl (by rw [List.length_range]; exact hl) hg (wWp_iff.mpr fun k hk => ?_) h
  have hk' := List.mem_range.mp hk
  have := wWp_iff.mp hs k hk'
  rw [dif_pos hk']
  exact this
theorem enum_eq {α : Type} (xs : List α) (p : α → D) : ((xs.map p).zipIdx.map fun p => D.tup [.int (Int.ofNat p.2), p.1]) = (List.range xs.length).map fun (k : Nat) => D.tup [.int k, (xs[k]?.map p).getD .non] := by
  apply List.ext_getElem
  · simp
  · intro i h1 h2
    have hi : i < xs.length := by simpa using h2
    simp only [List.getElem_map, List.getElem_zipIdx, List.getElem_range, List.getElem?_eq_getElem hi]
    simp
/-- a comprehension that keeps some of the items -/
theorem w_lcF {α : Type} {F : Wd} {g : Gd} {σ : Sl} {S : Sto} {t : Tg} {ow : List Nat} {ce e : Ex} {Q : List D → Sto → Prop} {E : XE} (xs : List α) {p : α → D} (c : α → Bool) (q : α → D) (hg : stands g S) (hl : xs.length ≤ 1000000)
    (hs : wWp σ ow fun σ0 => ∀ x ∈ xs, wTg t (p x) σ0 fun σ' => wT F ce σ' S (fun b S1 => if b = true then c x = true ∧ wE F e σ' S1 (fun y S2 => y = q x ∧ S2 = S) noE else c x = false ∧ S1 = S) noE) (h : Q ((xs.filter c).map q) S) : wLc F g ow t ce e σ (xs.map p) S Q E := by
  refine w_lcE (fun k ys S' => ys = ((xs.take k).filter c).map q ∧ S' = S) ⟨rfl, rfl⟩ (fun k hk ys S' i => ?_) fun ys S' i => ?_
  · obtain ⟨rfl, rfl⟩ := i
    have hk' : k < xs.length := by simpa using hk
    obtain ⟨σ', h1, h2⟩ := wTg_iff.mp (wWp_iff.mp hs xs[k] (List.getElem_mem hk'))
    refine wWp_iff.mpr (wTg_iff.mpr ⟨σ', by rw [List.getElem_map]; exact h1, ?_⟩)
    rw [wT_iff] at h2 ⊢
    refine R.wp_mono h2 (fun b S2 h => ?_) fun _ _ _ => id
    rw [List.take_succ_eq_append_getElem hk', List.filter_append, List.map_append]
    cases b with
    | true =>
      simp only [if_true] at h ⊢
      obtain ⟨hc, h3⟩ := h
      rw [wE_iff] at h3 ⊢
      refine R.wp_mono h3 (fun y S3 h => ?_) fun _ _ _ => id
      obtain ⟨rfl, rfl⟩ := h
      refine ⟨hg, ?_, rfl⟩
      rw [List.filter_cons_of_pos hc]
      rfl
    | false =>
      simp only [Bool.false_eq_true, if_false] at h ⊢
      obtain ⟨hc, rfl⟩ := h
      refine ⟨hg, ?_, rfl⟩
      rw [List.filter_cons_of_neg (by simp [hc])]
      simp
  · obtain ⟨rfl, rfl⟩ := i
    rw [List.length_map, List.length_map, List.take_length]
    exact ⟨Nat.le_trans (List.length_filter_le ..) hl, h⟩
/-- over a range, what each item gives is known -/
theorem w_lcXB {F : Wd} {σ : Sl} {S : Sto} {t : Tg} {n : Int} {ow : List Nat} {e : Ex} {Q : List D → Sto → Prop} {E : XE} (q : Nat → D) (hl : n ≤ 1000000)
    (hs : wWp σ ow fun σ0 => ∀ i : Nat, (i : Int) < n → ∀ S1, Ext S S1 → wTg t (.int i) σ0 fun σ' => wE F e σ' S1 (fun y S2 => y = q i ∧ Ext S1 S2) noE)
    (h : ∀ (S1 : Sto), Ext S S1 → Q ((List.range n.toNat).map q) S1) : wLc F [] ow t (.con (.bl true)) e σ ((List.range n.toNat).map fun i => D.int (Int.ofNat i)) S Q E :=
  w_lcX (List.range n.toNat) id (fun i d => d = q i) (fun _ _ => stands_nil _) (by rw [List.length_range]; omega) (wWp_iff.mpr fun i hi S1 x1 => by
    have := List.mem_range.mp hi
    obtain ⟨σ', h1, h2⟩ := wTg_iff.mp (wWp_iff.mp hs i (by omega) S1 x1)
    refine wTg_iff.mpr ⟨σ', h1, ?_⟩
    rw [wE_iff] at h2 ⊢
    exact R.wp_mono h2 (fun y S2 h => ⟨y, rfl, h.2, h.1⟩) fun _ _ _ => id) fun bs S1 x1 hlen hP => by
      have e : bs.map id = (List.range n.toNat).map q := by
        rw [List.map_id]
        apply List.ext_getElem
        · rw [hlen, List.length_map]
        · intro i h1 h2
          rw [hP i (by rw [← hlen]; exact h1) h1, List.getElem_map]
      rw [e]
      exact h S1 x1
/-- some of a range's numbers are kept -/
theorem w_lcSub {F : Wd} {σ : Sl} {S : Sto} {t : Tg} {n : Int} {ow : List Nat} {ce e : Ex} {Q : List D → Sto → Prop} {E : XE} (hl : n ≤ 1000000)
    (hs : wWp σ ow fun σ0 => ∀ i : Nat, (i : Int) < n → ∀ S1, Ext S S1 → wTg t (.int i) σ0 fun σ' => wT F ce σ' S1 (fun b S2 => Ext S1 S2 ∧ (b = true → wE F e σ' S2 (fun y S3 => y = .int i ∧ S3 = S2) noE)) noE)
    (h : ∀ (s : List Nat) (S1 : Sto), Ext S S1 → s.Sublist (List.range n.toNat) → Q (s.map fun (i : Nat) => D.int i) S1) : wLc F [] ow t ce e σ ((List.range n.toNat).map fun i => D.int (Int.ofNat i)) S Q E := by
  refine w_lcE (fun k ys S' => ∃ s : List Nat, ys = (s.map fun (i : Nat) => D.int i) ∧ s.Sublist (List.range k) ∧ Ext S S') ⟨[], rfl, by simp, Ext.refl⟩ (fun k hk ys S' i => ?_) fun ys S' i => ?_
  · obtain ⟨s, rfl, hs1, x1⟩ := i
    have hk' : k < n.toNat := by simpa using hk
    obtain ⟨σ', h1, h2⟩ := wTg_iff.mp (wWp_iff.mp hs k (by omega) S' x1)
    refine wWp_iff.mpr (wTg_iff.mpr ⟨σ', by rw [List.getElem_map, List.getElem_range]; exact h1, ?_⟩)
    rw [wT_iff] at h2 ⊢
    refine R.wp_mono h2 (fun b S2 h => ?_) fun _ _ _ => id
    obtain ⟨x2, h3⟩ := h
    cases b with
    | true =>
      simp only [if_true]
      have h3 := h3 rfl
      rw [wE_iff] at h3 ⊢
      refine R.wp_mono h3 (fun y S3 h => ?_) fun _ _ _ => id
      obtain ⟨rfl, rfl⟩ := h
      refine ⟨stands_nil _, s ++ [k], by simp, ?_, x1.trans x2⟩
      rw [List.range_succ]
      exact List.Sublist.append hs1 (List.Sublist.refl _)
    | false =>
      simp only [Bool.false_eq_true, if_false]
      refine ⟨stands_nil _, s, rfl, ?_, x1.trans x2⟩
      rw [List.range_succ]
      exact hs1.trans (List.sublist_append_left ..)
  · obtain ⟨s, rfl, hs1, x1⟩ := i
    rw [List.length_map, List.length_range] at hs1
    refine ⟨?_, h s S' x1 hs1⟩
    have := hs1.length_le
    rw [List.length_range] at this
    rw [List.length_map]
    show s.length ≤ 1000000
    omega
/-- the field of the exception in hand -/
theorem o_efl {fld : Str → List Str} {f x : Str} {fs : List D} {d : D} {ns : List Str} {o : Option (Option D)} (ho : o = some (some .exc)) (hf : fld x = ns) (h : (ns.zip fs).lookup f = some d) (S : Sto) : eflD (some (x, fs)) fld f o S = .ok d S := by
  subst ho
  unfold eflD
  simp only [hf, h]
theorem fld_W {T : Tb} {n : Nat} {x : Str} {ns : List Str} (h : T.fld x = ns) : (W T n).fld x = ns := by rw [W_fld, h]
/-- to look at a goal in short (no proof) -/
theorem peekR {α : Type} {r : R α} {Q : α → Sto → Prop} {E : XE} (f : False) (h : r = r) : wR r Q E := f.elim
theorem peekP {r : R (Gd × List D)} {Q : Gd → List D → Sto → Prop} {E : XE} (f : False) (h : r = r) : wP r Q E := f.elim
theorem peekE {F : Wd} {e : Ex} {σ : Sl} {S : Sto} {Q : D → Sto → Prop} {E : XE} (f : False) (h : (e, σ, S) = (e, σ, S)) : wE F e σ S Q E := f.elim
theorem peekS {F : Wd} {c : Cms} {σ : Sl} {S : Sto} {nx : Sl → Sto → Prop} {rt : D → Sto → Prop} {er : XS} {bk ct : Sl → Sto → Prop} (f : False) (h : (σ, S) = (σ, S)) : wSs F c σ S nx rt er bk ct := f.elim
theorem peekC {F : Wd} {c : Cm} {σ : Sl} {S : Sto} {nx : Sl → Sto → Prop} {rt : D → Sto → Prop} {er : XS} {bk ct : Sl → Sto → Prop} (f : False) (h : (c, σ, S) = (c, σ, S)) : wS F c σ S nx rt er bk ct := f.elim
theorem peekL {σ : Sl} {i : Nat} {q : D → Prop} (f : False) (h : (σ, i) = (σ, i)) : wLoc σ i q := f.elim
theorem peekI {b : Bool} {A B : Prop} (f : False) (h : b = b) : if b = true then A else B := f.elim
/-- over a range: each item may leave objects behind -/
theorem w_lcXR {β : Type} {F : Wd} {σ : Sl} {S : Sto} {t : Tg} {n : Int} {ow : List Nat} {e : Ex} {Q : List D → Sto → Prop} {E : XE} (f : β → D) (P : Nat → β → Prop) (hl : n ≤ 1000000)
    (hs : wWp σ ow fun σ0 => ∀ i : Nat, (i : Int) < n → ∀ S1, Ext S S1 → wTg t (.int i) σ0 fun σ' => wE F e σ' S1 (fun y S2 => ∃ b, y = f b ∧ Ext S1 S2 ∧ P i b) noE)
    (h : ∀ (bs : List β) (S1 : Sto), Ext S S1 → bs.length = n.toNat → (∀ i (h2 : i < bs.length), P i bs[i]) → Q (bs.map f) S1) : wLc F [] ow t (.con (.bl true)) e σ ((List.range n.toNat).map fun i => D.int (Int.ofNat i)) S Q E :=
  w_lcX (List.range n.toNat) f P (fun _ _ => stands_nil _) (by rw [List.length_range]; omega) (wWp_iff.mpr fun i hi S1 x1 => by
    have := List.mem_range.mp hi
    exact wWp_iff.mp hs i (by omega) S1 x1) fun bs S1 x1 hlen hP => h bs S1 x1 (by simpa using hlen) fun i h2 => by
      have := hP i (by rw [hlen] at h2; exact h2) h2
      rwa [List.getElem_range] at this
/-! ### objects -/
/-- a field's content -/
inductive FlR (f : Str) : List (Str × D) → D → Prop
  | hit {d r} : FlR f ((f, d) :: r) d
  | miss {g e r d} : (f == g) = false → FlR f r d → FlR f ((g, e) :: r) d
theorem FlR.ok {f : Str} : ∀ {fs : List (Str × D)} {d : D}, FlR f fs d → fs.lookup f = some d
  | _, _, .hit => by rw [List.lookup_cons]; simp
  | _, _, .miss h r => by rw [List.lookup_cons, h]; exact r.ok
/-- a field stored -/
inductive PuR (f : Str) (d : D) : List (Str × D) → List (Str × D) → Prop
  | nil : PuR f d [] [(f, d)]
  | hit {e r} : PuR f d ((f, e) :: r) ((f, d) :: r)
  | miss {g e r s} : (g == f) = false → PuR f d r s → PuR f d ((g, e) :: r) ((g, e) :: s)
theorem PuR.ok {f : Str} {d : D} : ∀ {fs gs : List (Str × D)}, PuR f d fs gs → putD f d fs = gs
  | _, _, .nil => rfl
  | _, _, .hit => by unfold putD; rw [if_pos rfl]
  | _, _, .miss h r => by unfold putD; rw [if_neg (by simpa using h), r.ok]
theorem o_fld {cs : List Str} {n : Nat} {c f : Str} {fs : List (Str × D)} {d : D} {S : Sto} (h : S[n]? = some (.ins c fs)) (h1 : memS c cs = true) (h2 : FlR f fs d) : fldD cs (.ref n) f S = .ok d S := by
  unfold fldD
  simp only [h, h1, h2.ok]
theorem o_fst {cs : List Str} {n : Nat} {c f : Str} {fs gs : List (Str × D)} {d : D} {S : Sto} {q : Sto → Prop} (h : S[n]? = some (.ins c fs)) (h1 : memS c cs = true) (h2 : fs.length < 900) (h3 : PuR f d fs gs) (hq : q (S.set n (.ins c gs))) : wOpt (setF cs (.ref n) f d S) q := by
  refine w_some ?_ hq
  unfold setF
  simp only [h]
  rw [if_pos ⟨h1, h2⟩, h3.ok]
theorem o_mth {cs : List (Str × Str)} {m c k : Str} {n : Nat} {fs : List (Str × D)} {S : Sto} {P : Str → Prop} (h : S[n]? = some (.ins c fs)) (h1 : fs.lookup m = none) (h2 : mkOf c cs = some k) (q : P k) : ∃ k', mthK cs m (.ref n) S = some k' ∧ P k' := by
  refine ⟨k, ?_, q⟩
  unfold mthK
  simp only [h, h1, h2]
theorem o_zip3 (S : Sto) (x y z : List D) : zip3D (.tup x) (.tup y) (.tup z) S = .ok ([], ((x.zip y).zip z).map fun p => .tup [p.1.1, p.1.2, p.2]) S := rfl
theorem o_revL {n : Nat} {mu : Bool} {ds : List D} {S : Sto} (h : S[n]? = some (.lst mu ds)) : binD .rev (.ref n) .non S = .ok (.ref S.length) (S ++ [.lst true ds.reverse]) := by
  unfold binD
  simp only [h]
theorem o_lrg1 {j : Int} (S : Sto) (h : -1000000 < j ∧ j < 1000000) : lrgD false [.int j] S = .ok (.ref S.length) (S ++ [.lst true ((List.range j.toNat).map fun i => .int (Int.ofNat i))]) := by
  show (if -big < j ∧ j < big then lrgM false _ S else .no) = _
  rw [if_pos (show -big < j ∧ j < big from h)]
  rfl
theorem o_trg1 {j : Int} (S : Sto) (h : -1000000 < j ∧ j < 1000000) : lrgD true [.int j] S = .ok (.tup ((List.range j.toNat).map fun i => .int (Int.ofNat i))) S := by
  show (if -big < j ∧ j < big then lrgM true _ S else .no) = _
  rw [if_pos (show -big < j ∧ j < big from h)]
  rfl
theorem o_trg2 {i j : Int} (S : Sto) (h : (-1000000 < i ∧ i < 1000000) ∧ -1000000 < j ∧ j < 1000000) : lrgD true [.int i, .int j] S = .ok (.tup ((List.range (j - i).toNat).map fun k => .int (i + Int.ofNat k))) S := by
  show (if (-big < i ∧ i < big) ∧ -big < j ∧ j < big then lrgM true _ S else .no) = _
  rw [if_pos (show (-big < i ∧ i < big) ∧ -big < j ∧ j < big from h)]
  rfl
end Kq
set_option Elab.async false
set_option linter.all false
set_option maxRecDepth 100000
set_option maxHeartbeats 4000000
set_option autoImplicit false
namespace Kl
open PySem PySem.Spec PyProof.Rows L2 Kq
/-! ### is_integer -/
def N_is_integer : List Str := ["value"]
def code_is_integer : Cms := .cons (.ret (.ands (.isi (.loc 0) "int") (.nt (.isi (.loc 0) "bool")))) (.nil)
theorem comp_is_integer : comp ⟨N_is_integer, defScope (top 4), fun _ => true, true, false, al⟩ (defBody (top 4)) = some code_is_integer := by kernel_rfl
theorem sc_is_integer : scopeB N_is_integer ["value"] (defScope (top 4)) = true := by decide +kernel
/-! ### power_of_two -/
def N_power_of_two : List Str := ["exponent"]
def code_power_of_two : Cms := .cons (.ret (.bin .shl (.con (.int 1)) (.loc 0))) (.nil)
theorem comp_power_of_two : comp ⟨N_power_of_two, defScope (top 11), fun _ => true, true, false, al⟩ (defBody (top 11)) = some code_power_of_two := by kernel_rfl
theorem sc_power_of_two : scopeB N_power_of_two ["exponent"] (defScope (top 11)) = true := by decide +kernel
/-! ### fits -/
def N_fits : List Str := ["width", "value", "half"]
def code_fits : Cms := .cons (.asg (.nm 2) (.call "power_of_two" (.cons (.bin .sub (.loc 0) (.con (.int 1))) (.nil)))) (.cons (.ret (.chn .le .lt (.neg (.loc 2)) (.loc 1) (.loc 2))) (.nil))
theorem comp_fits : comp ⟨N_fits, defScope (top 12), fun _ => true, true, false, al⟩ (defBody (top 12)) = some code_fits := by kernel_rfl
theorem sc_fits : scopeB N_fits ["width", "value"] (defScope (top 12)) = true := by decide +kernel
/-! ### is_index -/
def N_is_index : List Str := ["value", "count"]
def code_is_index : Cms := .cons (.ret (.ands (.call "is_integer" (.cons (.loc 0) (.nil))) (.chn .le .lt (.con (.int 0)) (.loc 0) (.loc 1)))) (.nil)
theorem comp_is_index : comp ⟨N_is_index, defScope (top 13), fun _ => true, true, false, al⟩ (defBody (top 13)) = some code_is_index := by kernel_rfl
theorem sc_is_index : scopeB N_is_index ["value", "count"] (defScope (top 13)) = true := by decide +kernel
/-! ### is_instruction -/
def N_is_instruction : List Str := ["code", "row"]
def code_is_instruction : Cms := .cons (.ite (.ors (.nt (.isi (.loc 1) "tuple")) (.ors (.cmp .lt (.bi .len (.cons (.loc 1) (.nil))) (.con (.int 2))) (.ors (.nt (.isi (.idx (.loc 1) (.con (.int 0))) "str")) (.cmp .ne (.dgt [("load", .int 3), ("set", .int 3), ("times", .int 4), ("add", .int 3), ("bend", .int 2), ("give", .int 2)] (.idx (.loc 1) (.con (.int 0)))) (.bi .len (.cons (.loc 1) (.nil))))))) (.cons (.ret (.con (.bl false))) (.nil)) (.nil)) (.cons (.ite (.nt (.call "is_index" (.cons (.idx (.loc 1) (.con (.int 1))) (.cons (.fld ["Code"] (.loc 0) "registers") (.nil))))) (.cons (.ret (.con (.bl false))) (.nil)) (.nil)) (.cons (.ite (.cmp .eq (.idx (.loc 1) (.con (.int 0))) (.con (.str "load"))) (.cons (.ret (.call "is_index" (.cons (.idx (.loc 1) (.con (.int 2))) (.cons (.fld ["Code"] (.loc 0) "inputs") (.nil))))) (.nil)) (.nil)) (.cons (.ite (.cmp .eq (.idx (.loc 1) (.con (.int 0))) (.con (.str "set"))) (.cons (.ret (.ands (.call "is_integer" (.cons (.idx (.loc 1) (.con (.int 2))) (.nil))) (.call "fits" (.cons (.fld ["Code"] (.loc 0) "width") (.cons (.idx (.loc 1) (.con (.int 2))) (.nil)))))) (.nil)) (.nil)) (.cons (.ite (.cmp .eq (.idx (.loc 1) (.con (.int 0))) (.con (.str "times"))) (.cons (.ret (.ands (.call "is_index" (.cons (.idx (.loc 1) (.con (.int 2))) (.cons (.fld ["Code"] (.loc 0) "registers") (.nil)))) (.ands (.call "is_integer" (.cons (.idx (.loc 1) (.con (.int 3))) (.nil))) (.call "fits" (.cons (.fld ["Code"] (.loc 0) "width") (.cons (.idx (.loc 1) (.con (.int 3))) (.nil))))))) (.nil)) (.nil)) (.cons (.ite (.cmp .eq (.idx (.loc 1) (.con (.int 0))) (.con (.str "add"))) (.cons (.ret (.call "is_index" (.cons (.idx (.loc 1) (.con (.int 2))) (.cons (.fld ["Code"] (.loc 0) "registers") (.nil))))) (.nil)) (.nil)) (.cons (.ret (.con (.bl true))) (.nil)))))))
theorem comp_is_instruction : comp ⟨N_is_instruction, defScope (top 14), fun _ => true, true, false, al⟩ (defBody (top 14)) = some code_is_instruction := by kernel_rfl
theorem sc_is_instruction : scopeB N_is_instruction ["code", "row"] (defScope (top 14)) = true := by decide +kernel
/-! ### check_code -/
def N_check_code : List Str := ["code", "value", "place", "row"]
def code_check_code : Cms := .cons (.ite (.ors (.nt (.call "is_integer" (.cons (.fld ["Code"] (.loc 0) "width") (.nil)))) (.ors (.cmp .lt (.fld ["Code"] (.loc 0) "width") (.con (.int 2))) (.cmp .gt (.fld ["Code"] (.loc 0) "width") (.con (.int 200))))) (.cons (.rse "BadCode" (.cons (.neg (.con (.int 1))) (.nil))) (.nil)) (.nil)) (.cons (.for_ (.nm 1) (.ex (.tup (.cons (.fld ["Code"] (.loc 0) "inputs") (.cons (.fld ["Code"] (.loc 0) "registers") (.nil))))) (.cons (.ite (.ors (.nt (.call "is_integer" (.cons (.loc 1) (.nil)))) (.ors (.cmp .lt (.loc 1) (.con (.int 1))) (.cmp .gt (.loc 1) (.con (.int 10000))))) (.cons (.rse "BadCode" (.cons (.neg (.con (.int 1))) (.nil))) (.nil)) (.nil)) (.nil))) (.cons (.ite (.nt (.isi (.fld ["Code"] (.loc 0) "instructions") "tuple")) (.cons (.rse "BadCode" (.cons (.neg (.con (.int 1))) (.nil))) (.nil)) (.nil)) (.cons (.for_ (.tp (.cons (.nm 2) (.cons (.nm 3) (.nil)))) (.enm (.fld ["Code"] (.loc 0) "instructions")) (.cons (.ite (.nt (.call "is_instruction" (.cons (.loc 0) (.cons (.loc 3) (.nil))))) (.cons (.rse "BadCode" (.cons (.loc 2) (.nil))) (.nil)) (.nil)) (.nil))) (.nil))))
theorem comp_check_code : comp ⟨N_check_code, defScope (top 15), fun _ => true, true, false, al⟩ (defBody (top 15)) = some code_check_code := by kernel_rfl
theorem sc_check_code : scopeB N_check_code ["code"] (defScope (top 15)) = true := by decide +kernel
/-! ### _law_cell -/
def N__law_cell : List Str := ["_law_script", "_law_k"]
def code__law_cell : Cms := .cons (.ite (.cmp .lt (.loc 1) (.bi .len (.cons (.loc 0) (.nil)))) (.cons (.ret (.idx (.loc 0) (.loc 1))) (.nil)) (.nil)) (.cons (.ret (.con (.int 0))) (.nil))
theorem comp__law_cell : comp ⟨N__law_cell, defScope (top 17), fun _ => true, true, false, al⟩ (defBody (top 17)) = some code__law_cell := by kernel_rfl
theorem sc__law_cell : scopeB N__law_cell ["_law_script", "_law_k"] (defScope (top 17)) = true := by decide +kernel
/-! ### _law_stream -/
def N__law_stream : List Str := ["_law_cell_here"]
def code__law_stream : Cms := .cons (.ite (.cmp .ge (.loc 0) (.bin .pow (.con (.int 10)) (.con (.int 18)))) (.cons (.ret (.lst (.cons (.loc 0) (.cons (.con (.int 1)) (.nil))))) (.nil)) (.nil)) (.cons (.ret (.lst (.cons (.con (.int 0)) (.cons (.loc 0) (.nil))))) (.nil))
theorem comp__law_stream : comp ⟨N__law_stream, defScope (top 18), fun _ => true, true, false, al⟩ (defBody (top 18)) = some code__law_stream := by kernel_rfl
theorem sc__law_stream : scopeB N__law_stream ["_law_cell_here"] (defScope (top 18)) = true := by decide +kernel
/-! ### _law_take -/
def N__law_take : List Str := ["_law_stream_here", "_law_many", "_law_worth"]
def code__law_take : Cms := .cons (.ite (.cmp .gt (.idx (.loc 0) (.con (.int 0))) (.con (.int 0))) (.cons (.asg (.nm 2) (.bin .mod (.bi .int (.cons (.idx (.loc 0) (.con (.int 0))) (.nil))) (.loc 1))) (.cons (.sub (.loc 0) (.con (.int 0)) (.bin .fdiv (.idx (.loc 0) (.con (.int 0))) (.loc 1))) (.cons (.ret (.loc 2)) (.nil)))) (.nil)) (.cons (.sub (.loc 0) (.con (.int 1)) (.bin .mod (.bi .int (.cons (.bin .add (.bin .mul (.idx (.loc 0) (.con (.int 1))) (.con (.int 48271))) (.con (.int 69621))) (.nil))) (.con (.int 2147483647)))) (.cons (.ret (.bin .mod (.bi .int (.cons (.bin .add (.bin .fdiv (.bin .mul (.idx (.loc 0) (.con (.int 1))) (.idx (.loc 0) (.con (.int 1)))) (.con (.int 1009))) (.bin .fdiv (.idx (.loc 0) (.con (.int 1))) (.con (.int 7)))) (.nil))) (.loc 1))) (.nil)))
theorem comp__law_take : comp ⟨N__law_take, defScope (top 19), fun _ => true, true, false, al⟩ (defBody (top 19)) = some code__law_take := by kernel_rfl
theorem sc__law_take : scopeB N__law_take ["_law_stream_here", "_law_many"] (defScope (top 19)) = true := by decide +kernel
/-! ### _law_width -/
def N__law_width : List Str := ["_law_stream_here"]
def code__law_width : Cms := .cons (.ret (.idx (.lst (.cons (.bin .add (.con (.int 2)) (.call "_law_take" (.cons (.loc 0) (.cons (.con (.int 7)) (.nil))))) (.cons (.bin .add (.con (.int 2)) (.call "_law_take" (.cons (.loc 0) (.cons (.con (.int 30)) (.nil))))) (.cons (.bin .add (.con (.int 2)) (.call "_law_take" (.cons (.loc 0) (.cons (.con (.int 199)) (.nil))))) (.cons (.con (.int 200)) (.nil)))))) (.call "_law_take" (.cons (.loc 0) (.cons (.con (.int 4)) (.nil)))))) (.nil)
theorem comp__law_width : comp ⟨N__law_width, defScope (top 20), fun _ => true, true, false, al⟩ (defBody (top 20)) = some code__law_width := by kernel_rfl
theorem sc__law_width : scopeB N__law_width ["_law_stream_here"] (defScope (top 20)) = true := by decide +kernel
/-! ### _law_integer -/
def N__law_integer : List Str := ["_law_stream_here", "_law_width_here", "_law_half", "_law_near", "_law_menu"]
def code__law_integer : Cms := .cons (.asg (.nm 2) (.bin .shl (.con (.int 1)) (.bin .sub (.loc 1) (.con (.int 1))))) (.cons (.asg (.nm 3) (.call "_law_take" (.cons (.loc 0) (.cons (.con (.int 3)) (.nil))))) (.cons (.asg (.nm 4) (.lst (.cons (.loc 3) (.cons (.neg (.loc 3)) (.cons (.bin .sub (.bin .sub (.loc 2) (.con (.int 1))) (.loc 3)) (.cons (.bin .sub (.loc 3) (.loc 2)) (.cons (.bin .sub (.call "_law_take" (.cons (.loc 0) (.cons (.bin .mul (.con (.int 2)) (.loc 2)) (.nil)))) (.loc 2)) (.cons (.bin .sub (.call "_law_take" (.cons (.loc 0) (.cons (.con (.int 9)) (.nil)))) (.con (.int 4))) (.nil))))))))) (.cons (.ret (.bi .max (.cons (.neg (.loc 2)) (.cons (.bi .min (.cons (.bin .sub (.loc 2) (.con (.int 1))) (.cons (.idx (.loc 4) (.call "_law_take" (.cons (.loc 0) (.cons (.con (.int 6)) (.nil))))) (.nil)))) (.nil))))) (.nil))))
theorem comp__law_integer : comp ⟨N__law_integer, defScope (top 21), fun _ => true, true, false, al⟩ (defBody (top 21)) = some code__law_integer := by kernel_rfl
theorem sc__law_integer : scopeB N__law_integer ["_law_stream_here", "_law_width_here"] (defScope (top 21)) = true := by decide +kernel
/-! ### _law_row -/
def N__law_row : List Str := ["_law_stream_here", "_law_width_here", "_law_inputs", "_law_registers", "_law_kind", "_law_one", "_law_two"]
def code__law_row : Cms := .cons (.asg (.nm 4) (.call "_law_take" (.cons (.loc 0) (.cons (.con (.int 7)) (.nil))))) (.cons (.asg (.nm 5) (.call "_law_take" (.cons (.loc 0) (.cons (.loc 3) (.nil))))) (.cons (.asg (.nm 6) (.call "_law_take" (.cons (.loc 0) (.cons (.loc 3) (.nil))))) (.cons (.ite (.cmp .eq (.loc 4) (.con (.int 0))) (.cons (.ret (.tup (.cons (.con (.str "load")) (.cons (.loc 5) (.cons (.call "_law_take" (.cons (.loc 0) (.cons (.loc 2) (.nil)))) (.nil)))))) (.nil)) (.nil)) (.cons (.ite (.cmp .eq (.loc 4) (.con (.int 1))) (.cons (.ret (.tup (.cons (.con (.str "set")) (.cons (.loc 5) (.cons (.call "_law_integer" (.cons (.loc 0) (.cons (.loc 1) (.nil)))) (.nil)))))) (.nil)) (.nil)) (.cons (.ite (.cmp .eq (.loc 4) (.con (.int 2))) (.cons (.ret (.tup (.cons (.con (.str "times")) (.cons (.loc 5) (.cons (.loc 6) (.cons (.call "_law_integer" (.cons (.loc 0) (.cons (.loc 1) (.nil)))) (.nil))))))) (.nil)) (.nil)) (.cons (.ite (.cmp .lt (.loc 4) (.con (.int 5))) (.cons (.ret (.tup (.cons (.con (.str "add")) (.cons (.loc 5) (.cons (.loc 6) (.nil)))))) (.nil)) (.nil)) (.cons (.ret (.idx (.lst (.cons (.tup (.cons (.con (.str "bend")) (.cons (.loc 5) (.nil)))) (.cons (.tup (.cons (.con (.str "give")) (.cons (.loc 5) (.nil)))) (.nil)))) (.bin .sub (.loc 4) (.con (.int 5))))) (.nil))))))))
theorem comp__law_row : comp ⟨N__law_row, defScope (top 22), fun _ => true, true, false, al⟩ (defBody (top 22)) = some code__law_row := by kernel_rfl
theorem sc__law_row : scopeB N__law_row ["_law_stream_here", "_law_width_here", "_law_inputs", "_law_registers"] (defScope (top 22)) = true := by decide +kernel
/-! ### _law_index -/
def N__law_index : List Str := ["_law_value", "_law_count"]
def code__law_index : Cms := .cons (.ret (.ands (.isi (.loc 0) "int") (.ands (.nt (.isi (.loc 0) "bool")) (.ands (.cmp .le (.con (.int 0)) (.loc 0)) (.cmp .lt (.loc 0) (.loc 1)))))) (.nil)
theorem comp__law_index : comp ⟨N__law_index, defScope (top 23), fun _ => true, true, false, al⟩ (defBody (top 23)) = some code__law_index := by kernel_rfl
theorem sc__law_index : scopeB N__law_index ["_law_value", "_law_count"] (defScope (top 23)) = true := by decide +kernel
/-! ### _law_fits -/
def N__law_fits : List Str := ["_law_value", "_law_width_here", "_law_half"]
def code__law_fits : Cms := .cons (.asg (.nm 2) (.bin .shl (.con (.int 1)) (.bin .sub (.loc 1) (.con (.int 1))))) (.cons (.ret (.ands (.isi (.loc 0) "int") (.ands (.nt (.isi (.loc 0) "bool")) (.ands (.cmp .le (.neg (.loc 2)) (.loc 0)) (.cmp .lt (.loc 0) (.loc 2)))))) (.nil))
theorem comp__law_fits : comp ⟨N__law_fits, defScope (top 24), fun _ => true, true, false, al⟩ (defBody (top 24)) = some code__law_fits := by kernel_rfl
theorem sc__law_fits : scopeB N__law_fits ["_law_value", "_law_width_here"] (defScope (top 24)) = true := by decide +kernel
/-! ### _law_good -/
def N__law_good : List Str := ["_law_row_here", "_law_width_here", "_law_inputs", "_law_registers"]
def code__law_good : Cms := .cons (.ite (.ors (.nt (.isi (.loc 0) "tuple")) (.ors (.cmp .lt (.bi .len (.cons (.loc 0) (.nil))) (.con (.int 2))) (.nt (.call "_law_index" (.cons (.idx (.loc 0) (.con (.int 1))) (.cons (.loc 3) (.nil))))))) (.cons (.ret (.con (.bl false))) (.nil)) (.nil)) (.cons (.ite (.ands (.cmp .eq (.idx (.loc 0) (.con (.int 0))) (.con (.str "load"))) (.cmp .eq (.bi .len (.cons (.loc 0) (.nil))) (.con (.int 3)))) (.cons (.ret (.call "_law_index" (.cons (.idx (.loc 0) (.con (.int 2))) (.cons (.loc 2) (.nil))))) (.nil)) (.nil)) (.cons (.ite (.ands (.cmp .eq (.idx (.loc 0) (.con (.int 0))) (.con (.str "set"))) (.cmp .eq (.bi .len (.cons (.loc 0) (.nil))) (.con (.int 3)))) (.cons (.ret (.call "_law_fits" (.cons (.idx (.loc 0) (.con (.int 2))) (.cons (.loc 1) (.nil))))) (.nil)) (.nil)) (.cons (.ite (.ands (.cmp .eq (.idx (.loc 0) (.con (.int 0))) (.con (.str "times"))) (.cmp .eq (.bi .len (.cons (.loc 0) (.nil))) (.con (.int 4)))) (.cons (.ret (.ands (.call "_law_index" (.cons (.idx (.loc 0) (.con (.int 2))) (.cons (.loc 3) (.nil)))) (.call "_law_fits" (.cons (.idx (.loc 0) (.con (.int 3))) (.cons (.loc 1) (.nil)))))) (.nil)) (.nil)) (.cons (.ite (.ands (.cmp .eq (.idx (.loc 0) (.con (.int 0))) (.con (.str "add"))) (.cmp .eq (.bi .len (.cons (.loc 0) (.nil))) (.con (.int 3)))) (.cons (.ret (.call "_law_index" (.cons (.idx (.loc 0) (.con (.int 2))) (.cons (.loc 3) (.nil))))) (.nil)) (.nil)) (.cons (.ret (.ands (.ors (.cmp .eq (.idx (.loc 0) (.con (.int 0))) (.con (.str "bend"))) (.cmp .eq (.idx (.loc 0) (.con (.int 0))) (.con (.str "give")))) (.cmp .eq (.bi .len (.cons (.loc 0) (.nil))) (.con (.int 2))))) (.nil))))))
theorem comp__law_good : comp ⟨N__law_good, defScope (top 25), fun _ => true, true, false, al⟩ (defBody (top 25)) = some code__law_good := by kernel_rfl
theorem sc__law_good : scopeB N__law_good ["_law_row_here", "_law_width_here", "_law_inputs", "_law_registers"] (defScope (top 25)) = true := by decide +kernel
/-! ### _law_spoilt -/
def N__law_spoilt : List Str := ["_law_stream_here", "_law_row_here", "_law_width_here", "_law_inputs", "_law_registers", "_law_half", "_law_place_here", "_law_odd", "_law_part", "_law_mode"]
def code__law_spoilt : Cms := .cons (.asg (.nm 5) (.bin .shl (.con (.int 1)) (.bin .sub (.loc 2) (.con (.int 1))))) (.cons (.asg (.nm 6) (.call "_law_take" (.cons (.loc 0) (.cons (.bi .len (.cons (.loc 1) (.nil))) (.nil))))) (.cons (.asg (.nm 7) (.lst (.cons (.con (.non)) (.cons (.con (.bl true)) (.cons (.neg (.con (.int 1))) (.cons (.loc 3) (.cons (.loc 4) (.cons (.loc 5) (.cons (.bin .sub (.neg (.loc 5)) (.con (.int 1))) (.cons (.bin .sub (.loc 5) (.con (.int 1))) (.cons (.con (.str "add")) (.cons (.con (.str "jump")) (.cons (.tup (.cons (.con (.int 0)) (.nil))) (.cons (.con (.int 0)) (.cons (.con (.int 1)) (.cons (.con (.bl false)) (.cons (.con (.str "set")) (.nil)))))))))))))))))) (.cons (.asg (.nm 8) (.idx (.loc 7) (.call "_law_take" (.cons (.loc 0) (.cons (.con (.int 15)) (.nil)))))) (.cons (.asg (.nm 9) (.call "_law_take" (.cons (.loc 0) (.cons (.con (.int 8)) (.nil))))) (.cons (.ite (.cmp .eq (.loc 9) (.con (.int 0))) (.cons (.ret (.bin .add (.sl (.loc 1) (.nil) (.cons (.loc 6) .nil)) (.sl (.loc 1) (.cons (.bin .add (.loc 6) (.con (.int 1))) .nil) (.nil)))) (.nil)) (.nil)) (.cons (.ite (.cmp .eq (.loc 9) (.con (.int 1))) (.cons (.ret (.bin .add (.loc 1) (.tup (.cons (.loc 8) (.nil))))) (.nil)) (.nil)) (.cons (.ite (.cmp .eq (.loc 9) (.con (.int 2))) (.cons (.ret (.idx (.lst (.cons (.bl .lst (.loc 1)) (.cons (.con (.non)) (.cons (.tup (.nil)) (.cons (.idx (.loc 1) (.con (.int 0))) (.cons (.tup (.cons (.loc 1) (.nil))) (.cons (.tup (.cons (.con (.str "times")) (.cons (.con (.int 0)) (.cons (.con (.int 0)) (.nil))))) (.nil)))))))) (.call "_law_take" (.cons (.loc 0) (.cons (.con (.int 6)) (.nil)))))) (.nil)) (.nil)) (.cons (.ret (.bin .add (.bin .add (.sl (.loc 1) (.nil) (.cons (.loc 6) .nil)) (.tup (.cons (.loc 8) (.nil)))) (.sl (.loc 1) (.cons (.bin .add (.loc 6) (.con (.int 1))) .nil) (.nil)))) (.nil)))))))))
theorem comp__law_spoilt : comp ⟨N__law_spoilt, defScope (top 26), fun _ => true, true, false, al⟩ (defBody (top 26)) = some code__law_spoilt := by kernel_rfl
theorem sc__law_spoilt : scopeB N__law_spoilt ["_law_stream_here", "_law_row_here", "_law_width_here", "_law_inputs", "_law_registers"] (defScope (top 26)) = true := by decide +kernel
/-! ### _law_place -/
def N__law_place : List Str := ["_law_code", "_law_told", "e"]
def code__law_place : Cms := .cons (.try_ (.cons (.asg (.nm 1) (.call "check_code" (.cons (.loc 0) (.nil)))) (.nil)) (.cons "BadCode" (some 2) (.cons (.ite (.ands (.eis 2 "KinkError") (.ands (.isi (.efl 2 "place") "int") (.nt (.isi (.efl 2 "place") "bool")))) (.cons (.ret (.efl 2 "place")) (.nil)) (.nil)) (.cons (.ret (.neg (.con (.int 3)))) (.nil))) .nil)) (.cons (.ite (.cmp .is (.loc 1) (.con (.non))) (.cons (.ret (.neg (.con (.int 2)))) (.nil)) (.nil)) (.cons (.ret (.neg (.con (.int 3)))) (.nil)))
theorem comp__law_place : comp ⟨N__law_place, defScope (top 27), fun _ => true, true, false, al⟩ (defBody (top 27)) = some code__law_place := by kernel_rfl
theorem sc__law_place : scopeB N__law_place ["_law_code"] (defScope (top 27)) = true := by decide +kernel
/-! ### Code.__init__ -/
def N_Code___init__ : List Str := ["self", "width", "inputs", "registers", "instructions"]
def code_Code___init__ : Cms := .cons (.fst ["Code"] (.loc 0) "width" (.loc 1)) (.cons (.fst ["Code"] (.loc 0) "inputs" (.loc 2)) (.cons (.fst ["Code"] (.loc 0) "registers" (.loc 3)) (.cons (.fst ["Code"] (.loc 0) "instructions" (.loc 4)) (.nil))))
theorem comp_Code___init__ : comp ⟨N_Code___init__, defScope (mst 10 0), fun _ => true, true, false, al⟩ (defBody (mst 10 0)) = some code_Code___init__ := by kernel_rfl
theorem sc_Code___init__ : scopeB N_Code___init__ ["self", "width", "inputs", "registers", "instructions"] (defScope (mst 10 0)) = true := by decide +kernel
/-! ### law -/
def N_law : List Str := ["_law_script", "_law_stream_here", "_law_width_here", "_law_inputs", "_law_registers", "_law_rows", "_law_cell_here", "_law_k", "_law_place_here", "_law_row_here", "_law_due", "_law_bad", "_law_wide", "_law_code"]
def code_law : Cms := .cons (.asg (.nm 1) (.call "_law_stream" (.cons (.call "_law_cell" (.cons (.loc 0) (.cons (.con (.int 0)) (.nil)))) (.nil)))) (.cons (.asg (.nm 2) (.call "_law_width" (.cons (.loc 1) (.nil)))) (.cons (.asg (.nm 3) (.bin .add (.con (.int 1)) (.call "_law_take" (.cons (.loc 1) (.cons (.con (.int 4)) (.nil)))))) (.cons (.asg (.nm 4) (.bin .add (.con (.int 1)) (.call "_law_take" (.cons (.loc 1) (.cons (.con (.int 6)) (.nil)))))) (.cons (.asg (.nm 5) (.lst (.nil))) (.cons (.for_ (.nm 6) (.ex (.sl (.loc 0) (.cons (.con (.int 1)) .nil) (.cons (.con (.int 31)) .nil))) (.cons (.ex (.bm .append (.loc 5) (.cons (.call "_law_row" (.cons (.call "_law_stream" (.cons (.loc 6) (.nil))) (.cons (.loc 2) (.cons (.loc 3) (.cons (.loc 4) (.nil)))))) (.nil)))) (.nil))) (.cons (.for_ (.nm 7) (.rng (.cons (.call "_law_take" (.cons (.loc 1) (.cons (.con (.int 3)) (.nil)))) (.nil))) (.cons (.ite (.cmp .ne (.loc 5) (.lst (.nil))) (.cons (.asg (.nm 8) (.call "_law_take" (.cons (.loc 1) (.cons (.bi .len (.cons (.loc 5) (.nil))) (.nil))))) (.cons (.asg (.nm 9) (.idx (.loc 5) (.loc 8))) (.cons (.ite (.ands (.isi (.loc 9) "tuple") (.cmp .gt (.bi .len (.cons (.loc 9) (.nil))) (.con (.int 0)))) (.cons (.sub (.loc 5) (.loc 8) (.call "_law_spoilt" (.cons (.loc 1) (.cons (.loc 9) (.cons (.loc 2) (.cons (.loc 3) (.cons (.loc 4) (.nil)))))))) (.nil)) (.nil)) (.nil)))) (.nil)) (.nil))) (.cons (.asg (.nm 10) (.neg (.con (.int 2)))) (.cons (.for_ (.nm 7) (.rng (.cons (.bi .len (.cons (.loc 5) (.nil))) (.nil))) (.cons (.ite (.ands (.cmp .eq (.loc 10) (.neg (.con (.int 2)))) (.nt (.call "_law_good" (.cons (.idx (.loc 5) (.loc 7)) (.cons (.loc 2) (.cons (.loc 3) (.cons (.loc 4) (.nil)))))))) (.cons (.asg (.nm 10) (.loc 7)) (.nil)) (.nil)) (.nil))) (.cons (.ite (.cmp .ne (.call "_law_place" (.cons (.mk "Code" "Code.__init__" (.cons (.loc 2) (.cons (.loc 3) (.cons (.loc 4) (.cons (.bl .tup (.loc 5)) (.nil)))))) (.nil))) (.loc 10)) (.cons (.ret (.con (.bl false))) (.nil)) (.nil)) (.cons (.asg (.nm 11) (.idx (.lst (.cons (.con (.int 0)) (.cons (.neg (.con (.int 1))) (.cons (.con (.int 10001)) (.cons (.con (.non)) (.cons (.con (.bl true)) (.cons (.con (.str "2")) (.cons (.tup (.cons (.con (.int 2)) (.nil))) (.nil))))))))) (.call "_law_take" (.cons (.loc 1) (.cons (.con (.int 7)) (.nil)))))) (.cons (.asg (.nm 12) (.idx (.lst (.cons (.con (.int 1)) (.cons (.con (.int 0)) (.cons (.con (.int 201)) (.cons (.neg (.con (.int 2))) (.cons (.con (.non)) (.cons (.con (.bl true)) (.cons (.con (.str "8")) (.cons (.tup (.cons (.con (.int 8)) (.nil))) (.nil)))))))))) (.call "_law_take" (.cons (.loc 1) (.cons (.con (.int 8)) (.nil)))))) (.cons (.for_ (.nm 13) (.tmp (.lst (.cons (.mk "Code" "Code.__init__" (.cons (.loc 12) (.cons (.loc 3) (.cons (.loc 4) (.cons (.bl .tup (.loc 5)) (.nil)))))) (.cons (.mk "Code" "Code.__init__" (.cons (.loc 2) (.cons (.loc 11) (.cons (.loc 4) (.cons (.bl .tup (.loc 5)) (.nil)))))) (.nil))))) (.cons (.ite (.cmp .ne (.call "_law_place" (.cons (.loc 13) (.nil))) (.neg (.con (.int 1)))) (.cons (.ret (.con (.bl false))) (.nil)) (.nil)) (.nil))) (.cons (.ite (.cmp .ne (.call "_law_place" (.cons (.mk "Code" "Code.__init__" (.cons (.loc 2) (.cons (.loc 3) (.cons (.loc 11) (.cons (.bl .tup (.loc 5)) (.nil)))))) (.nil))) (.neg (.con (.int 1)))) (.cons (.ret (.con (.bl false))) (.nil)) (.nil)) (.cons (.ite (.ors (.cmp .ne (.call "_law_place" (.cons (.mk "Code" "Code.__init__" (.cons (.loc 2) (.cons (.loc 3) (.cons (.loc 4) (.cons (.bl .lst (.loc 5)) (.nil)))))) (.nil))) (.neg (.con (.int 1)))) (.cmp .ne (.call "_law_place" (.cons (.mk "Code" "Code.__init__" (.cons (.loc 2) (.cons (.con (.int 1)) (.cons (.con (.int 1)) (.cons (.con (.non)) (.nil)))))) (.nil))) (.neg (.con (.int 1))))) (.cons (.ret (.con (.bl false))) (.nil)) (.nil)) (.cons (.ret (.cmp .eq (.call "_law_place" (.cons (.mk "Code" "Code.__init__" (.cons (.con (.int 200)) (.cons (.con (.int 10000)) (.cons (.con (.int 10000)) (.cons (.tup (.cons (.tup (.cons (.con (.str "load")) (.cons (.con (.int 9999)) (.cons (.con (.int 9999)) (.nil))))) (.nil))) (.nil)))))) (.nil))) (.neg (.con (.int 2))))) (.nil))))))))))))))))
theorem comp_law : comp ⟨N_law, defScope (top 28), fun _ => true, true, false, al⟩ (defBody (top 28)) = some code_law := by kernel_rfl
theorem sc_law : scopeB N_law ["_law_script"] (defScope (top 28)) = true := by decide +kernel
def tabT (x : Str) : Option (Nat × Cms) := if sEq x "is_integer" = true then some (1, code_is_integer) else if sEq x "power_of_two" = true then some (1, code_power_of_two) else if sEq x "fits" = true then some (3, code_fits) else if sEq x "is_index" = true then some (2, code_is_index) else if sEq x "is_instruction" = true then some (2, code_is_instruction) else if sEq x "check_code" = true then some (4, code_check_code) else if sEq x "_law_cell" = true then some (2, code__law_cell) else if sEq x "_law_stream" = true then some (1, code__law_stream) else if sEq x "_law_take" = true then some (3, code__law_take) else if sEq x "_law_width" = true then some (1, code__law_width) else if sEq x "_law_integer" = true then some (5, code__law_integer) else if sEq x "_law_row" = true then some (7, code__law_row) else if sEq x "_law_index" = true then some (2, code__law_index) else if sEq x "_law_fits" = true then some (3, code__law_fits) else if sEq x "_law_good" = true then some (4, code__law_good) else if sEq x "_law_spoilt" = true then some (10, code__law_spoilt) else if sEq x "_law_place" = true then some (3, code__law_place) else if sEq x "Code.__init__" = true then some (5, code_Code___init__) else if sEq x "law" = true then some (14, code_law) else none
def T : Tb := ⟨tabT, kinX xds, fnsX xds⟩
theorem tab_is_integer : T.tab "is_integer" = some (1, code_is_integer) := by kernel_rfl
theorem tab_power_of_two : T.tab "power_of_two" = some (1, code_power_of_two) := by kernel_rfl
theorem tab_fits : T.tab "fits" = some (3, code_fits) := by kernel_rfl
theorem tab_is_index : T.tab "is_index" = some (2, code_is_index) := by kernel_rfl
theorem tab_is_instruction : T.tab "is_instruction" = some (2, code_is_instruction) := by kernel_rfl
theorem tab_check_code : T.tab "check_code" = some (4, code_check_code) := by kernel_rfl
theorem tab__law_cell : T.tab "_law_cell" = some (2, code__law_cell) := by kernel_rfl
theorem tab__law_stream : T.tab "_law_stream" = some (1, code__law_stream) := by kernel_rfl
theorem tab__law_take : T.tab "_law_take" = some (3, code__law_take) := by kernel_rfl
theorem tab__law_width : T.tab "_law_width" = some (1, code__law_width) := by kernel_rfl
theorem tab__law_integer : T.tab "_law_integer" = some (5, code__law_integer) := by kernel_rfl
theorem tab__law_row : T.tab "_law_row" = some (7, code__law_row) := by kernel_rfl
theorem tab__law_index : T.tab "_law_index" = some (2, code__law_index) := by kernel_rfl
theorem tab__law_fits : T.tab "_law_fits" = some (3, code__law_fits) := by kernel_rfl
theorem tab__law_good : T.tab "_law_good" = some (4, code__law_good) := by kernel_rfl
theorem tab__law_spoilt : T.tab "_law_spoilt" = some (10, code__law_spoilt) := by kernel_rfl
theorem tab__law_place : T.tab "_law_place" = some (3, code__law_place) := by kernel_rfl
theorem tab_Code___init__ : T.tab "Code.__init__" = some (5, code_Code___init__) := by kernel_rfl
theorem tab_law : T.tab "law" = some (14, code_law) := by kernel_rfl
set_option maxHeartbeats 0 in
theorem facts {P : Program} {w : World} {K : PySem.W.Frag} {h : Heap} {mg : Str → Option Value} {f : Addr} (X : K.In h) (N : h.Ns mainGlobals mg) (hfa : mg ("law" : Str) = some (.ref f)) (c : SaysQ fnL exK tbs w K) :
    ∃ fd : FuncData, (∀ (s : Shared) (v : Value), BindsTo s fd ⟨[v], []⟩ [("_law_script", v)]) ∧ ∀ base : Heap, K.In base → base.Ns mainGlobals mg → FnOk P w K mg base (L2.CX P w) 202 f fd ["_law_script"] (spOf (knX K xds clsN) ["_law_script"] ((W T 100).fn "law")) := by
  have ce := c.ex
  unfold exK at ce
  rw [Bool.and_eq_true, Bool.and_eq_true] at ce
  obtain ⟨c1, c2, c3⟩ := ce
  obtain ⟨fd_is_integer, F_is_integer⟩ := c.d.def_ 0 (d := d_is_integer) rfl
  obtain ⟨fd_power_of_two, F_power_of_two⟩ := c.d.def_ 1 (d := d_power_of_two) rfl
  obtain ⟨fd_fits, F_fits⟩ := c.d.def_ 2 (d := d_fits) rfl
  obtain ⟨fd_is_index, F_is_index⟩ := c.d.def_ 3 (d := d_is_index) rfl
  obtain ⟨fd_is_instruction, F_is_instruction⟩ := c.d.def_ 4 (d := d_is_instruction) rfl
  obtain ⟨fd_check_code, F_check_code⟩ := c.d.def_ 5 (d := d_check_code) rfl
  obtain ⟨fd__law_cell, F__law_cell⟩ := c.d.def_ 6 (d := d__law_cell) rfl
  obtain ⟨fd__law_stream, F__law_stream⟩ := c.d.def_ 7 (d := d__law_stream) rfl
  obtain ⟨fd__law_take, F__law_take⟩ := c.d.def_ 8 (d := d__law_take) rfl
  obtain ⟨fd__law_width, F__law_width⟩ := c.d.def_ 9 (d := d__law_width) rfl
  obtain ⟨fd__law_integer, F__law_integer⟩ := c.d.def_ 10 (d := d__law_integer) rfl
  obtain ⟨fd__law_row, F__law_row⟩ := c.d.def_ 11 (d := d__law_row) rfl
  obtain ⟨fd__law_index, F__law_index⟩ := c.d.def_ 12 (d := d__law_index) rfl
  obtain ⟨fd__law_fits, F__law_fits⟩ := c.d.def_ 13 (d := d__law_fits) rfl
  obtain ⟨fd__law_good, F__law_good⟩ := c.d.def_ 14 (d := d__law_good) rfl
  obtain ⟨fd__law_spoilt, F__law_spoilt⟩ := c.d.def_ 15 (d := d__law_spoilt) rfl
  obtain ⟨fd__law_place, F__law_place⟩ := c.d.def_ 16 (d := d__law_place) rfl
  obtain ⟨fd_Code___init__, F_Code___init__⟩ := c.d.def_ 17 (d := d_Code___init__) rfl
  obtain ⟨fd_law, F_law⟩ := c.d.def_ 18 (d := d_law) rfl
  have v_isinstance : gvB K xds clsN ("isinstance", .blt) = true := List.all_eq_true.mp c1 _ (List.mem_of_getElem? (i := 0) rfl)
  have v_int : gvB K xds clsN ("int", .blt) = true := List.all_eq_true.mp c1 _ (List.mem_of_getElem? (i := 1) rfl)
  have v_bool : gvB K xds clsN ("bool", .blt) = true := List.all_eq_true.mp c1 _ (List.mem_of_getElem? (i := 2) rfl)
  have v_power_of_two : gvB K xds clsN ("power_of_two", .fn ["exponent"] true []) = true := List.all_eq_true.mp c1 _ (List.mem_of_getElem? (i := 3) rfl)
  have v_is_integer : gvB K xds clsN ("is_integer", .fn ["value"] true []) = true := List.all_eq_true.mp c1 _ (List.mem_of_getElem? (i := 4) rfl)
  have v_tuple : gvB K xds clsN ("tuple", .blt) = true := List.all_eq_true.mp c1 _ (List.mem_of_getElem? (i := 5) rfl)
  have v_len : gvB K xds clsN ("len", .blt) = true := List.all_eq_true.mp c1 _ (List.mem_of_getElem? (i := 6) rfl)
  have v_str : gvB K xds clsN ("str", .blt) = true := List.all_eq_true.mp c1 _ (List.mem_of_getElem? (i := 7) rfl)
  have v_SIZES : gvB K xds clsN ("SIZES", .dic [("load", .int 3), ("set", .int 3), ("times", .int 4), ("add", .int 3), ("bend", .int 2), ("give", .int 2)]) = true := List.all_eq_true.mp c1 _ (List.mem_of_getElem? (i := 8) rfl)
  have v_is_index : gvB K xds clsN ("is_index", .fn ["value", "count"] true []) = true := List.all_eq_true.mp c1 _ (List.mem_of_getElem? (i := 9) rfl)
  have v_fits : gvB K xds clsN ("fits", .fn ["width", "value"] true []) = true := List.all_eq_true.mp c1 _ (List.mem_of_getElem? (i := 10) rfl)
  have v_LEAST_WIDTH : gvB K xds clsN ("LEAST_WIDTH", .con (.int 2)) = true := List.all_eq_true.mp c1 _ (List.mem_of_getElem? (i := 11) rfl)
  have v_MOST_WIDTH : gvB K xds clsN ("MOST_WIDTH", .con (.int 200)) = true := List.all_eq_true.mp c1 _ (List.mem_of_getElem? (i := 12) rfl)
  have v_BadCode : gvB K xds clsN ("BadCode", .exc ["place"]) = true := List.all_eq_true.mp c1 _ (List.mem_of_getElem? (i := 13) rfl)
  have v_MOST_REGISTERS : gvB K xds clsN ("MOST_REGISTERS", .con (.int 10000)) = true := List.all_eq_true.mp c1 _ (List.mem_of_getElem? (i := 14) rfl)
  have v_enumerate : gvB K xds clsN ("enumerate", .blt) = true := List.all_eq_true.mp c1 _ (List.mem_of_getElem? (i := 15) rfl)
  have v_is_instruction : gvB K xds clsN ("is_instruction", .fn ["code", "row"] true []) = true := List.all_eq_true.mp c1 _ (List.mem_of_getElem? (i := 16) rfl)
  have v__law_take : gvB K xds clsN ("_law_take", .fn ["_law_stream_here", "_law_many"] true []) = true := List.all_eq_true.mp c1 _ (List.mem_of_getElem? (i := 17) rfl)
  have v_max : gvB K xds clsN ("max", .blt) = true := List.all_eq_true.mp c1 _ (List.mem_of_getElem? (i := 18) rfl)
  have v_min : gvB K xds clsN ("min", .blt) = true := List.all_eq_true.mp c1 _ (List.mem_of_getElem? (i := 19) rfl)
  have v__law_integer : gvB K xds clsN ("_law_integer", .fn ["_law_stream_here", "_law_width_here"] true []) = true := List.all_eq_true.mp c1 _ (List.mem_of_getElem? (i := 20) rfl)
  have v__law_index : gvB K xds clsN ("_law_index", .fn ["_law_value", "_law_count"] true []) = true := List.all_eq_true.mp c1 _ (List.mem_of_getElem? (i := 21) rfl)
  have v__law_fits : gvB K xds clsN ("_law_fits", .fn ["_law_value", "_law_width_here"] true []) = true := List.all_eq_true.mp c1 _ (List.mem_of_getElem? (i := 22) rfl)
  have v_list : gvB K xds clsN ("list", .blt) = true := List.all_eq_true.mp c1 _ (List.mem_of_getElem? (i := 23) rfl)
  have v_check_code : gvB K xds clsN ("check_code", .fn ["code"] true []) = true := List.all_eq_true.mp c1 _ (List.mem_of_getElem? (i := 24) rfl)
  have v_KinkError : gvB K xds clsN ("KinkError", .exc []) = true := List.all_eq_true.mp c1 _ (List.mem_of_getElem? (i := 25) rfl)
  have v__law_stream : gvB K xds clsN ("_law_stream", .fn ["_law_cell_here"] true []) = true := List.all_eq_true.mp c1 _ (List.mem_of_getElem? (i := 26) rfl)
  have v__law_cell : gvB K xds clsN ("_law_cell", .fn ["_law_script", "_law_k"] true []) = true := List.all_eq_true.mp c1 _ (List.mem_of_getElem? (i := 27) rfl)
  have v__law_width : gvB K xds clsN ("_law_width", .fn ["_law_stream_here"] true []) = true := List.all_eq_true.mp c1 _ (List.mem_of_getElem? (i := 28) rfl)
  have v__law_row : gvB K xds clsN ("_law_row", .fn ["_law_stream_here", "_law_width_here", "_law_inputs", "_law_registers"] true []) = true := List.all_eq_true.mp c1 _ (List.mem_of_getElem? (i := 29) rfl)
  have v_range : gvB K xds clsN ("range", .blt) = true := List.all_eq_true.mp c1 _ (List.mem_of_getElem? (i := 30) rfl)
  have v__law_spoilt : gvB K xds clsN ("_law_spoilt", .fn ["_law_stream_here", "_law_row_here", "_law_width_here", "_law_inputs", "_law_registers"] true []) = true := List.all_eq_true.mp c1 _ (List.mem_of_getElem? (i := 31) rfl)
  have v__law_good : gvB K xds clsN ("_law_good", .fn ["_law_row_here", "_law_width_here", "_law_inputs", "_law_registers"] true []) = true := List.all_eq_true.mp c1 _ (List.mem_of_getElem? (i := 32) rfl)
  have v__law_place : gvB K xds clsN ("_law_place", .fn ["_law_code"] true []) = true := List.all_eq_true.mp c1 _ (List.mem_of_getElem? (i := 33) rfl)
  have v_Code : gvB K xds clsN ("Code", .cls "Code.__init__" ["self", "width", "inputs", "registers", "instructions"]) = true := List.all_eq_true.mp c1 _ (List.mem_of_getElem? (i := 34) rfl)
  have v_Code___init__ : gvB K xds clsN ("Code.__init__", .met "Code" "__init__" ["self", "width", "inputs", "registers", "instructions"]) = true := List.all_eq_true.mp c1 _ (List.mem_of_getElem? (i := 35) rfl)
  have v_law : gvB K xds clsN ("law", .fn ["_law_script"] true []) = true := List.all_eq_true.mp c1 _ (List.mem_of_getElem? (i := 36) rfl)
  have v__f_width : gvB K xds clsN (":width", .fld "width" ["Code"]) = true := List.all_eq_true.mp c1 _ (List.mem_of_getElem? (i := 37) rfl)
  have v__f_inputs : gvB K xds clsN (":inputs", .fld "inputs" ["Code"]) = true := List.all_eq_true.mp c1 _ (List.mem_of_getElem? (i := 38) rfl)
  have v__f_registers : gvB K xds clsN (":registers", .fld "registers" ["Code"]) = true := List.all_eq_true.mp c1 _ (List.mem_of_getElem? (i := 39) rfl)
  have v__f_instructions : gvB K xds clsN (":instructions", .fld "instructions" ["Code"]) = true := List.all_eq_true.mp c1 _ (List.mem_of_getElem? (i := 40) rfl)
  have hl := hfa.symm.trans (gv_ok (G := ⟨P, w, K, mg, h⟩) (F := W T 0) (lev := 0) X N v_law).2
  cases hl
  refine ⟨fd_law, fun s v => FunD.bindsA (ps := ["_law_script"]) F_law (fun _ _ _ _ _ _ us hl => match us, hl with | [_], _ => rfl) s [v] rfl, fun base KB NB => ?_⟩
  have xg : XnG ⟨P, w, K, mg, base⟩ (knX K xds clsN) (W T 0) := xnG_of (cls := clsN) c2 c3 rfl rfl
  have g_isinstance := gv_ok (G := ⟨P, w, K, mg, base⟩) (F := W T 0) (lev := 0) KB NB v_isinstance
  have g_int := gv_ok (G := ⟨P, w, K, mg, base⟩) (F := W T 0) (lev := 0) KB NB v_int
  have g_bool := gv_ok (G := ⟨P, w, K, mg, base⟩) (F := W T 0) (lev := 0) KB NB v_bool
  have g_power_of_two := gv_ok (G := ⟨P, w, K, mg, base⟩) (F := W T 0) (lev := 0) KB NB v_power_of_two
  have g_is_integer := gv_ok (G := ⟨P, w, K, mg, base⟩) (F := W T 0) (lev := 0) KB NB v_is_integer
  have g_tuple := gv_ok (G := ⟨P, w, K, mg, base⟩) (F := W T 0) (lev := 0) KB NB v_tuple
  have g_len := gv_ok (G := ⟨P, w, K, mg, base⟩) (F := W T 0) (lev := 0) KB NB v_len
  have g_str := gv_ok (G := ⟨P, w, K, mg, base⟩) (F := W T 0) (lev := 0) KB NB v_str
  have g_SIZES := gv_ok (G := ⟨P, w, K, mg, base⟩) (F := W T 0) (lev := 0) KB NB v_SIZES
  have g_is_index := gv_ok (G := ⟨P, w, K, mg, base⟩) (F := W T 0) (lev := 0) KB NB v_is_index
  have g_fits := gv_ok (G := ⟨P, w, K, mg, base⟩) (F := W T 0) (lev := 0) KB NB v_fits
  have g_LEAST_WIDTH := gv_ok (G := ⟨P, w, K, mg, base⟩) (F := W T 0) (lev := 0) KB NB v_LEAST_WIDTH
  have g_MOST_WIDTH := gv_ok (G := ⟨P, w, K, mg, base⟩) (F := W T 0) (lev := 0) KB NB v_MOST_WIDTH
  have g_BadCode := gv_ok (G := ⟨P, w, K, mg, base⟩) (F := W T 0) (lev := 0) KB NB v_BadCode
  have g_MOST_REGISTERS := gv_ok (G := ⟨P, w, K, mg, base⟩) (F := W T 0) (lev := 0) KB NB v_MOST_REGISTERS
  have g_enumerate := gv_ok (G := ⟨P, w, K, mg, base⟩) (F := W T 0) (lev := 0) KB NB v_enumerate
  have g_is_instruction := gv_ok (G := ⟨P, w, K, mg, base⟩) (F := W T 0) (lev := 0) KB NB v_is_instruction
  have g__law_take := gv_ok (G := ⟨P, w, K, mg, base⟩) (F := W T 0) (lev := 0) KB NB v__law_take
  have g_max := gv_ok (G := ⟨P, w, K, mg, base⟩) (F := W T 0) (lev := 0) KB NB v_max
  have g_min := gv_ok (G := ⟨P, w, K, mg, base⟩) (F := W T 0) (lev := 0) KB NB v_min
  have g__law_integer := gv_ok (G := ⟨P, w, K, mg, base⟩) (F := W T 0) (lev := 0) KB NB v__law_integer
  have g__law_index := gv_ok (G := ⟨P, w, K, mg, base⟩) (F := W T 0) (lev := 0) KB NB v__law_index
  have g__law_fits := gv_ok (G := ⟨P, w, K, mg, base⟩) (F := W T 0) (lev := 0) KB NB v__law_fits
  have g_list := gv_ok (G := ⟨P, w, K, mg, base⟩) (F := W T 0) (lev := 0) KB NB v_list
  have g_check_code := gv_ok (G := ⟨P, w, K, mg, base⟩) (F := W T 0) (lev := 0) KB NB v_check_code
  have g_KinkError := gv_ok (G := ⟨P, w, K, mg, base⟩) (F := W T 0) (lev := 0) KB NB v_KinkError
  have g__law_stream := gv_ok (G := ⟨P, w, K, mg, base⟩) (F := W T 0) (lev := 0) KB NB v__law_stream
  have g__law_cell := gv_ok (G := ⟨P, w, K, mg, base⟩) (F := W T 0) (lev := 0) KB NB v__law_cell
  have g__law_width := gv_ok (G := ⟨P, w, K, mg, base⟩) (F := W T 0) (lev := 0) KB NB v__law_width
  have g__law_row := gv_ok (G := ⟨P, w, K, mg, base⟩) (F := W T 0) (lev := 0) KB NB v__law_row
  have g_range := gv_ok (G := ⟨P, w, K, mg, base⟩) (F := W T 0) (lev := 0) KB NB v_range
  have g__law_spoilt := gv_ok (G := ⟨P, w, K, mg, base⟩) (F := W T 0) (lev := 0) KB NB v__law_spoilt
  have g__law_good := gv_ok (G := ⟨P, w, K, mg, base⟩) (F := W T 0) (lev := 0) KB NB v__law_good
  have g__law_place := gv_ok (G := ⟨P, w, K, mg, base⟩) (F := W T 0) (lev := 0) KB NB v__law_place
  have g_Code := gv_ok (G := ⟨P, w, K, mg, base⟩) (F := W T 0) (lev := 0) KB NB v_Code
  have g_Code___init__ := gv_ok (G := ⟨P, w, K, mg, base⟩) (F := W T 0) (lev := 0) KB NB v_Code___init__
  have g_law := gv_ok (G := ⟨P, w, K, mg, base⟩) (F := W T 0) (lev := 0) KB NB v_law
  have g__f_width := gv_ok (G := ⟨P, w, K, mg, base⟩) (F := W T 0) (lev := 0) KB NB v__f_width
  have g__f_inputs := gv_ok (G := ⟨P, w, K, mg, base⟩) (F := W T 0) (lev := 0) KB NB v__f_inputs
  have g__f_registers := gv_ok (G := ⟨P, w, K, mg, base⟩) (F := W T 0) (lev := 0) KB NB v__f_registers
  have g__f_instructions := gv_ok (G := ⟨P, w, K, mg, base⟩) (F := W T 0) (lev := 0) KB NB v__f_instructions
  have e_SIZES := DicP.full (F := W T 0) (lev := 0) g_SIZES.2 (c.tab 0 rfl)
  obtain ⟨fd_BadCode_init, F_BadCode_init⟩ := c.d.def_ 19 (d := d_BadCode_init) rfl
  have e_BadCode := ExGP.full g_BadCode.2 xg F_BadCode_init (N := ["self", "place"]) (by decide +kernel) (by kernel_rfl) (by kernel_rfl) (by kernel_rfl) (by kernel_rfl) (F_BadCode_init.bindsN fun _ _ _ _ _ _ us hl => match us, hl with | [_, _], _ => rfl) 0 (W T 0)
  have s_is_integer : FnS ⟨P, w, K, mg, base⟩ T al "is_integer" ["value"] true [] := ⟨fd_is_integer, N_is_integer, code_is_integer, _, _, _, _, _, _, _, g_is_integer.2, F_is_integer.kp, F_is_integer, sc_is_integer, comp_is_integer, tab_is_integer, (fun _ => F_is_integer.bindsN fun _ _ _ _ _ _ us hl => match us, hl with | [_], _ => rfl), fun z hz => nomatch hz⟩
  have s_power_of_two : FnS ⟨P, w, K, mg, base⟩ T al "power_of_two" ["exponent"] true [] := ⟨fd_power_of_two, N_power_of_two, code_power_of_two, _, _, _, _, _, _, _, g_power_of_two.2, F_power_of_two.kp, F_power_of_two, sc_power_of_two, comp_power_of_two, tab_power_of_two, (fun _ => F_power_of_two.bindsN fun _ _ _ _ _ _ us hl => match us, hl with | [_], _ => rfl), fun z hz => nomatch hz⟩
  have s_fits : FnS ⟨P, w, K, mg, base⟩ T al "fits" ["width", "value"] true [] := ⟨fd_fits, N_fits, code_fits, _, _, _, _, _, _, _, g_fits.2, F_fits.kp, F_fits, sc_fits, comp_fits, tab_fits, (fun _ => F_fits.bindsN fun _ _ _ _ _ _ us hl => match us, hl with | [_, _], _ => rfl), fun z hz => nomatch hz⟩
  have s_is_index : FnS ⟨P, w, K, mg, base⟩ T al "is_index" ["value", "count"] true [] := ⟨fd_is_index, N_is_index, code_is_index, _, _, _, _, _, _, _, g_is_index.2, F_is_index.kp, F_is_index, sc_is_index, comp_is_index, tab_is_index, (fun _ => F_is_index.bindsN fun _ _ _ _ _ _ us hl => match us, hl with | [_, _], _ => rfl), fun z hz => nomatch hz⟩
  have s_is_instruction : FnS ⟨P, w, K, mg, base⟩ T al "is_instruction" ["code", "row"] true [] := ⟨fd_is_instruction, N_is_instruction, code_is_instruction, _, _, _, _, _, _, _, g_is_instruction.2, F_is_instruction.kp, F_is_instruction, sc_is_instruction, comp_is_instruction, tab_is_instruction, (fun _ => F_is_instruction.bindsN fun _ _ _ _ _ _ us hl => match us, hl with | [_, _], _ => rfl), fun z hz => nomatch hz⟩
  have s_check_code : FnS ⟨P, w, K, mg, base⟩ T al "check_code" ["code"] true [] := ⟨fd_check_code, N_check_code, code_check_code, _, _, _, _, _, _, _, g_check_code.2, F_check_code.kp, F_check_code, sc_check_code, comp_check_code, tab_check_code, (fun _ => F_check_code.bindsN fun _ _ _ _ _ _ us hl => match us, hl with | [_], _ => rfl), fun z hz => nomatch hz⟩
  have s__law_cell : FnS ⟨P, w, K, mg, base⟩ T al "_law_cell" ["_law_script", "_law_k"] true [] := ⟨fd__law_cell, N__law_cell, code__law_cell, _, _, _, _, _, _, _, g__law_cell.2, F__law_cell.kp, F__law_cell, sc__law_cell, comp__law_cell, tab__law_cell, (fun _ => F__law_cell.bindsN fun _ _ _ _ _ _ us hl => match us, hl with | [_, _], _ => rfl), fun z hz => nomatch hz⟩
  have s__law_stream : FnS ⟨P, w, K, mg, base⟩ T al "_law_stream" ["_law_cell_here"] true [] := ⟨fd__law_stream, N__law_stream, code__law_stream, _, _, _, _, _, _, _, g__law_stream.2, F__law_stream.kp, F__law_stream, sc__law_stream, comp__law_stream, tab__law_stream, (fun _ => F__law_stream.bindsN fun _ _ _ _ _ _ us hl => match us, hl with | [_], _ => rfl), fun z hz => nomatch hz⟩
  have s__law_take : FnS ⟨P, w, K, mg, base⟩ T al "_law_take" ["_law_stream_here", "_law_many"] true [] := ⟨fd__law_take, N__law_take, code__law_take, _, _, _, _, _, _, _, g__law_take.2, F__law_take.kp, F__law_take, sc__law_take, comp__law_take, tab__law_take, (fun _ => F__law_take.bindsN fun _ _ _ _ _ _ us hl => match us, hl with | [_, _], _ => rfl), fun z hz => nomatch hz⟩
  have s__law_width : FnS ⟨P, w, K, mg, base⟩ T al "_law_width" ["_law_stream_here"] true [] := ⟨fd__law_width, N__law_width, code__law_width, _, _, _, _, _, _, _, g__law_width.2, F__law_width.kp, F__law_width, sc__law_width, comp__law_width, tab__law_width, (fun _ => F__law_width.bindsN fun _ _ _ _ _ _ us hl => match us, hl with | [_], _ => rfl), fun z hz => nomatch hz⟩
  have s__law_integer : FnS ⟨P, w, K, mg, base⟩ T al "_law_integer" ["_law_stream_here", "_law_width_here"] true [] := ⟨fd__law_integer, N__law_integer, code__law_integer, _, _, _, _, _, _, _, g__law_integer.2, F__law_integer.kp, F__law_integer, sc__law_integer, comp__law_integer, tab__law_integer, (fun _ => F__law_integer.bindsN fun _ _ _ _ _ _ us hl => match us, hl with | [_, _], _ => rfl), fun z hz => nomatch hz⟩
  have s__law_row : FnS ⟨P, w, K, mg, base⟩ T al "_law_row" ["_law_stream_here", "_law_width_here", "_law_inputs", "_law_registers"] true [] := ⟨fd__law_row, N__law_row, code__law_row, _, _, _, _, _, _, _, g__law_row.2, F__law_row.kp, F__law_row, sc__law_row, comp__law_row, tab__law_row, (fun _ => F__law_row.bindsN fun _ _ _ _ _ _ us hl => match us, hl with | [_, _, _, _], _ => rfl), fun z hz => nomatch hz⟩
  have s__law_index : FnS ⟨P, w, K, mg, base⟩ T al "_law_index" ["_law_value", "_law_count"] true [] := ⟨fd__law_index, N__law_index, code__law_index, _, _, _, _, _, _, _, g__law_index.2, F__law_index.kp, F__law_index, sc__law_index, comp__law_index, tab__law_index, (fun _ => F__law_index.bindsN fun _ _ _ _ _ _ us hl => match us, hl with | [_, _], _ => rfl), fun z hz => nomatch hz⟩
  have s__law_fits : FnS ⟨P, w, K, mg, base⟩ T al "_law_fits" ["_law_value", "_law_width_here"] true [] := ⟨fd__law_fits, N__law_fits, code__law_fits, _, _, _, _, _, _, _, g__law_fits.2, F__law_fits.kp, F__law_fits, sc__law_fits, comp__law_fits, tab__law_fits, (fun _ => F__law_fits.bindsN fun _ _ _ _ _ _ us hl => match us, hl with | [_, _], _ => rfl), fun z hz => nomatch hz⟩
  have s__law_good : FnS ⟨P, w, K, mg, base⟩ T al "_law_good" ["_law_row_here", "_law_width_here", "_law_inputs", "_law_registers"] true [] := ⟨fd__law_good, N__law_good, code__law_good, _, _, _, _, _, _, _, g__law_good.2, F__law_good.kp, F__law_good, sc__law_good, comp__law_good, tab__law_good, (fun _ => F__law_good.bindsN fun _ _ _ _ _ _ us hl => match us, hl with | [_, _, _, _], _ => rfl), fun z hz => nomatch hz⟩
  have s__law_spoilt : FnS ⟨P, w, K, mg, base⟩ T al "_law_spoilt" ["_law_stream_here", "_law_row_here", "_law_width_here", "_law_inputs", "_law_registers"] true [] := ⟨fd__law_spoilt, N__law_spoilt, code__law_spoilt, _, _, _, _, _, _, _, g__law_spoilt.2, F__law_spoilt.kp, F__law_spoilt, sc__law_spoilt, comp__law_spoilt, tab__law_spoilt, (fun _ => F__law_spoilt.bindsN fun _ _ _ _ _ _ us hl => match us, hl with | [_, _, _, _, _], _ => rfl), fun z hz => nomatch hz⟩
  have s__law_place : FnS ⟨P, w, K, mg, base⟩ T al "_law_place" ["_law_code"] true [] := ⟨fd__law_place, N__law_place, code__law_place, _, _, _, _, _, _, _, g__law_place.2, F__law_place.kp, F__law_place, sc__law_place, comp__law_place, tab__law_place, (fun _ => F__law_place.bindsN fun _ _ _ _ _ _ us hl => match us, hl with | [_], _ => rfl), fun z hz => nomatch hz⟩
  have s_law : FnS ⟨P, w, K, mg, base⟩ T al "law" ["_law_script"] true [] := ⟨fd_law, N_law, code_law, _, _, _, _, _, _, _, g_law.2, F_law.kp, F_law, sc_law, comp_law, tab_law, (fun _ => F_law.bindsN fun _ _ _ _ _ _ us hl => match us, hl with | [_], _ => rfl), fun z hz => nomatch hz⟩
  have s_Code : CxS ⟨P, w, K, mg, base⟩ (knX K xds clsN) T al "Code" "Code.__init__" ["self", "width", "inputs", "registers", "instructions"] := ⟨_, _, fd_Code___init__, g_Code.2.1, g_Code.2.2.1, g_Code.2.2.2.1, g_Code.2.2.2.2, ⟨N_Code___init__, code_Code___init__, _, _, _, _, _, _, _, F_Code___init__, sc_Code___init__, comp_Code___init__, tab_Code___init__⟩, F_Code___init__.bindsN fun _ _ _ _ _ _ us hl => match us, hl with | [_, _, _, _, _], _ => rfl⟩
  have s_Code___init__ : MtS ⟨P, w, K, mg, base⟩ (knX K xds clsN) T al "Code.__init__" "Code" "__init__" ["self", "width", "inputs", "registers", "instructions"] := ⟨_, _, fd_Code___init__, g_Code___init__.2.1, g_Code___init__.2.2.1, g_Code___init__.2.2.2, ⟨N_Code___init__, code_Code___init__, _, _, _, _, _, _, _, F_Code___init__, sc_Code___init__, comp_Code___init__, tab_Code___init__⟩, F_Code___init__.bindsN fun _ _ _ _ _ _ us hl => match us, hl with | [_, _, _, _, _], _ => rfl⟩
  have st : StS ⟨P, w, K, mg, base⟩ (knX K xds clsN) T al al := ⟨⟨g_isinstance.1, g_isinstance.2⟩, ⟨g_int.1, g_int.2⟩, ⟨g_bool.1, g_bool.2⟩, ⟨g_power_of_two.1, s_power_of_two⟩, ⟨g_is_integer.1, s_is_integer⟩, ⟨g_tuple.1, g_tuple.2⟩, ⟨g_len.1, g_len.2⟩, ⟨g_str.1, g_str.2⟩, ⟨g_SIZES.1, e_SIZES⟩, ⟨g_is_index.1, s_is_index⟩, ⟨g_fits.1, s_fits⟩, ⟨g_LEAST_WIDTH.1, g_LEAST_WIDTH.2⟩, ⟨g_MOST_WIDTH.1, g_MOST_WIDTH.2⟩, ⟨g_BadCode.1, e_BadCode⟩, ⟨g_MOST_REGISTERS.1, g_MOST_REGISTERS.2⟩, ⟨g_enumerate.1, g_enumerate.2⟩, ⟨g_is_instruction.1, s_is_instruction⟩, ⟨g__law_take.1, s__law_take⟩, ⟨g_max.1, g_max.2⟩, ⟨g_min.1, g_min.2⟩, ⟨g__law_integer.1, s__law_integer⟩, ⟨g__law_index.1, s__law_index⟩, ⟨g__law_fits.1, s__law_fits⟩, ⟨g_list.1, g_list.2⟩, ⟨g_check_code.1, s_check_code⟩, ⟨g_KinkError.1, g_KinkError.2⟩, ⟨g__law_stream.1, s__law_stream⟩, ⟨g__law_cell.1, s__law_cell⟩, ⟨g__law_width.1, s__law_width⟩, ⟨g__law_row.1, s__law_row⟩, ⟨g_range.1, g_range.2⟩, ⟨g__law_spoilt.1, s__law_spoilt⟩, ⟨g__law_good.1, s__law_good⟩, ⟨g__law_place.1, s__law_place⟩, ⟨g_Code.1, s_Code⟩, ⟨g_Code___init__.1, s_Code___init__⟩, ⟨g_law.1, s_law⟩, ⟨g__f_width.1, g__f_width.2⟩, ⟨g__f_inputs.1, g__f_inputs.2⟩, ⟨g__f_registers.1, g__f_registers.2⟩, ⟨g__f_instructions.1, g__f_instructions.2⟩, trivial⟩
  exact law_fn (G := ⟨P, w, K, mg, base⟩) (k := 99) (x := "law") xg st (by kernel_rfl) g_law.2 F_law sc_law comp_law tab_law
end Kl
section
open PySem PySem.W PySem.Calls PyProof.Rows
set_option maxRecDepth 100000 in
set_option maxHeartbeats 0 in
theorem Kl.holds_of (hlaw : ∀ ns : List Int, ns.length ≤ 63 → (∀ z ∈ ns, PySem.Builtin.Int.intBits z ≤ 1048576) → ∃ S', (Kq.W Kl.T 100).fn "law" [Kq.D.ref 0] [Kq.Ob.lst false (ns.map Kq.D.int)] = Kq.R.ok (Kq.D.bl true) S') : PySem.Challenge.rw_kinkmeasure_k66_code_is_checked.Holds := by
  w_on; o_law
  refine HandSHeadRun.head_any (r := OpenLaw.row PySem.Challenge.rw_kinkmeasure_k66_code_is_checked) (q := view (OpenLaw.row PySem.Challenge.rw_kinkmeasure_k66_code_is_checked).prog [28]) (H := Kl.hk) (ob := Kl.ob) (M := 4000) (loose := Kl.loN) (d := HandSHeadRun.topDef (OpenLaw.row PySem.Challenge.rw_kinkmeasure_k66_code_is_checked).prog 28) (kwd := []) Kl.ob_eq
    (by kernel_rfl) (fun s => by kernel_rfl) Kl.run (by kernel_rfl) (by kernel_rfl) (by kernel_rfl) (by rfl) (by first | assumption | decide +kernel) (by decide +kernel) ⟨rfl, rfl, rfl, rfl, rfl, by decide +kernel⟩ ?hw ?hc
  case hw => w_witness2
  case hc =>
    refine Kq.walk_ofQ (xd := Kl.xds) (cls := Kl.clsN) (l := PySem.Challenge.rw_kinkmeasure_k66_code_is_checked) (n := 63) (k := 202) (x := "_law_script") rfl (by decide) (by kernel_rfl) ⟨rfl, by decide, by decide⟩ hlaw ?F
    intro w mg fa h Y G hmg0
    obtain ⟨K, KX, c⟩ := Y
    have hmg : mg ("law" : PySem.Str) = some (.ref fa) := by
      have e : (HandSHeadRun.topDef (OpenLaw.row PySem.Challenge.rw_kinkmeasure_k66_code_is_checked).prog 28).name = ("law" : PySem.Str) := by kernel_rfl
      rw [← e]
      exact hmg0
    obtain ⟨fd, hb, hF⟩ := Kl.facts (P := (PySem.Challenge.rw_kinkmeasure_k66_code_is_checked).prog) (w := w) KX G hmg c
    exact ⟨K, fd, KX, c.no, hb, hF⟩
end
namespace Kl
end Kl
set_option Elab.async false
set_option linter.all false
set_option maxRecDepth 100000
set_option maxHeartbeats 4000000
set_option autoImplicit false
set_option exponentiation.threshold 200000
namespace Kl
open PySem PySem.Spec PyProof.Rows L2 Kq
local macro_rules
  | `(tactic| row_cond qb) => `(tactic| first
    | with_reducible assumption
    | ((with_reducible apply lt2_lit); decide)
    | (with_reducible exact tenp_lt _)
    | ((with_reducible apply szQ.num); assumption)
    | ((with_reducible apply szQ.den); assumption)
    | ((with_reducible apply lt2_mul) <;> row_cond qb)
    | ((with_reducible apply lt2_add) <;> row_cond qb)
    | ((with_reducible apply lt2_sub) <;> row_cond qb)
    | ((with_reducible apply lt2_neg) <;> row_cond qb)
    | ((with_reducible apply lt2_abs) <;> row_cond qb)
    | ((with_reducible apply lt2_ediv) <;> row_cond qb))
  | `(tactic| row_cond qg) => `(tactic| first
    | assumption
    | exact o_new
    | exact o_mid
    | exact Ext.get (by assumption) (by assumption)
    | ((with_reducible refine o_old ?_); row_cond qg)
    | (refine Ext.get ?_ (by assumption); row_cond qx))
  | `(tactic| row_cond qx) => `(tactic| first
    | (with_reducible assumption)
    | (with_reducible exact Ext.refl)
    | ((with_reducible apply Ext.app); row_cond qx)
    | (with_reducible exact Ext.trans (by assumption) (by assumption))
    | ((with_reducible refine Ext.trans ?_ (by with_reducible assumption)); row_cond qx))
  | `(tactic| row_cond qm) => `(tactic| first
    | assumption
    | exact mul_ok (by row_cond qb) (by row_cond qb) (by first | omega | simp | decide))
  | `(tactic| row_cond qd) => `(tactic| first
    | assumption
    | exact div_ok (by row_cond qb) (by first | omega | decide) (by first | assumption | omega | exact den_ne _))
  | `(tactic| row_cond qo) => `(tactic| first
    | (with_reducible exact ev_add ..)
    | (with_reducible exact ev_sub ..)
    | ((with_reducible refine ev_mul ?_); row_cond qm)
    | ((with_reducible refine o_divP _ ?_ ?_) <;> first | omega | row_cond qd)
    | ((with_reducible refine o_modP _ ?_); omega)
    | ((with_reducible refine ev_fdiv ?_); row_cond qd)
    | ((with_reducible refine ev_mod ?_); first | assumption | omega | exact den_ne _)
    | (with_reducible exact ev_neg ..)
    | ((with_reducible refine o_pow10 _ ?_); decide)
    | (with_reducible exact o_q0 ..)
    | (with_reducible exact o_q1 ..)
    | (with_reducible exact idx_tup0 ..)
    | (with_reducible exact idx_tup1 ..)
    | (with_reducible exact idx_tup2 ..)
    | (with_reducible exact idx_tup3 ..)
    | (with_reducible exact idx_tup4 ..)
    | (with_reducible exact ev_eq ..)
    | (with_reducible exact ev_ne ..)
    | (with_reducible exact ev_lt ..)
    | (with_reducible exact ev_le ..)
    | (with_reducible exact ev_gt ..)
    | (with_reducible exact ev_ge ..)
    | (with_reducible exact o_eqb ..)
    | (with_reducible exact o_eqQ ..)
    | (with_reducible exact o_neQ ..)
    | (with_reducible exact o_eqV ..)
    | (with_reducible exact o_neV ..)
    | (with_reducible exact o_neb ..)
    | (with_reducible exact tru_bl ..)
    | (with_reducible exact tru_int ..)
    | (with_reducible exact tru_non ..)
    | (with_reducible exact bi_int ..)
    | (with_reducible exact o_intb ..)
    | (with_reducible exact bi_abs ..)
    | (with_reducible exact bi_gcd ..)
    | (with_reducible exact o_max ..)
    | (with_reducible exact o_min ..)
    | (with_reducible exact bi_len_tup ..)
    | ((with_reducible apply o_lenr); row_cond qg)
    | (with_reducible exact o_tt ..)
    | (with_reducible exact o_ii ..)
    | (with_reducible exact o_ib ..)
    | (with_reducible exact o_bb ..)
    | (with_reducible exact o_bi ..)
    | (with_reducible exact o_itemsT ..)
    | ((with_reducible apply o_items); row_cond qg)
    | (with_reducible exact tru_tup ..)
    | (with_reducible exact o_itemsV ..)
    | (with_reducible exact o_itemsM ..)
    | (with_reducible exact o_itemsQ ..)
    | ((with_reducible refine o_addQT _ ?_); simp only [List.length_cons, List.length_nil]; omega)
    | ((with_reducible apply o_addL) <;> first | row_cond qg | (simp only [List.length_cons, List.length_nil, List.length_map]; omega))
    | ((with_reducible refine o_addT0 ?_ _); first | omega | (simp only [List.length_cons, List.length_nil, List.length_map]; omega))
    | ((with_reducible refine o_addT ?_); (try simp only [List.length_cons, List.length_nil, List.length_map, List.length_append]); omega)
    | (with_reducible exact o_lenV ..)
    | (with_reducible exact o_lenM ..)
    | (with_reducible exact o_lenQ ..)
    | (with_reducible exact o_tV ..)
    | (with_reducible exact o_tM ..)
    | (with_reducible exact o_tQ ..)
    | (with_reducible exact o_slV ..)
    | (with_reducible exact o_slM ..)
    | ((with_reducible refine o_repM ?_); omega)
    | (with_reducible exact o_tupV ..)
    | (with_reducible exact o_tupM ..)
    | (with_reducible exact o_tupL ..)
    | (with_reducible exact o_lstL ..)
    | (with_reducible exact o_allL ..)
    | (with_reducible exact o_anyL ..)
    | ((with_reducible refine o_eqS ?_ ?_ _) <;> first | assumption | decide +kernel)
    | ((with_reducible refine o_neS ?_ ?_ _) <;> first | assumption | decide +kernel)
    | ((with_reducible refine o_addS0 ?_ _); first | assumption | decide +kernel)
    | ((with_reducible apply v_tup); assumption)
    | ((with_reducible apply v_str); assumption)
    | ((with_reducible apply v_int); assumption)
    | ((with_reducible apply v_bool); assumption)
    | ((with_reducible apply v_is); assumption)
    | ((with_reducible apply v_isn); assumption)
    | (with_reducible exact o_st ..)
    | (with_reducible exact o_sn ..)
    | (with_reducible exact o_tn ..)
    | (with_reducible exact o_sI ..)
    | (with_reducible exact o_tb ..)
    | (with_reducible exact o_sb ..)
    | (with_reducible exact o_ss ..)
    | (with_reducible exact o_ts ..)
    | (with_reducible exact o_isB ..)
    | (with_reducible exact o_isS ..)
    | (with_reducible exact o_isI ..)
    | (with_reducible exact o_isnI ..)
    | (with_reducible exact o_isN ..)
    | (with_reducible exact o_isnN ..)
    | (with_reducible exact o_isbb ..)
    | (with_reducible exact o_isnb0 ..)
    | (with_reducible exact o_isnnb0 ..)
    | (with_reducible exact o_isnbb ..)
    | (with_reducible exact o_isT ..)
    | (with_reducible exact o_isnT ..)
    | (with_reducible exact o_part0 ..)
    | (with_reducible exact o_part1 ..)
    | (with_reducible exact o_slT ..)
    | (with_reducible exact o_rev ..)
    | ((with_reducible apply o_revL); row_cond qg)
    | ((with_reducible apply o_fld); (focus row_cond qg); (focus rfl); row_cond qj)
    | ((with_reducible apply o_slr); row_cond qg)
    | ((with_reducible refine o_rep ?_); omega)
    | ((with_reducible refine o_lrg1 _ ?_); omega)
    | ((with_reducible refine o_trg1 _ ?_); omega)
    | ((with_reducible refine o_trg2 _ ?_); omega)
    | (with_reducible assumption)
    | ((with_reducible refine gFn ?_); assumption))
  | `(tactic| row_cond qp) => `(tactic| first
    | ((with_reducible refine o_rng ?_); omega)
    | ((with_reducible refine o_rng2 ?_); omega)
    | (with_reducible exact o_itV ..)
    | (with_reducible exact o_itM ..)
    | (with_reducible exact o_zipV ..)
    | (with_reducible exact o_zipVM ..)
    | (with_reducible exact o_itT ..)
    | ((with_reducible apply o_it); row_cond qg)
    | (with_reducible exact o_zip ..)
    | (with_reducible exact o_zip3 ..)
    | (with_reducible exact o_enmT ..)
    | ((with_reducible apply o_enm); row_cond qg)
    | (with_reducible assumption))
  | `(tactic| row_cond qj) => `(tactic| first
    | exact FlR.hit
    | (apply FlR.miss; (focus rfl); row_cond qj))
  | `(tactic| row_cond qu) => `(tactic| first
    | exact PuR.hit
    | exact PuR.nil
    | (apply PuR.miss; (focus rfl); row_cond qu))
  | `(tactic| row_cond qn) => `(tactic| first
    | exact NthR.z
    | (apply NthR.s; row_cond qn))
  | `(tactic| row_cond qk) => `(tactic| first
    | exact PkR.nil
    | (apply PkR.cons; (focus row_cond qn); row_cond qk))
  | `(tactic| row_cond qE) => `(tactic| first
    | refine w_loc ?_
    | (with_reducible refine w_con0 ?_)
    | (with_reducible refine w_con1 ?_)
    | (with_reducible refine w_conh ?_)
    | refine w_con ?_
    | refine w_bin ?_
    | refine w_cmp ?_
    | refine w_idx ?_
    | refine w_call ?_
    | refine w_bi ?_
    | (with_reducible refine w_tup0 ?_)
    | (with_reducible refine w_tup1 ?_)
    | (with_reducible refine w_tupm ?_)
    | refine w_tup ?_
    | refine w_lst ?_
    | refine w_isi ?_
    | refine w_neg ?_
    | refine w_nt ?_
    | refine w_ands ?_
    | refine w_ors ?_
    | refine w_ite ?_
    | refine w_chn ?_
    | refine w_sl ?_
    | refine w_bl ?_
    | refine w_lc ?_
    | refine w_bm ?_
    | refine w_cal ?_
    | refine w_eis ?_
    | refine w_efl ?_
    | refine w_fld ?_
    | refine w_mth ?_
    | refine w_mk ?_
    | refine w_lrg ?_
    | refine w_rep ?_
    | refine w_dgt ?_)
  | `(tactic| row_cond qT) => `(tactic| first
    | refine w_tnt ?_
    | refine w_tand ?_
    | refine w_tor ?_
    | refine w_tite ?_
    | refine w_tof rfl ?_
    | refine w_tlst ?_)
  | `(tactic| row_cond qS) => `(tactic| first
    | refine w_asg ?_
    | refine w_if ?_
    | refine w_ret ?_
    | refine w_ex ?_
    | refine w_for ?_
    | refine w_pass ?_
    | refine w_cont ?_
    | refine w_brk ?_
    | refine w_retN ?_
    | refine w_rse ?_
    | refine w_try ?_
    | refine w_par ?_
    | refine w_sub ?_
    | refine w_fst ?_
    | refine w_aug rfl ?_)
  | `(tactic| row_cond qL) => `(tactic| first
    | refine w_llst ?_
    | refine w_llc ?_
    | refine w_lite ?_
    | refine w_lof rfl ?_)
  | `(tactic| row_cond qI) => `(tactic| first
    | refine w_iex ?_
    | refine w_itmp ?_
    | refine w_irng ?_
    | refine w_izip ?_
    | refine w_izip3 ?_
    | refine w_ienm ?_)
  | `(tactic| row_cond qF) => `(tactic| first
    | refine ift ?_
    | refine iff' ?_
    | refine ift' (decide_eq_true (by first | assumption | omega)) ?_
    | refine iff'' (decide_eq_false (by first | assumption | omega)) ?_
    | refine ift' (by first | (simp only [decide_eq_true_eq, Bool.not_eq_true', decide_eq_false_iff_not, bne_iff_ne, ne_eq, Bool.not_true, Bool.not_false, not_true_eq_false, List.length_map, List.length_cons, List.length_nil]; done) | ((try simp only [decide_eq_true_eq, Bool.not_eq_true', decide_eq_false_iff_not, bne_iff_ne, ne_eq, Bool.not_true, Bool.not_false, not_true_eq_false, List.length_map, List.length_cons, List.length_nil]); first | assumption | omega)) ?_
    | refine iff'' (by first | (simp only [decide_eq_false_iff_not, Bool.not_eq_false', decide_eq_true_eq, bne_eq_false_iff_eq, Bool.not_true, Bool.not_false, not_true_eq_false, List.length_map, List.length_cons, List.length_nil]; done) | ((try simp only [decide_eq_false_iff_not, Bool.not_eq_false', decide_eq_true_eq, bne_eq_false_iff_eq, Bool.not_true, Bool.not_false, not_true_eq_false, List.length_map, List.length_cons, List.length_nil]); first | assumption | omega)) ?_
    | refine ift' (by decide +kernel) ?_
    | refine iff'' (by decide +kernel) ?_)
  | `(tactic| row_cond q0) => `(tactic| first
    | ((with_reducible refine gE ?_); row_cond qE)
    | (with_reducible refine wLoc_s ?_)
    | (with_reducible refine wLoc_z rfl ?_)
    | (with_reducible refine wLoc_v (by assumption) ?_)
    | ((with_reducible refine gR ?_); first | (refine w_ok (by row_cond qo) ?_) | ((with_reducible apply w_pk); (focus row_cond qk)))
    | ((with_reducible refine gP ?_); (refine w_okp (by row_cond qp) ?_))
    | (with_reducible refine w_acons ?_)
    | (with_reducible refine w_anil ?_)
    | ((with_reducible refine gS ?_); row_cond qS)
    | (with_reducible refine wTg_nm ?_)
    | (with_reducible refine wSet_s ?_)
    | (with_reducible refine wSet_z ?_)
    | (with_reducible refine w_nil ?_)
    | ((with_reducible refine gT ?_); row_cond qT)
    | ((with_reducible refine gIf ?_); row_cond qF)
    | ((with_reducible refine gL ?_); row_cond qL)
    | ((with_reducible refine gI ?_); row_cond qI)
    | (with_reducible refine and_bl ?_)
    | (with_reducible refine not_bl ?_)
    | (with_reducible refine wTg_2 ?_)
    | (with_reducible refine wTg_q ?_)
    | (with_reducible refine wTg_3 ?_)
    | (with_reducible refine wTg_5 ?_)
    | (with_reducible refine wWp_cons ?_)
    | (with_reducible refine wWp_nil ?_)
    | (with_reducible refine st_cons ?_)
    | (with_reducible refine st_pad ?_)
    | (with_reducible refine st_z ?_)
    | ((with_reducible apply o_fst); (focus row_cond qg); (focus rfl); (focus (simp only [List.length_cons, List.length_nil]; omega)); (focus row_cond qu))
    | ((with_reducible apply o_mth); (focus row_cond qg); (focus rfl); (focus rfl)))
  | `(tactic| row_cond q1) => `(tactic| first
    | row_cond q0
    | (with_reducible refine w_cons ?_))
  | `(tactic| row_cond qq) => `(tactic| repeat row_cond q1)
  | `(tactic| row_cond qs) => `(tactic| ((with_reducible refine w_cons ?_); repeat row_cond q0))
  | `(tactic| row_cond pk) => `(tactic| first
    | refine peekR ?_ ?_
    | refine peekP ?_ ?_
    | refine peekE ?_ ?_
    | refine peekS ?_ ?_
    | refine peekC ?_ ?_
    | refine peekL ?_ ?_
    | refine peekI ?_ ?_)
/-! ### is_integer -/
theorem is_integer_ok {n : Nat} (hn : 1 ≤ n) {k : Nat} {d : D} {S : Sto} (h : Val S k d) : (W T n).fn "is_integer" [d] S = .ok (.bl (isInt d)) S := by
  refine W_fn_eq (w_fn tab_is_integer hn fun m hm => ?_)
  unfold code_is_integer
  row_cond qq
  cases h with
  | int h => row_cond qq; exact ⟨rfl, rfl⟩
  | bl b => row_cond qq; exact ⟨rfl, rfl⟩
  | _ => row_cond qq; exact ⟨rfl, rfl⟩
/-! ### _law_cell, as it stands -/
theorem cell_ok {n : Nat} (hn : 1 ≤ n) {ns : List Int} {S : Sto} (hs : Scr ns S) (k : Nat) : ∃ c, (W T n).fn "_law_cell" [.ref 0, .int k] S = .ok (.int c) S ∧ lt2 c 1048576 := by
  refine w_exI (w_fn tab__law_cell hn fun m hm => ?_)
  unfold code__law_cell
  have h0 := hs.at0
  row_cond qq
  refine ifd (fun h => ?_) fun h => ?_
  · row_cond qq
    rw [List.length_map] at h
    have hk : k < ns.length := by omega
    refine w_ok (o_idxr h0 rfl (d := .int ns[k]) (by simp [hk])) ?_
    row_cond qq
    exact ⟨_, rfl, rfl, hs.sz _ (List.getElem_mem hk)⟩
  · row_cond qq
    exact ⟨0, rfl, rfl, lt2_mono (lt2_lit (by decide)) (by decide)⟩
theorem cell_at {n : Nat} (hn : 1 ≤ n) {ns : List Int} {S : Sto} (hs : Scr ns S) (k : Nat) : (W T n).fn "_law_cell" [.ref 0, .int k] S = .ok (.int (ns.getD k 0)) S := by
  refine W_fn_eq (w_fn tab__law_cell hn fun m hm => ?_)
  unfold code__law_cell
  have h0 := hs.at0
  row_cond qq
  refine ifd (fun h => ?_) fun h => ?_
  · row_cond qq
    rw [List.length_map] at h
    have hk : k < ns.length := by omega
    refine w_ok (o_idxr h0 rfl (d := .int ns[k]) (by simp [hk])) ?_
    row_cond qq
    exact ⟨by rw [List.getD_eq_getElem?_getD, List.getElem?_eq_getElem hk]; rfl, rfl⟩
  · row_cond qq
    rw [List.length_map] at h
    exact ⟨by rw [List.getD_eq_getElem?_getD, List.getElem?_eq_none (by omega)]; rfl, rfl⟩
theorem cell_lt {ns : List Int} {S : Sto} (hs : Scr ns S) (k : Nat) : lt2 (ns.getD k 0) 1048576 := by
  rw [List.getD_eq_getElem?_getD]
  by_cases hk : k < ns.length
  · rw [List.getElem?_eq_getElem hk]
    exact hs.sz _ (List.getElem_mem hk)
  · rw [List.getElem?_eq_none (by omega)]
    exact lt2_mono (lt2_lit (by decide)) (by decide)
/-! ### a stream of drawn numbers: an object of the store that is changed at each draw -/
def hid (p : Nat) (S : Sto) : Sto := S.set p (.rng 0 0 1)
abbrev Chg (p : Nat) (S S' : Sto) : Prop := Ext (hid p S) (hid p S')
structure Stm (p : Nat) (S : Sto) : Prop where
  ex : ∃ a b : Int, S[p]? = some (.lst true [.int a, .int b]) ∧ lt2 a 1048577 ∧ lt2 b 1048577
theorem Stm.lt {p : Nat} {S : Sto} (h : Stm p S) : p < S.length := by
  obtain ⟨a, b, h, _⟩ := h.ex
  exact (List.getElem?_eq_some_iff.mp h).1
theorem Stm.app {p : Nat} {S : Sto} (h : Stm p S) (J : Sto) : Stm p (S ++ J) := by
  obtain ⟨a, b, h, h2⟩ := h.ex
  exact ⟨a, b, o_old h, h2⟩
theorem Stm.ext {p : Nat} {S S' : Sto} (h : Stm p S) (x : Ext S S') : Stm p S' := by
  obtain ⟨J, rfl⟩ := x
  exact h.app J
theorem Stm.set {p i : Nat} {S : Sto} (h : Stm p S) (hi : p < i) (o : Ob) : Stm p (S.set i o) := by
  obtain ⟨a, b, h, h2⟩ := h.ex
  exact ⟨a, b, o_setne h (by omega), h2⟩
theorem hid_len (p : Nat) (S : Sto) : (hid p S).length = S.length := List.length_set
theorem hid_app {p : Nat} {S : Sto} (h : p < S.length) (J : Sto) : hid p (S ++ J) = hid p S ++ J := List.set_append_left _ _ h
theorem hid_set (p : Nat) (S : Sto) (o : Ob) : hid p (S.set p o) = hid p S := by unfold hid; rw [List.set_set]
theorem hid_ne {p i : Nat} (S : Sto) (o : Ob) (h : p ≠ i) : hid p (S.set i o) = (hid p S).set i o := by unfold hid; rw [List.set_comm _ _ h]
theorem hid_of {p i : Nat} {S : Sto} {o : Ob} (h : S[i]? = some o) (hi : p ≠ i) : (hid p S)[i]? = some o := by unfold hid; rw [List.getElem?_set_ne hi, h]
theorem hid_get {p i : Nat} {S : Sto} {mu : Bool} {ds : List D} (h : (hid p S)[i]? = some (.lst mu ds)) : S[i]? = some (.lst mu ds) := by
  by_cases e : p = i
  · subst e
    unfold hid at h
    have hl : p < S.length := by have := (List.getElem?_eq_some_iff.mp h).1; rwa [List.length_set] at this
    rw [List.getElem?_set_self hl] at h
    cases h
  · unfold hid at h
    rwa [List.getElem?_set_ne e] at h
theorem Chg.refl {p : Nat} {S : Sto} : Chg p S S := Ext.refl
theorem Chg.trans {p : Nat} {S S' S'' : Sto} (h : Chg p S S') (k : Chg p S' S'') : Chg p S S'' := Ext.trans h k
theorem Chg.of {p : Nat} {S S' : Sto} (h : p < S.length) (x : Ext S S') : Chg p S S' := by
  obtain ⟨J, rfl⟩ := x
  unfold Chg
  rw [hid_app h]
  exact ⟨J, rfl⟩
theorem Chg.app {p : Nat} {S S' : Sto} (h : Chg p S S') (hs : Stm p S') (J : Sto) : Chg p S (S' ++ J) := Chg.trans h (Chg.of hs.lt ⟨J, rfl⟩)
theorem Chg.len {p : Nat} {S S' : Sto} (h : Chg p S S') : S.length ≤ S'.length := by
  have := Ext.le h
  rwa [hid_len, hid_len] at this
theorem Chg.get {p i : Nat} {S S' : Sto} {mu : Bool} {ds : List D} (h : Chg p S S') (e : S[i]? = some (.lst mu ds)) (hi : p ≠ i) : S'[i]? = some (.lst mu ds) := hid_get (Ext.get h (hid_of e hi))
theorem Chg.get2 {p i : Nat} {S S' : Sto} {o : Ob} (h : Chg p S S') (e : S[i]? = some o) (hi : p ≠ i) : S'[i]? = some o := by
  have := Ext.get h (hid_of e hi)
  unfold hid at this
  rwa [List.getElem?_set_ne hi] at this
theorem Chg.set {p i : Nat} {S S' : Sto} (h : Chg p S S') (hi : S.length ≤ i) (hp : p < S.length) (o : Ob) : Chg p S (S'.set i o) := by
  unfold Chg
  rw [hid_ne _ _ (by omega)]
  exact Ext.set h (by rw [hid_len]; exact hi)
theorem Chg.new {p : Nat} {S : Sto} {o : Ob} (h : p < S.length) {S' : Sto} {mu : Bool} {ds : List D} (ho : o = .lst mu ds) (x : Chg p (S ++ [o]) S') : S'[S.length]? = some (.lst mu ds) := x.get (by rw [ho]; exact o_new) (by omega)
theorem scr_chg {ns : List Int} {p : Nat} {S S' : Sto} (h : Scr ns S) (hp : p ≠ 0) (x : Chg p S S') : Scr ns S' := ⟨x.get h.at0 hp, h.len, h.sz⟩
theorem Chg.pre {p : Nat} {B S S' : Sto} (h : Chg p S S') (x : Ext B S) (hp : B.length ≤ p) : Ext B S' := by
  obtain ⟨J, rfl⟩ := x
  obtain ⟨K, e⟩ := h
  unfold hid at e
  refine ⟨S'.drop B.length, ?_⟩
  have e2 : S'.take B.length = B := by
    have := congrArg (List.take B.length) e
    rw [List.set_append_right _ _ hp, List.append_assoc, List.take_left', ] at this
    · rw [List.take_set_of_le hp] at this
      exact this
    · rfl
  have := List.take_append_drop B.length S'
  rw [e2] at this
  exact this.symm
theorem stream_ok {n : Nat} (hn : 1 ≤ n) {c : Int} (hc : lt2 c 1048577) {S : Sto} {Q : D → Sto → Prop} {E : XE} (hq : ∀ S', Stm S.length S' → Ext S S' → Q (.ref S.length) S') : wR ((W T n).fn "_law_stream" [.int c] S) Q E := by
  refine w_fn tab__law_stream hn fun m hm => ?_
  unfold code__law_stream
  row_cond qq
  refine ifd (fun h => ?_) fun h => ?_
  · row_cond qq
    exact hq _ ⟨_, _, o_new, hc, lt2_mono (lt2_lit (by decide)) (by decide)⟩ (by row_cond qx)
  · row_cond qq
    exact hq _ ⟨_, _, o_new, lt2_mono (lt2_lit (by decide)) (by decide), hc⟩ (by row_cond qx)
theorem take_ok {n : Nat} (hn : 1 ≤ n) {p : Nat} {S : Sto} (hs : Stm p S) {many : Int} (h1 : 0 < many) (h2 : lt2 many 8000) {Q : D → Sto → Prop} {E : XE} (hq : ∀ v S', 0 ≤ v → v < many → Stm p S' → Chg p S S' → Q (.int v) S') : wR ((W T n).fn "_law_take" [.ref p, .int many] S) Q E := by
  refine w_fn tab__law_take hn fun m hm => ?_
  unfold code__law_take
  obtain ⟨a, b, hS, la, lb⟩ := hs.ex
  have hm0 : many ≠ 0 := by omega
  row_cond qq
  refine w_ok (o_idxr hS (n := 0) rfl (d := .int a) rfl) ?_
  row_cond qq
  refine ifd (fun ha => ?_) fun ha => ?_
  · row_cond qq
    refine w_ok (o_idxr hS (n := 0) rfl (d := .int a) rfl) ?_
    row_cond qq
    refine w_ok (o_idxr hS (n := 0) rfl (d := .int a) rfl) ?_
    have hd : divOk a many = true := div_ok h2 (by decide) hm0
    row_cond qq
    refine w_some (o_setD hS (i := 0) rfl (by simp)) ?_
    row_cond qq
    have ea : a % many = a % many := rfl
    refine hq _ _ (Int.emod_nonneg _ hm0) (Int.emod_lt_of_pos _ h1) ⟨a / many, b, o_setget hS, lt2_ediv la, lb⟩ ?_
    unfold Chg
    rw [hid_set]
    exact Ext.refl
  · row_cond qq
    refine w_ok (o_idxr hS (n := 1) rfl (d := .int b) rfl) ?_
    have hmul : mulOk b 48271 = true := mul_ok lb (show lt2 48271 70 by decide) (by decide)
    row_cond qq
    refine w_some (o_setD hS (i := 1) rfl (by simp)) ?_
    have hS2 : (S.set p (.lst true ([D.int a, .int b].set 1 (.int ((b * 48271 + 69621) % 2147483647)))))[p]? = some (.lst true [.int a, .int ((b * 48271 + 69621) % 2147483647)]) := o_setget hS
    have c0 := Int.emod_nonneg (b * 48271 + 69621) (show (2147483647 : Int) ≠ 0 by decide)
    have c1 := Int.emod_lt_of_pos (b * 48271 + 69621) (show (0 : Int) < 2147483647 by decide)
    generalize (b * 48271 + 69621) % 2147483647 = c at hS2 c0 c1 ⊢
    have lc : lt2 c 31 := by unfold lt2; omega
    have hmul2 : mulOk c c = true := mul_ok lc lc (by decide)
    row_cond qq
    refine w_ok (o_idxr hS2 (n := 1) rfl (d := .int c) rfl) ?_
    row_cond qq
    refine w_ok (o_idxr hS2 (n := 1) rfl (d := .int c) rfl) ?_
    row_cond qq
    refine w_ok (o_idxr hS2 (n := 1) rfl (d := .int c) rfl) ?_
    row_cond qq
    refine hq _ _ (Int.emod_nonneg _ hm0) (Int.emod_lt_of_pos _ h1) ⟨a, c, hS2, la, lt2_mono lc (by decide)⟩ ?_
    unfold Chg
    rw [hid_set]
    exact Ext.refl
/-! ### comprehensions that draw -/
theorem w_lcT {β : Type} {F : Wd} {σ : Sl} {S : Sto} {t : Tg} {n : Int} {ow : List Nat} {e : Ex} {Q : List D → Sto → Prop} {E : XE} {p : Nat} (f : β → D) (P : β → Prop) (hl : n ≤ 1000000) (h : Stm p S)
    (hs : wWp σ ow fun σ0 => ∀ i : Nat, (i : Int) < n → ∀ S1, Stm p S1 → Chg p S S1 → wTg t (.int i) σ0 fun σ' => wE F e σ' S1 (fun y S2 => ∃ b, y = f b ∧ Stm p S2 ∧ Chg p S1 S2 ∧ P b) noE)
    (hq : ∀ (bs : List β) (S1 : Sto), Stm p S1 → Chg p S S1 → bs.length = n.toNat → (∀ b ∈ bs, P b) → Q (bs.map f) S1) : wLc F [] ow t (.con (.bl true)) e σ ((List.range n.toNat).map fun i => D.int (Int.ofNat i)) S Q E := by
  refine w_lcE (fun k ys S' => ∃ (bs : List β), ys = bs.map f ∧ Stm p S' ∧ Chg p S S' ∧ bs.length = k ∧ ∀ b ∈ bs, P b) ⟨[], rfl, h, Chg.refl, rfl, fun _ z => nomatch z⟩ (fun k hk ys S' i => ?_) fun ys S' i => ?_
  · obtain ⟨bs, rfl, hx, hc, hlen, hP⟩ := i
    have hk' : k < n.toNat := by simpa using hk
    obtain ⟨σ', h1, h2⟩ := wTg_iff.mp (wWp_iff.mp hs k (by omega) S' hx hc)
    refine wWp_iff.mpr (wTg_iff.mpr ⟨σ', by rw [List.getElem_map, List.getElem_range]; exact h1, ?_⟩)
    show wT F _ σ' S' _ noE
    rw [wT_iff]
    show wE F e σ' S' _ noE
    rw [wE_iff] at h2 ⊢
    refine R.wp_mono h2 (fun y S2 h => ?_) fun _ _ _ => id
    obtain ⟨b, rfl, hx2, hc2, hb⟩ := h
    refine ⟨stands_nil _, bs ++ [b], by simp, hx2, Chg.trans hc hc2, by simp [hlen], fun z hz => ?_⟩
    rcases List.mem_append.mp hz with hz | hz
    · exact hP z hz
    · rw [List.mem_singleton.mp hz]; exact hb
  · obtain ⟨bs, rfl, hx, hc, hlen, hP⟩ := i
    rw [List.length_map, List.length_range] at hlen
    refine ⟨?_, hq bs S' hx hc hlen hP⟩
    rw [List.length_map, hlen]
    show n.toNat ≤ 1000000
    omega
/-! ### code: numbers that fit, instructions, runs -/
def half (w : Int) : Int := 2 ^ (w - 1).toNat
theorem half_pos (w : Int) : 0 < half w := Int.pow_pos (by decide)
theorem half_lt {w : Int} (h : w ≤ 200) : lt2 (half w) 201 := by
  unfold lt2 half
  rw [Int.natAbs_pow]
  show 2 ^ (w - 1).toNat < 2 ^ 201
  exact Nat.pow_lt_pow_right (by decide) (by omega)
theorem o_shl1 {j : Int} (h : 0 ≤ j ∧ j ≤ 1000000) (S : Sto) : binD .shl (.int 1) (.int j) S = .ok (.int (2 ^ j.toNat)) S := by
  unfold binD
  simp only
  rw [if_pos ⟨h.1, h.2, by decide⟩, Int.one_mul]
inductive Ins where
  | load (r i : Nat)
  | set (r : Nat) (v : Int)
  | times (r s : Nat) (v : Int)
  | add (r s : Nat)
  | bend (r : Nat)
  | give (r : Nat)
def Ins.d : Ins → D
  | .load r i => .tup [.str "load", .int r, .int i]
  | .set r v => .tup [.str "set", .int r, .int v]
  | .times r s v => .tup [.str "times", .int r, .int s, .int v]
  | .add r s => .tup [.str "add", .int r, .int s]
  | .bend r => .tup [.str "bend", .int r]
  | .give r => .tup [.str "give", .int r]
def fit (w v : Int) : Prop := -half w ≤ v ∧ v < half w
instance (w v : Int) : Decidable (fit w v) := by unfold fit; infer_instance
theorem fit.lt {w v : Int} (h : fit w v) (hw : w ≤ 200) : lt2 v 201 := by
  have := half_lt hw
  unfold fit at h
  unfold lt2 at *
  omega
def Ins.ok (w : Int) (ni nr : Nat) : Ins → Prop
  | .load r i => r < nr ∧ i < ni
  | .set r v => r < nr ∧ fit w v
  | .times r s v => r < nr ∧ s < nr ∧ fit w v
  | .add r s => r < nr ∧ s < nr
  | .bend r => r < nr
  | .give r => r < nr
def codeO (w ni nr d : D) : Ob := .ins "Code" [("width", w), ("inputs", ni), ("registers", nr), ("instructions", d)]
theorem two_ok {n : Nat} (hn : 1 ≤ n) {j : Int} (h : 0 ≤ j ∧ j ≤ 1000000) (S : Sto) : (W T n).fn "power_of_two" [.int j] S = .ok (.int (2 ^ j.toNat)) S := by
  refine W_fn_eq (w_fn tab_power_of_two hn fun m hm => ?_)
  unfold code_power_of_two
  row_cond qq
  refine w_ok (o_shl1 h _) ?_
  exact ⟨rfl, rfl⟩
theorem fits_ok {n : Nat} (hn : 2 ≤ n) {w v : Int} (hw : 1 ≤ w ∧ w ≤ 200) (S : Sto) : (W T n).fn "fits" [.int w, .int v] S = .ok (.bl (decide (fit w v))) S := by
  refine W_fn_eq (w_fn tab_fits (Nat.le_trans (by decide) hn) fun m hm => ?_)
  unfold code_fits
  row_cond qq
  refine w_ok (two_ok (by omega) (by omega) _) ?_
  row_cond qq
  refine ifd (fun h1 => ?_) fun h1 => ?_
  · row_cond qq
    refine ⟨?_, rfl⟩
    congr 1
    rw [decide_eq_decide]
    exact ⟨fun h => ⟨h1, h⟩, fun h => h.2⟩
  · row_cond qq
    refine ⟨?_, rfl⟩
    rw [decide_eq_false fun h => h1 h.1]
def ixB (d : D) (c : Int) : Bool := match d with
  | .int i => decide (0 ≤ i ∧ i < c)
  | _ => false
def fitB (d : D) (w : Int) : Bool := match d with
  | .int i => decide (fit w i)
  | _ => false
theorem is_index_ok {n : Nat} (hn : 2 ≤ n) {k : Nat} {d : D} {c : Int} {S : Sto} (h : Val S k d) : (W T n).fn "is_index" [d, .int c] S = .ok (.bl (ixB d c)) S := by
  refine W_fn_eq (w_fn tab_is_index (Nat.le_trans (by decide) hn) fun m hm => ?_)
  unfold code_is_index
  row_cond qq
  refine w_ok (is_integer_ok (by omega) h) ?_
  cases h with
  | @int k i hi =>
    row_cond qq
    refine ifd (fun h1 => ?_) fun h1 => ?_
    · row_cond qq
      refine ⟨?_, rfl⟩
      show D.bl (decide (i < c)) = D.bl (decide (0 ≤ i ∧ i < c))
      congr 1
      rw [decide_eq_decide]
      exact ⟨fun h => ⟨h1, h⟩, fun h => h.2⟩
    · row_cond qq
      refine ⟨?_, rfl⟩
      show _ = D.bl (decide (0 ≤ i ∧ i < c))
      rw [decide_eq_false fun h => h1 h.1]
  | _ => row_cond qq; exact ⟨rfl, rfl⟩
/-- is it an instruction -/
inductive Op where
  | load | set | times | add | bend | give | none
def opOf (z : Str) : Op := if lEqB z.cps.toList ("load" : Str).cps.toList = true then .load else if lEqB z.cps.toList ("set" : Str).cps.toList = true then .set else if lEqB z.cps.toList ("times" : Str).cps.toList = true then .times
  else if lEqB z.cps.toList ("add" : Str).cps.toList = true then .add else if lEqB z.cps.toList ("bend" : Str).cps.toList = true then .bend else if lEqB z.cps.toList ("give" : Str).cps.toList = true then .give else .none
def insA (w ni nr : Int) (a : D) : Op → List D → Bool
  | .load, [b] => ixB a nr && ixB b ni
  | .set, [b] => ixB a nr && fitB b w
  | .times, [b, c] => ixB a nr && (ixB b nr && fitB c w)
  | .add, [b] => ixB a nr && ixB b nr
  | .bend, [] => ixB a nr
  | .give, [] => ixB a nr
  | _, _ => false
def insB (w ni nr : Int) : D → Bool
  | .tup (.str z :: a :: rest) => insA w ni nr a (opOf z) rest
  | _ => false
theorem insB_eq {w ni nr : Int} {z : Str} {a : D} {rest : List D} : insB w ni nr (.tup (.str z :: a :: rest)) = insA w ni nr a (opOf z) rest := rfl
theorem op_cases (z : Str) : (z = "load" ∧ opOf z = .load) ∨ (z = "set" ∧ opOf z = .set) ∨ (z = "times" ∧ opOf z = .times) ∨ (z = "add" ∧ opOf z = .add) ∨ (z = "bend" ∧ opOf z = .bend) ∨ (z = "give" ∧ opOf z = .give) ∨
    (opOf z = .none ∧ z ≠ "load" ∧ z ≠ "set" ∧ z ≠ "times" ∧ z ≠ "add" ∧ z ≠ "bend" ∧ z ≠ "give") := by
  have e : ∀ {x y : Str}, lEqB x.cps.toList y.cps.toList = true ↔ x = y := fun {x y} => by rw [lEqB_eq]; exact sEq_iff
  unfold opOf
  simp only [e]
  by_cases h1 : z = "load"
  · exact .inl ⟨h1, if_pos h1⟩
  by_cases h2 : z = "set"
  · exact .inr (.inl ⟨h2, by rw [if_neg h1, if_pos h2]⟩)
  by_cases h3 : z = "times"
  · exact .inr (.inr (.inl ⟨h3, by rw [if_neg h1, if_neg h2, if_pos h3]⟩))
  by_cases h4 : z = "add"
  · exact .inr (.inr (.inr (.inl ⟨h4, by rw [if_neg h1, if_neg h2, if_neg h3, if_pos h4]⟩)))
  by_cases h5 : z = "bend"
  · exact .inr (.inr (.inr (.inr (.inl ⟨h5, by rw [if_neg h1, if_neg h2, if_neg h3, if_neg h4, if_pos h5]⟩))))
  by_cases h6 : z = "give"
  · exact .inr (.inr (.inr (.inr (.inr (.inl ⟨h6, by rw [if_neg h1, if_neg h2, if_neg h3, if_neg h4, if_neg h5, if_pos h6]⟩)))))
  exact .inr (.inr (.inr (.inr (.inr (.inr ⟨by rw [if_neg h1, if_neg h2, if_neg h3, if_neg h4, if_neg h5, if_neg h6], h1, h2, h3, h4, h5, h6⟩)))))
abbrev sizesK : List (Str × D) := [("load", .int 3), ("set", .int 3), ("times", .int 4), ("add", .int 3), ("bend", .int 2), ("give", .int 2)]
theorem lk_none {z : Str} (h1 : z ≠ "load") (h2 : z ≠ "set") (h3 : z ≠ "times") (h4 : z ≠ "add") (h5 : z ≠ "bend") (h6 : z ≠ "give") : lkS z sizesK = .non := by
  have e : ∀ {x y : Str}, lEqB x.cps.toList y.cps.toList = true ↔ x = y := fun {x y} => by rw [lEqB_eq]; exact sEq_iff
  unfold sizesK
  simp only [lkS, e, h1, h2, h3, h4, h5, h6, if_false]
theorem o_dgt {z : Str} {S : Sto} : dgtD sizesK (.str z) S = .ok (lkS z sizesK) S := rfl
theorem o_neNI {i : Int} (S : Sto) : cmpD .ne .non (.int i) S = .ok (.bl true) S := rfl
def opLen : Op → Nat
  | .load => 1
  | .set => 1
  | .times => 2
  | .add => 1
  | .bend => 0
  | .give => 0
  | .none => 0
theorem insB_len {w ni nr : Int} {z : Str} {a : D} {rest : List D} (h : rest.length ≠ opLen (opOf z)) : insB w ni nr (.tup (.str z :: a :: rest)) = false := by
  show insA w ni nr a (opOf z) rest = false
  generalize opOf z = o at h ⊢
  cases o <;> (match rest, h with
    | [], h => first | rfl | exact absurd rfl h
    | [_], h => first | rfl | exact absurd rfl h
    | [_, _], h => first | rfl | exact absurd rfl h
    | _ :: _ :: _ :: _, _ => rfl)
theorem insB_none {w ni nr : Int} {z : Str} {a : D} {rest : List D} (h : opOf z = .none) : insB w ni nr (.tup (.str z :: a :: rest)) = false := by
  show insA w ni nr a (opOf z) rest = false
  rw [h]; cases rest <;> rfl
theorem len1 {α : Type} {l : List α} (h : l.length = 1) : ∃ b, l = [b] := by
  match l, h with
  | [b], _ => exact ⟨b, rfl⟩
theorem len2 {α : Type} {l : List α} (h : l.length = 2) : ∃ b c, l = [b, c] := by
  match l, h with
  | [b, c], _ => exact ⟨b, c, rfl⟩
theorem is_integer_B {n : Nat} (hn : 1 ≤ n) {k : Nat} {d : D} {S : Sto} (h : Val S k d) : (W T n).fn "is_integer" [d] S = .ok (.bl (isInt d)) S := is_integer_ok hn h
theorem is_ins_ok {n : Nat} (hn : 3 ≤ n) {k q : Nat} {w ni nr : Int} {y d : D} {S : Sto} (hw : 1 ≤ w ∧ w ≤ 200) (hc : S[q]? = some (codeO (.int w) (.int ni) (.int nr) y)) (h : Val S k d) : (W T n).fn "is_instruction" [.ref q, d] S = .ok (.bl (insB w ni nr d)) S := by
  refine W_fn_eq (w_fn tab_is_instruction (Nat.le_trans (by decide) hn) fun m hm => ?_)
  unfold code_is_instruction
  unfold codeO at hc
  have hx := v_isX h
  row_cond qq
  cases h with
  | @tup k ds hm hl =>
    match ds, hm, hl with
    | [], _, _ => row_cond qq; exact ⟨rfl, rfl⟩
    | [x], _, _ => row_cond qq; refine ⟨?_, rfl⟩; cases x <;> rfl
    | x :: a :: rest, hm, hl =>
      have vx := hm x (by simp)
      have va := hm a (by simp)
      have hlen : ¬ (((x :: a :: rest).length : Int) < 2) := by simp only [List.length_cons]; omega
      row_cond qq
      have nstr : (∀ z, x ≠ .str z) → insB w ni nr (.tup (x :: a :: rest)) = false := fun hz => by
        cases x <;> first | rfl | exact absurd rfl (hz _)
      cases vx with
      | @str k z hz1 hz2 =>
        row_cond qq
        refine w_ok o_dgt ?_
        have hd0 : ∀ S', idxD (D.tup (D.str z :: a :: rest)) (.int 0) S' = .ok (.str z) S' := fun S' => idx_tup0 S' _ _
        have hd1 : ∀ S', idxD (D.tup (D.str z :: a :: rest)) (.int 1) S' = .ok a S' := fun S' => idx_tup1 S' _ _ _
        have l1 : ((D.str z :: a :: rest).length : Int) = ((rest.length + 2 : Nat) : Int) := rfl
        rcases op_cases z with ⟨rfl, ho⟩ | ⟨rfl, ho⟩ | ⟨rfl, ho⟩ | ⟨rfl, ho⟩ | ⟨rfl, ho⟩ | ⟨rfl, ho⟩ | ⟨ho, h1, h2, h3, h4, h5, h6⟩
        · rw [show lkS "load" sizesK = .int 3 from by kernel_rfl]
          row_cond qq
          refine ifnd (fun hl => ?_) fun hl => ?_
          · row_cond qq
            refine ⟨?_, rfl⟩
            rw [insB_len (by rw [ho]; show rest.length ≠ 1; simp only [List.length_cons] at hl; omega)]
          · have hr : rest.length = 1 := by simp only [List.length_cons] at hl; omega
            obtain ⟨b, rfl⟩ := len1 hr
            have vb := hm b (by simp)
            have e : insB w ni nr (.tup [.str "load", a, b]) = (ixB a nr && ixB b ni) := by rw [insB_eq, ho]; rfl
            rw [e]
            row_cond qq
            refine w_ok (is_index_ok (by omega) va) ?_
            cases ha : ixB a nr with
            | false => row_cond qq; exact ⟨rfl, rfl⟩
            | true =>
              row_cond qq
              refine w_ok (is_index_ok (by omega) vb) ?_
              row_cond qq
              exact ⟨rfl, rfl⟩
        · rw [show lkS "set" sizesK = .int 3 from by kernel_rfl]
          row_cond qq
          refine ifnd (fun hl => ?_) fun hl => ?_
          · row_cond qq
            refine ⟨?_, rfl⟩
            rw [insB_len (by rw [ho]; show rest.length ≠ 1; simp only [List.length_cons] at hl; omega)]
          · have hr : rest.length = 1 := by simp only [List.length_cons] at hl; omega
            obtain ⟨b, rfl⟩ := len1 hr
            have vb := hm b (by simp)
            have e : insB w ni nr (.tup [.str "set", a, b]) = (ixB a nr && fitB b w) := by rw [insB_eq, ho]; rfl
            rw [e]
            row_cond qq
            refine w_ok (is_index_ok (by omega) va) ?_
            cases ha : ixB a nr with
            | false => row_cond qq; exact ⟨rfl, rfl⟩
            | true =>
              row_cond qq
              refine w_ok (is_integer_ok (by omega) vb) ?_
              cases vb with
              | @int k' i hi =>
                row_cond qq
                refine w_ok (fits_ok (by omega) hw _) ?_
                row_cond qq
                exact ⟨rfl, rfl⟩
              | _ => row_cond qq; exact ⟨rfl, rfl⟩
        · rw [show lkS "times" sizesK = .int 4 from by kernel_rfl]
          row_cond qq
          refine ifnd (fun hl => ?_) fun hl => ?_
          · row_cond qq
            refine ⟨?_, rfl⟩
            rw [insB_len (by rw [ho]; show rest.length ≠ 2; simp only [List.length_cons] at hl; omega)]
          · have hr : rest.length = 2 := by simp only [List.length_cons] at hl; omega
            obtain ⟨b, c, rfl⟩ := len2 hr
            have vb := hm b (by simp)
            have vc := hm c (by simp)
            have e : insB w ni nr (.tup [.str "times", a, b, c]) = (ixB a nr && (ixB b nr && fitB c w)) := by rw [insB_eq, ho]; rfl
            rw [e]
            row_cond qq
            refine w_ok (is_index_ok (by omega) va) ?_
            cases ha : ixB a nr with
            | false => row_cond qq; exact ⟨rfl, rfl⟩
            | true =>
              row_cond qq
              refine w_ok (is_index_ok (by omega) vb) ?_
              cases hb : ixB b nr with
              | false => row_cond qq; exact ⟨rfl, rfl⟩
              | true =>
                row_cond qq
                refine w_ok (is_integer_ok (by omega) vc) ?_
                cases vc with
                | @int k' i hi =>
                  row_cond qq
                  refine w_ok (fits_ok (by omega) hw _) ?_
                  row_cond qq
                  exact ⟨rfl, rfl⟩
                | _ => row_cond qq; exact ⟨rfl, rfl⟩
        · rw [show lkS "add" sizesK = .int 3 from by kernel_rfl]
          row_cond qq
          refine ifnd (fun hl => ?_) fun hl => ?_
          · row_cond qq
            refine ⟨?_, rfl⟩
            rw [insB_len (by rw [ho]; show rest.length ≠ 1; simp only [List.length_cons] at hl; omega)]
          · have hr : rest.length = 1 := by simp only [List.length_cons] at hl; omega
            obtain ⟨b, rfl⟩ := len1 hr
            have vb := hm b (by simp)
            have e : insB w ni nr (.tup [.str "add", a, b]) = (ixB a nr && ixB b nr) := by rw [insB_eq, ho]; rfl
            rw [e]
            row_cond qq
            refine w_ok (is_index_ok (by omega) va) ?_
            cases ha : ixB a nr with
            | false => row_cond qq; exact ⟨rfl, rfl⟩
            | true =>
              row_cond qq
              refine w_ok (is_index_ok (by omega) vb) ?_
              row_cond qq
              exact ⟨rfl, rfl⟩
        · rw [show lkS "bend" sizesK = .int 2 from by kernel_rfl]
          row_cond qq
          refine ifnd (fun hl => ?_) fun hl => ?_
          · row_cond qq
            refine ⟨?_, rfl⟩
            rw [insB_len (by rw [ho]; show rest.length ≠ 0; simp only [List.length_cons] at hl; omega)]
          · have hr : rest.length = 0 := by simp only [List.length_cons] at hl; omega
            have hr : rest = [] := List.eq_nil_of_length_eq_zero hr
            subst hr
            have e : insB w ni nr (.tup [.str "bend", a]) = ixB a nr := by rw [insB_eq, ho]; rfl
            rw [e]
            row_cond qq
            refine w_ok (is_index_ok (by omega) va) ?_
            cases ha : ixB a nr with
            | false => row_cond qq; exact ⟨rfl, rfl⟩
            | true =>
              row_cond qq
              exact ⟨rfl, rfl⟩
        · rw [show lkS "give" sizesK = .int 2 from by kernel_rfl]
          row_cond qq
          refine ifnd (fun hl => ?_) fun hl => ?_
          · row_cond qq
            refine ⟨?_, rfl⟩
            rw [insB_len (by rw [ho]; show rest.length ≠ 0; simp only [List.length_cons] at hl; omega)]
          · have hr : rest.length = 0 := by simp only [List.length_cons] at hl; omega
            have hr : rest = [] := List.eq_nil_of_length_eq_zero hr
            subst hr
            have e : insB w ni nr (.tup [.str "give", a]) = ixB a nr := by rw [insB_eq, ho]; rfl
            rw [e]
            row_cond qq
            refine w_ok (is_index_ok (by omega) va) ?_
            cases ha : ixB a nr with
            | false => row_cond qq; exact ⟨rfl, rfl⟩
            | true =>
              row_cond qq
              exact ⟨rfl, rfl⟩
        · rw [lk_none h1 h2 h3 h4 h5 h6]
          row_cond qq
          refine w_ok (o_neNI _) ?_
          row_cond qq
          refine ⟨?_, rfl⟩
          rw [insB_none ho]
      | _ => row_cond qq; refine ⟨?_, rfl⟩; rw [nstr fun z h => nomatch h]
  | _ => row_cond qq; exact ⟨rfl, rfl⟩
end Kl
set_option Elab.async false
set_option linter.all false
set_option maxRecDepth 100000
set_option maxHeartbeats 4000000
set_option autoImplicit false
set_option exponentiation.threshold 200000
namespace Kl
open PySem PySem.Spec PyProof.Rows L2 Kq
local macro_rules
  | `(tactic| row_cond qb) => `(tactic| first
    | with_reducible assumption
    | ((with_reducible apply lt2_lit); decide)
    | (with_reducible exact tenp_lt _)
    | ((with_reducible apply szQ.num); assumption)
    | ((with_reducible apply szQ.den); assumption)
    | ((with_reducible apply lt2_mul) <;> row_cond qb)
    | ((with_reducible apply lt2_add) <;> row_cond qb)
    | ((with_reducible apply lt2_sub) <;> row_cond qb)
    | ((with_reducible apply lt2_neg) <;> row_cond qb)
    | ((with_reducible apply lt2_abs) <;> row_cond qb)
    | ((with_reducible apply lt2_ediv) <;> row_cond qb))
  | `(tactic| row_cond qg) => `(tactic| first
    | assumption
    | exact o_new
    | exact o_mid
    | exact Ext.get (by assumption) (by assumption)
    | ((with_reducible refine o_old ?_); row_cond qg)
    | (refine Ext.get ?_ (by assumption); row_cond qx))
  | `(tactic| row_cond qx) => `(tactic| first
    | (with_reducible assumption)
    | (with_reducible exact Ext.refl)
    | ((with_reducible apply Ext.app); row_cond qx)
    | (with_reducible exact Ext.trans (by assumption) (by assumption))
    | ((with_reducible refine Ext.trans ?_ (by with_reducible assumption)); row_cond qx))
  | `(tactic| row_cond qm) => `(tactic| first
    | assumption
    | exact mul_ok (by row_cond qb) (by row_cond qb) (by first | omega | simp | decide))
  | `(tactic| row_cond qd) => `(tactic| first
    | assumption
    | exact div_ok (by row_cond qb) (by first | omega | decide) (by first | assumption | omega | exact den_ne _))
  | `(tactic| row_cond qo) => `(tactic| first
    | (with_reducible exact ev_add ..)
    | (with_reducible exact ev_sub ..)
    | ((with_reducible refine ev_mul ?_); row_cond qm)
    | ((with_reducible refine o_divP _ ?_ ?_) <;> first | omega | row_cond qd)
    | ((with_reducible refine o_modP _ ?_); omega)
    | ((with_reducible refine ev_fdiv ?_); row_cond qd)
    | ((with_reducible refine ev_mod ?_); first | assumption | omega | exact den_ne _)
    | (with_reducible exact ev_neg ..)
    | ((with_reducible refine o_pow10 _ ?_); decide)
    | (with_reducible exact o_q0 ..)
    | (with_reducible exact o_q1 ..)
    | (with_reducible exact idx_tup0 ..)
    | (with_reducible exact idx_tup1 ..)
    | (with_reducible exact idx_tup2 ..)
    | (with_reducible exact idx_tup3 ..)
    | (with_reducible exact idx_tup4 ..)
    | (with_reducible exact ev_eq ..)
    | (with_reducible exact ev_ne ..)
    | (with_reducible exact ev_lt ..)
    | (with_reducible exact ev_le ..)
    | (with_reducible exact ev_gt ..)
    | (with_reducible exact ev_ge ..)
    | (with_reducible exact o_eqb ..)
    | (with_reducible exact o_eqQ ..)
    | (with_reducible exact o_neQ ..)
    | (with_reducible exact o_eqV ..)
    | (with_reducible exact o_neV ..)
    | (with_reducible exact o_neb ..)
    | (with_reducible exact tru_bl ..)
    | (with_reducible exact tru_int ..)
    | (with_reducible exact tru_non ..)
    | (with_reducible exact bi_int ..)
    | (with_reducible exact o_intb ..)
    | (with_reducible exact bi_abs ..)
    | (with_reducible exact bi_gcd ..)
    | (with_reducible exact o_max ..)
    | (with_reducible exact o_min ..)
    | (with_reducible exact bi_len_tup ..)
    | ((with_reducible apply o_lenr); row_cond qg)
    | (with_reducible exact o_tt ..)
    | (with_reducible exact o_ii ..)
    | (with_reducible exact o_ib ..)
    | (with_reducible exact o_bb ..)
    | (with_reducible exact o_bi ..)
    | (with_reducible exact o_itemsT ..)
    | ((with_reducible apply o_items); row_cond qg)
    | (with_reducible exact tru_tup ..)
    | (with_reducible exact o_itemsV ..)
    | (with_reducible exact o_itemsM ..)
    | (with_reducible exact o_itemsQ ..)
    | ((with_reducible refine o_addQT _ ?_); simp only [List.length_cons, List.length_nil]; omega)
    | ((with_reducible apply o_addL) <;> first | row_cond qg | (simp only [List.length_cons, List.length_nil, List.length_map]; omega))
    | ((with_reducible refine o_addT0 ?_ _); first | omega | (simp only [List.length_cons, List.length_nil, List.length_map]; omega))
    | ((with_reducible refine o_addT ?_); (try simp only [List.length_cons, List.length_nil, List.length_map, List.length_append]); omega)
    | (with_reducible exact o_lenV ..)
    | (with_reducible exact o_lenM ..)
    | (with_reducible exact o_lenQ ..)
    | (with_reducible exact o_tV ..)
    | (with_reducible exact o_tM ..)
    | (with_reducible exact o_tQ ..)
    | (with_reducible exact o_slV ..)
    | (with_reducible exact o_slM ..)
    | ((with_reducible refine o_repM ?_); omega)
    | (with_reducible exact o_tupV ..)
    | (with_reducible exact o_tupM ..)
    | (with_reducible exact o_tupL ..)
    | (with_reducible exact o_lstL ..)
    | (with_reducible exact o_allL ..)
    | (with_reducible exact o_anyL ..)
    | ((with_reducible refine o_eqS ?_ ?_ _) <;> first | assumption | decide +kernel)
    | ((with_reducible refine o_neS ?_ ?_ _) <;> first | assumption | decide +kernel)
    | ((with_reducible refine o_addS0 ?_ _); first | assumption | decide +kernel)
    | ((with_reducible apply v_tup); assumption)
    | ((with_reducible apply v_str); assumption)
    | ((with_reducible apply v_int); assumption)
    | ((with_reducible apply v_bool); assumption)
    | ((with_reducible apply v_is); assumption)
    | ((with_reducible apply v_isn); assumption)
    | (with_reducible exact o_st ..)
    | (with_reducible exact o_sn ..)
    | (with_reducible exact o_tn ..)
    | (with_reducible exact o_sI ..)
    | (with_reducible exact o_tb ..)
    | (with_reducible exact o_sb ..)
    | (with_reducible exact o_ss ..)
    | (with_reducible exact o_ts ..)
    | (with_reducible exact o_isB ..)
    | (with_reducible exact o_isS ..)
    | (with_reducible exact o_isI ..)
    | (with_reducible exact o_isnI ..)
    | (with_reducible exact o_isN ..)
    | (with_reducible exact o_isnN ..)
    | (with_reducible exact o_isbb ..)
    | (with_reducible exact o_isnb0 ..)
    | (with_reducible exact o_isnnb0 ..)
    | (with_reducible exact o_isnbb ..)
    | (with_reducible exact o_isT ..)
    | (with_reducible exact o_isnT ..)
    | (with_reducible exact o_part0 ..)
    | (with_reducible exact o_part1 ..)
    | (with_reducible exact o_slT ..)
    | (with_reducible exact o_rev ..)
    | ((with_reducible apply o_revL); row_cond qg)
    | ((with_reducible apply o_fld); (focus row_cond qg); (focus rfl); row_cond qj)
    | ((with_reducible apply o_slr); row_cond qg)
    | ((with_reducible refine o_rep ?_); omega)
    | ((with_reducible refine o_lrg1 _ ?_); omega)
    | ((with_reducible refine o_trg1 _ ?_); omega)
    | ((with_reducible refine o_trg2 _ ?_); omega)
    | (with_reducible assumption)
    | ((with_reducible refine gFn ?_); assumption))
  | `(tactic| row_cond qp) => `(tactic| first
    | ((with_reducible refine o_rng ?_); omega)
    | ((with_reducible refine o_rng2 ?_); omega)
    | (with_reducible exact o_itV ..)
    | (with_reducible exact o_itM ..)
    | (with_reducible exact o_zipV ..)
    | (with_reducible exact o_zipVM ..)
    | (with_reducible exact o_itT ..)
    | ((with_reducible apply o_it); row_cond qg)
    | (with_reducible exact o_zip ..)
    | (with_reducible exact o_zip3 ..)
    | (with_reducible exact o_enmT ..)
    | ((with_reducible apply o_enm); row_cond qg)
    | (with_reducible assumption))
  | `(tactic| row_cond qj) => `(tactic| first
    | exact FlR.hit
    | (apply FlR.miss; (focus rfl); row_cond qj))
  | `(tactic| row_cond qu) => `(tactic| first
    | exact PuR.hit
    | exact PuR.nil
    | (apply PuR.miss; (focus rfl); row_cond qu))
  | `(tactic| row_cond qn) => `(tactic| first
    | exact NthR.z
    | (apply NthR.s; row_cond qn))
  | `(tactic| row_cond qk) => `(tactic| first
    | exact PkR.nil
    | (apply PkR.cons; (focus row_cond qn); row_cond qk))
  | `(tactic| row_cond qE) => `(tactic| first
    | refine w_loc ?_
    | (with_reducible refine w_con0 ?_)
    | (with_reducible refine w_con1 ?_)
    | (with_reducible refine w_conh ?_)
    | refine w_con ?_
    | refine w_bin ?_
    | refine w_cmp ?_
    | refine w_idx ?_
    | refine w_call ?_
    | refine w_bi ?_
    | (with_reducible refine w_tup0 ?_)
    | (with_reducible refine w_tup1 ?_)
    | (with_reducible refine w_tupm ?_)
    | refine w_tup ?_
    | refine w_lst ?_
    | refine w_isi ?_
    | refine w_neg ?_
    | refine w_nt ?_
    | refine w_ands ?_
    | refine w_ors ?_
    | refine w_ite ?_
    | refine w_chn ?_
    | refine w_sl ?_
    | refine w_bl ?_
    | refine w_lc ?_
    | refine w_bm ?_
    | refine w_cal ?_
    | refine w_eis ?_
    | refine w_efl ?_
    | refine w_fld ?_
    | refine w_mth ?_
    | refine w_mk ?_
    | refine w_lrg ?_
    | refine w_rep ?_
    | refine w_dgt ?_)
  | `(tactic| row_cond qT) => `(tactic| first
    | refine w_tnt ?_
    | refine w_tand ?_
    | refine w_tor ?_
    | refine w_tite ?_
    | refine w_tof rfl ?_
    | refine w_tlst ?_)
  | `(tactic| row_cond qS) => `(tactic| first
    | refine w_asg ?_
    | refine w_if ?_
    | refine w_ret ?_
    | refine w_ex ?_
    | refine w_for ?_
    | refine w_pass ?_
    | refine w_cont ?_
    | refine w_brk ?_
    | refine w_retN ?_
    | refine w_rse ?_
    | refine w_try ?_
    | refine w_par ?_
    | refine w_sub ?_
    | refine w_fst ?_
    | refine w_aug rfl ?_)
  | `(tactic| row_cond qL) => `(tactic| first
    | refine w_llst ?_
    | refine w_llc ?_
    | refine w_lite ?_
    | refine w_lof rfl ?_)
  | `(tactic| row_cond qI) => `(tactic| first
    | refine w_iex ?_
    | refine w_itmp ?_
    | refine w_irng ?_
    | refine w_izip ?_
    | refine w_izip3 ?_
    | refine w_ienm ?_)
  | `(tactic| row_cond qF) => `(tactic| first
    | refine ift ?_
    | refine iff' ?_
    | refine ift' (decide_eq_true (by first | assumption | omega)) ?_
    | refine iff'' (decide_eq_false (by first | assumption | omega)) ?_
    | refine ift' (by first | (simp only [decide_eq_true_eq, Bool.not_eq_true', decide_eq_false_iff_not, bne_iff_ne, ne_eq, Bool.not_true, Bool.not_false, not_true_eq_false, List.length_map, List.length_cons, List.length_nil]; done) | ((try simp only [decide_eq_true_eq, Bool.not_eq_true', decide_eq_false_iff_not, bne_iff_ne, ne_eq, Bool.not_true, Bool.not_false, not_true_eq_false, List.length_map, List.length_cons, List.length_nil]); first | assumption | omega)) ?_
    | refine iff'' (by first | (simp only [decide_eq_false_iff_not, Bool.not_eq_false', decide_eq_true_eq, bne_eq_false_iff_eq, Bool.not_true, Bool.not_false, not_true_eq_false, List.length_map, List.length_cons, List.length_nil]; done) | ((try simp only [decide_eq_false_iff_not, Bool.not_eq_false', decide_eq_true_eq, bne_eq_false_iff_eq, Bool.not_true, Bool.not_false, not_true_eq_false, List.length_map, List.length_cons, List.length_nil]); first | assumption | omega)) ?_
    | refine ift' (by decide +kernel) ?_
    | refine iff'' (by decide +kernel) ?_)
  | `(tactic| row_cond q0) => `(tactic| first
    | ((with_reducible refine gE ?_); row_cond qE)
    | (with_reducible refine wLoc_s ?_)
    | (with_reducible refine wLoc_z rfl ?_)
    | (with_reducible refine wLoc_v (by assumption) ?_)
    | ((with_reducible refine gR ?_); first | (refine w_ok (by row_cond qo) ?_) | ((with_reducible apply w_pk); (focus row_cond qk)))
    | ((with_reducible refine gP ?_); (refine w_okp (by row_cond qp) ?_))
    | (with_reducible refine w_acons ?_)
    | (with_reducible refine w_anil ?_)
    | ((with_reducible refine gS ?_); row_cond qS)
    | (with_reducible refine wTg_nm ?_)
    | (with_reducible refine wSet_s ?_)
    | (with_reducible refine wSet_z ?_)
    | (with_reducible refine w_nil ?_)
    | ((with_reducible refine gT ?_); row_cond qT)
    | ((with_reducible refine gIf ?_); row_cond qF)
    | ((with_reducible refine gL ?_); row_cond qL)
    | ((with_reducible refine gI ?_); row_cond qI)
    | (with_reducible refine and_bl ?_)
    | (with_reducible refine not_bl ?_)
    | (with_reducible refine wTg_2 ?_)
    | (with_reducible refine wTg_q ?_)
    | (with_reducible refine wTg_3 ?_)
    | (with_reducible refine wTg_5 ?_)
    | (with_reducible refine wWp_cons ?_)
    | (with_reducible refine wWp_nil ?_)
    | (with_reducible refine st_cons ?_)
    | (with_reducible refine st_pad ?_)
    | (with_reducible refine st_z ?_)
    | ((with_reducible apply o_fst); (focus row_cond qg); (focus rfl); (focus (simp only [List.length_cons, List.length_nil]; omega)); (focus row_cond qu))
    | ((with_reducible apply o_mth); (focus row_cond qg); (focus rfl); (focus rfl)))
  | `(tactic| row_cond q1) => `(tactic| first
    | row_cond q0
    | (with_reducible refine w_cons ?_))
  | `(tactic| row_cond qq) => `(tactic| repeat row_cond q1)
  | `(tactic| row_cond qs) => `(tactic| ((with_reducible refine w_cons ?_); repeat row_cond q0))
  | `(tactic| row_cond pk) => `(tactic| first
    | refine peekR ?_ ?_
    | refine peekP ?_ ?_
    | refine peekE ?_ ?_
    | refine peekS ?_ ?_
    | refine peekC ?_ ?_
    | refine peekL ?_ ?_
    | refine peekI ?_ ?_)
/-! ### check_code, result_of, run_code -/
def numB (d : D) (lo hi : Int) : Bool := match d with
  | .int i => decide (lo ≤ i ∧ i ≤ hi)
  | _ => false
def tupB : D → Bool
  | .tup _ => true
  | _ => false
theorem numB_int {d : D} {lo hi : Int} (h : numB d lo hi = true) : ∃ i, d = .int i ∧ lo ≤ i ∧ i ≤ hi := by
  cases d with
  | int i => exact ⟨i, rfl, of_decide_eq_true h⟩
  | _ => cases h
theorem check_code_w {n : Nat} (hn : 4 ≤ n) {k q : Nat} {w ni nr d : D} {S : Sto} (hc : S[q]? = some (codeO w ni nr d)) (vw : Val S k w) (vi : Val S k ni) (vr : Val S k nr) (vd : Val S (k + 1) d) {Q : D → Sto → Prop} {E : XE}
    (he1 : (numB w 2 200 && (numB ni 1 10000 && numB nr 1 10000) && tupB d) = false → E "BadCode" [.int (-1)] S)
    (he2 : ∀ w' ni' nr' ds, w = .int w' → ni = .int ni' → nr = .int nr' → d = .tup ds → numB w 2 200 = true → numB ni 1 10000 = true → numB nr 1 10000 = true → ∀ j (hj : j < ds.length), insB w' ni' nr' ds[j] = false → (∀ i (hi : i < j), insB w' ni' nr' ds[i] = true) → E "BadCode" [.int j] S)
    (hq : ∀ w' ni' nr' ds, w = .int w' → ni = .int ni' → nr = .int nr' → d = .tup ds → numB w 2 200 = true → numB ni 1 10000 = true → numB nr 1 10000 = true → (∀ x ∈ ds, insB w' ni' nr' x = true) → Q .non S) : wR ((W T n).fn "check_code" [.ref q] S) Q E := by
  refine w_fn tab_check_code (Nat.le_trans (by decide) hn) fun m hm => ?_
  unfold code_check_code
  unfold codeO at hc
  have hxw := v_isX vw
  have hxi := v_isX vi
  have hxr := v_isX vr
  have hxd := v_isX vd
  have bad : ∀ {lo hi : Int} {a : D}, numB a lo hi = false → ∀ i : Int, a = .int i → i < lo ∨ hi < i := fun {lo hi a} h i e => by
    subst e
    have := of_decide_eq_false h
    omega
  row_cond qq
  refine w_ok (is_integer_ok (by omega) vw) ?_
  cases hw : numB w 2 200 with
  | false =>
    have e1 := he1 (by rw [hw]; rfl)
    cases vw with
    | @int k i hi =>
      have := bad hw i rfl
      row_cond qq
      refine ifd (fun _ => ?_) fun h1 => ?_
      · row_cond qq; exact e1
      · row_cond qq
        exact e1
    | _ => row_cond qq; exact e1
  | true =>
    obtain ⟨w', rfl, w1, w2⟩ := numB_int hw
    row_cond qq
    refine w_forC ?_
    row_cond qq
    refine w_ok (is_integer_ok (by omega) vi) ?_
    cases hi : numB ni 1 10000 with
    | false =>
      have e1 := he1 (by rw [hw, hi]; rfl)
      cases vi with
      | @int k i hi' =>
        have := bad hi i rfl
        row_cond qq
        refine ifd (fun _ => ?_) fun h1 => ?_
        · row_cond qq; exact e1
        · row_cond qq
          exact e1
      | _ => row_cond qq; exact e1
    | true =>
      obtain ⟨ni', rfl, i1, i2⟩ := numB_int hi
      row_cond qq
      refine w_forC ?_
      row_cond qq
      refine w_ok (is_integer_ok (by omega) vr) ?_
      cases hr : numB nr 1 10000 with
      | false =>
        have e1 := he1 (by rw [hw, hi, hr]; rfl)
        cases vr with
        | @int k i hi' =>
          have := bad hr i rfl
          row_cond qq
          refine ifd (fun _ => ?_) fun h1 => ?_
          · row_cond qq; exact e1
          · row_cond qq
            exact e1
        | _ => row_cond qq; exact e1
      | true =>
        obtain ⟨nr', rfl, r1, r2⟩ := numB_int hr
        row_cond qq
        refine w_forN ?_
        row_cond qq
        cases vd with
        | @tup k' ds hm hl =>
          row_cond qq
          have hv : ∀ x ∈ ds, Val S k x := hm
          have ez : ds = ds.map id := by simp
          rw [show (ds.zipIdx.map fun p : D × Nat => D.tup [.int (Int.ofNat p.2), p.1]) = ((ds.map id).zipIdx.map fun p => D.tup [.int (Int.ofNat p.2), p.1]) from by rw [← ez]]
          refine w_forE (p := id) ds (fun j σ S' => ∃ (z2 z3 : Option D), σ = [some (.ref q), some (.int nr'), z2, z3] ∧ S' = S ∧ ∀ i (hi : i < j) (hj : j ≤ ds.length), insB w' ni' nr' ds[i] = true) ⟨_, _, rfl, rfl, fun i hi => absurd hi (by omega)⟩ ?_ ?_
          · rintro j hj _ _ ⟨z2, z3, rfl, rfl, hall⟩
            have vx := hv _ (List.getElem_mem hj)
            have hxx := v_isX vx
            simp only [id]
            row_cond qq
            refine w_ok (is_ins_ok (n := m) (w := w') (ni := ni') (nr := nr') (by omega) (by omega) (by unfold codeO; exact hc) vx) ?_
            cases hb : insB w' ni' nr' ds[j] with
            | false =>
              row_cond qq
              exact he2 w' ni' nr' ds rfl rfl rfl rfl hw hi hr j hj hb fun i hi2 => hall i hi2 (by omega)
            | true =>
              row_cond qq
              refine ⟨_, _, rfl, rfl, fun i hi2 hj2 => ?_⟩
              rcases Nat.lt_or_eq_of_le (Nat.le_of_lt_succ hi2) with h | h
              · exact hall i h (by omega)
              · subst h; exact hb
          · rintro _ _ ⟨z2, z3, rfl, rfl, hall⟩
            row_cond qq
            refine hq w' ni' nr' ds rfl rfl rfl rfl hw hi hr fun x hx => ?_
            obtain ⟨i, hi2, rfl⟩ := List.mem_iff_getElem.mp hx
            exact hall i hi2 (Nat.le_refl _)
        | _ => row_cond qq; exact he1 (by rw [hw, hi, hr]; rfl)
end Kl
set_option Elab.async false
set_option linter.all false
set_option maxRecDepth 100000
set_option maxHeartbeats 4000000
set_option autoImplicit false
set_option exponentiation.threshold 200000
namespace Kl
open PySem PySem.Spec PyProof.Rows L2 Kq
local macro_rules
  | `(tactic| row_cond qb) => `(tactic| first
    | with_reducible assumption
    | ((with_reducible apply lt2_lit); decide)
    | (with_reducible exact tenp_lt _)
    | ((with_reducible apply szQ.num); assumption)
    | ((with_reducible apply szQ.den); assumption)
    | ((with_reducible apply lt2_mul) <;> row_cond qb)
    | ((with_reducible apply lt2_add) <;> row_cond qb)
    | ((with_reducible apply lt2_sub) <;> row_cond qb)
    | ((with_reducible apply lt2_neg) <;> row_cond qb)
    | ((with_reducible apply lt2_abs) <;> row_cond qb)
    | ((with_reducible apply lt2_ediv) <;> row_cond qb))
  | `(tactic| row_cond qg) => `(tactic| first
    | assumption
    | exact o_new
    | exact o_mid
    | exact Ext.get (by assumption) (by assumption)
    | ((with_reducible refine o_old ?_); row_cond qg)
    | (refine Ext.get ?_ (by assumption); row_cond qx))
  | `(tactic| row_cond qx) => `(tactic| first
    | (with_reducible assumption)
    | (with_reducible exact Ext.refl)
    | ((with_reducible apply Ext.app); row_cond qx)
    | (with_reducible exact Ext.trans (by assumption) (by assumption))
    | ((with_reducible refine Ext.trans ?_ (by with_reducible assumption)); row_cond qx))
  | `(tactic| row_cond qm) => `(tactic| first
    | assumption
    | exact mul_ok (by row_cond qb) (by row_cond qb) (by first | omega | simp | decide))
  | `(tactic| row_cond qd) => `(tactic| first
    | assumption
    | exact div_ok (by row_cond qb) (by first | omega | decide) (by first | assumption | omega | exact den_ne _))
  | `(tactic| row_cond qo) => `(tactic| first
    | (with_reducible exact ev_add ..)
    | (with_reducible exact ev_sub ..)
    | ((with_reducible refine ev_mul ?_); row_cond qm)
    | ((with_reducible refine o_divP _ ?_ ?_) <;> first | omega | row_cond qd)
    | ((with_reducible refine o_modP _ ?_); omega)
    | ((with_reducible refine ev_fdiv ?_); row_cond qd)
    | ((with_reducible refine ev_mod ?_); first | assumption | omega | exact den_ne _)
    | (with_reducible exact ev_neg ..)
    | ((with_reducible refine o_pow10 _ ?_); decide)
    | (with_reducible exact o_q0 ..)
    | (with_reducible exact o_q1 ..)
    | (with_reducible exact idx_tup0 ..)
    | (with_reducible exact idx_tup1 ..)
    | (with_reducible exact idx_tup2 ..)
    | (with_reducible exact idx_tup3 ..)
    | (with_reducible exact idx_tup4 ..)
    | (with_reducible exact ev_eq ..)
    | (with_reducible exact ev_ne ..)
    | (with_reducible exact ev_lt ..)
    | (with_reducible exact ev_le ..)
    | (with_reducible exact ev_gt ..)
    | (with_reducible exact ev_ge ..)
    | (with_reducible exact o_eqb ..)
    | (with_reducible exact o_eqQ ..)
    | (with_reducible exact o_neQ ..)
    | (with_reducible exact o_eqV ..)
    | (with_reducible exact o_neV ..)
    | (with_reducible exact o_neb ..)
    | (with_reducible exact tru_bl ..)
    | (with_reducible exact tru_int ..)
    | (with_reducible exact tru_non ..)
    | (with_reducible exact bi_int ..)
    | (with_reducible exact o_intb ..)
    | (with_reducible exact bi_abs ..)
    | (with_reducible exact bi_gcd ..)
    | (with_reducible exact o_max ..)
    | (with_reducible exact o_min ..)
    | (with_reducible exact bi_len_tup ..)
    | ((with_reducible apply o_lenr); row_cond qg)
    | (with_reducible exact o_tt ..)
    | (with_reducible exact o_ii ..)
    | (with_reducible exact o_ib ..)
    | (with_reducible exact o_bb ..)
    | (with_reducible exact o_bi ..)
    | (with_reducible exact o_itemsT ..)
    | ((with_reducible apply o_items); row_cond qg)
    | (with_reducible exact tru_tup ..)
    | (with_reducible exact o_itemsV ..)
    | (with_reducible exact o_itemsM ..)
    | (with_reducible exact o_itemsQ ..)
    | ((with_reducible refine o_addQT _ ?_); simp only [List.length_cons, List.length_nil]; omega)
    | ((with_reducible apply o_addL) <;> first | row_cond qg | (simp only [List.length_cons, List.length_nil, List.length_map]; omega))
    | ((with_reducible refine o_addT0 ?_ _); first | omega | (simp only [List.length_cons, List.length_nil, List.length_map]; omega))
    | ((with_reducible refine o_addT ?_); (try simp only [List.length_cons, List.length_nil, List.length_map, List.length_append]); omega)
    | (with_reducible exact o_lenV ..)
    | (with_reducible exact o_lenM ..)
    | (with_reducible exact o_lenQ ..)
    | (with_reducible exact o_tV ..)
    | (with_reducible exact o_tM ..)
    | (with_reducible exact o_tQ ..)
    | (with_reducible exact o_slV ..)
    | (with_reducible exact o_slM ..)
    | ((with_reducible refine o_repM ?_); omega)
    | (with_reducible exact o_tupV ..)
    | (with_reducible exact o_tupM ..)
    | (with_reducible exact o_tupL ..)
    | (with_reducible exact o_lstL ..)
    | (with_reducible exact o_allL ..)
    | (with_reducible exact o_anyL ..)
    | ((with_reducible refine o_eqS ?_ ?_ _) <;> first | assumption | decide +kernel)
    | ((with_reducible refine o_neS ?_ ?_ _) <;> first | assumption | decide +kernel)
    | ((with_reducible refine o_addS0 ?_ _); first | assumption | decide +kernel)
    | ((with_reducible apply v_tup); assumption)
    | ((with_reducible apply v_str); assumption)
    | ((with_reducible apply v_int); assumption)
    | ((with_reducible apply v_bool); assumption)
    | ((with_reducible apply v_is); assumption)
    | ((with_reducible apply v_isn); assumption)
    | (with_reducible exact o_st ..)
    | (with_reducible exact o_sn ..)
    | (with_reducible exact o_tn ..)
    | (with_reducible exact o_sI ..)
    | (with_reducible exact o_tb ..)
    | (with_reducible exact o_sb ..)
    | (with_reducible exact o_ss ..)
    | (with_reducible exact o_ts ..)
    | (with_reducible exact o_isB ..)
    | (with_reducible exact o_isS ..)
    | (with_reducible exact o_isI ..)
    | (with_reducible exact o_isnI ..)
    | (with_reducible exact o_isN ..)
    | (with_reducible exact o_isnN ..)
    | (with_reducible exact o_isbb ..)
    | (with_reducible exact o_isnb0 ..)
    | (with_reducible exact o_isnnb0 ..)
    | (with_reducible exact o_isnbb ..)
    | (with_reducible exact o_isT ..)
    | (with_reducible exact o_isnT ..)
    | (with_reducible exact o_part0 ..)
    | (with_reducible exact o_part1 ..)
    | (with_reducible exact o_slT ..)
    | (with_reducible exact o_rev ..)
    | ((with_reducible apply o_revL); row_cond qg)
    | ((with_reducible apply o_fld); (focus row_cond qg); (focus rfl); row_cond qj)
    | ((with_reducible apply o_slr); row_cond qg)
    | ((with_reducible refine o_rep ?_); omega)
    | ((with_reducible refine o_lrg1 _ ?_); omega)
    | ((with_reducible refine o_trg1 _ ?_); omega)
    | ((with_reducible refine o_trg2 _ ?_); omega)
    | (with_reducible assumption)
    | ((with_reducible refine gFn ?_); assumption))
  | `(tactic| row_cond qp) => `(tactic| first
    | ((with_reducible refine o_rng ?_); omega)
    | ((with_reducible refine o_rng2 ?_); omega)
    | (with_reducible exact o_itV ..)
    | (with_reducible exact o_itM ..)
    | (with_reducible exact o_zipV ..)
    | (with_reducible exact o_zipVM ..)
    | (with_reducible exact o_itT ..)
    | ((with_reducible apply o_it); row_cond qg)
    | (with_reducible exact o_zip ..)
    | (with_reducible exact o_zip3 ..)
    | (with_reducible exact o_enmT ..)
    | ((with_reducible apply o_enm); row_cond qg)
    | (with_reducible assumption))
  | `(tactic| row_cond qj) => `(tactic| first
    | exact FlR.hit
    | (apply FlR.miss; (focus rfl); row_cond qj))
  | `(tactic| row_cond qu) => `(tactic| first
    | exact PuR.hit
    | exact PuR.nil
    | (apply PuR.miss; (focus rfl); row_cond qu))
  | `(tactic| row_cond qn) => `(tactic| first
    | exact NthR.z
    | (apply NthR.s; row_cond qn))
  | `(tactic| row_cond qk) => `(tactic| first
    | exact PkR.nil
    | (apply PkR.cons; (focus row_cond qn); row_cond qk))
  | `(tactic| row_cond qE) => `(tactic| first
    | refine w_loc ?_
    | (with_reducible refine w_con0 ?_)
    | (with_reducible refine w_con1 ?_)
    | (with_reducible refine w_conh ?_)
    | refine w_con ?_
    | refine w_bin ?_
    | refine w_cmp ?_
    | refine w_idx ?_
    | refine w_call ?_
    | refine w_bi ?_
    | (with_reducible refine w_tup0 ?_)
    | (with_reducible refine w_tup1 ?_)
    | (with_reducible refine w_tupm ?_)
    | refine w_tup ?_
    | refine w_lst ?_
    | refine w_isi ?_
    | refine w_neg ?_
    | refine w_nt ?_
    | refine w_ands ?_
    | refine w_ors ?_
    | refine w_ite ?_
    | refine w_chn ?_
    | refine w_sl ?_
    | refine w_bl ?_
    | refine w_lc ?_
    | refine w_bm ?_
    | refine w_cal ?_
    | refine w_eis ?_
    | refine w_efl ?_
    | refine w_fld ?_
    | refine w_mth ?_
    | refine w_mk ?_
    | refine w_lrg ?_
    | refine w_rep ?_
    | refine w_dgt ?_)
  | `(tactic| row_cond qT) => `(tactic| first
    | refine w_tnt ?_
    | refine w_tand ?_
    | refine w_tor ?_
    | refine w_tite ?_
    | refine w_tof rfl ?_
    | refine w_tlst ?_)
  | `(tactic| row_cond qS) => `(tactic| first
    | refine w_asg ?_
    | refine w_if ?_
    | refine w_ret ?_
    | refine w_ex ?_
    | refine w_for ?_
    | refine w_pass ?_
    | refine w_cont ?_
    | refine w_brk ?_
    | refine w_retN ?_
    | refine w_rse ?_
    | refine w_try ?_
    | refine w_par ?_
    | refine w_sub ?_
    | refine w_fst ?_
    | refine w_aug rfl ?_)
  | `(tactic| row_cond qL) => `(tactic| first
    | refine w_llst ?_
    | refine w_llc ?_
    | refine w_lite ?_
    | refine w_lof rfl ?_)
  | `(tactic| row_cond qI) => `(tactic| first
    | refine w_iex ?_
    | refine w_itmp ?_
    | refine w_irng ?_
    | refine w_izip ?_
    | refine w_izip3 ?_
    | refine w_ienm ?_)
  | `(tactic| row_cond qF) => `(tactic| first
    | refine ift ?_
    | refine iff' ?_
    | refine ift' (decide_eq_true (by first | assumption | omega)) ?_
    | refine iff'' (decide_eq_false (by first | assumption | omega)) ?_
    | refine ift' (by first | (simp only [decide_eq_true_eq, Bool.not_eq_true', decide_eq_false_iff_not, bne_iff_ne, ne_eq, Bool.not_true, Bool.not_false, not_true_eq_false, List.length_map, List.length_cons, List.length_nil]; done) | ((try simp only [decide_eq_true_eq, Bool.not_eq_true', decide_eq_false_iff_not, bne_iff_ne, ne_eq, Bool.not_true, Bool.not_false, not_true_eq_false, List.length_map, List.length_cons, List.length_nil]); first | assumption | omega)) ?_
    | refine iff'' (by first | (simp only [decide_eq_false_iff_not, Bool.not_eq_false', decide_eq_true_eq, bne_eq_false_iff_eq, Bool.not_true, Bool.not_false, not_true_eq_false, List.length_map, List.length_cons, List.length_nil]; done) | ((try simp only [decide_eq_false_iff_not, Bool.not_eq_false', decide_eq_true_eq, bne_eq_false_iff_eq, Bool.not_true, Bool.not_false, not_true_eq_false, List.length_map, List.length_cons, List.length_nil]); first | assumption | omega)) ?_
    | refine ift' (by decide +kernel) ?_
    | refine iff'' (by decide +kernel) ?_)
  | `(tactic| row_cond q0) => `(tactic| first
    | ((with_reducible refine gE ?_); row_cond qE)
    | (with_reducible refine wLoc_s ?_)
    | (with_reducible refine wLoc_z rfl ?_)
    | (with_reducible refine wLoc_v (by assumption) ?_)
    | ((with_reducible refine gR ?_); first | (refine w_ok (by row_cond qo) ?_) | ((with_reducible apply w_pk); (focus row_cond qk)))
    | ((with_reducible refine gP ?_); (refine w_okp (by row_cond qp) ?_))
    | (with_reducible refine w_acons ?_)
    | (with_reducible refine w_anil ?_)
    | ((with_reducible refine gS ?_); row_cond qS)
    | (with_reducible refine wTg_nm ?_)
    | (with_reducible refine wSet_s ?_)
    | (with_reducible refine wSet_z ?_)
    | (with_reducible refine w_nil ?_)
    | ((with_reducible refine gT ?_); row_cond qT)
    | ((with_reducible refine gIf ?_); row_cond qF)
    | ((with_reducible refine gL ?_); row_cond qL)
    | ((with_reducible refine gI ?_); row_cond qI)
    | (with_reducible refine and_bl ?_)
    | (with_reducible refine not_bl ?_)
    | (with_reducible refine wTg_2 ?_)
    | (with_reducible refine wTg_q ?_)
    | (with_reducible refine wTg_3 ?_)
    | (with_reducible refine wTg_5 ?_)
    | (with_reducible refine wWp_cons ?_)
    | (with_reducible refine wWp_nil ?_)
    | (with_reducible refine st_cons ?_)
    | (with_reducible refine st_pad ?_)
    | (with_reducible refine st_z ?_)
    | ((with_reducible apply o_fst); (focus row_cond qg); (focus rfl); (focus (simp only [List.length_cons, List.length_nil]; omega)); (focus row_cond qu))
    | ((with_reducible apply o_mth); (focus row_cond qg); (focus rfl); (focus rfl)))
  | `(tactic| row_cond q1) => `(tactic| first
    | row_cond q0
    | (with_reducible refine w_cons ?_))
  | `(tactic| row_cond qq) => `(tactic| repeat row_cond q1)
  | `(tactic| row_cond qs) => `(tactic| ((with_reducible refine w_cons ?_); repeat row_cond q0))
  | `(tactic| row_cond pk) => `(tactic| first
    | refine peekR ?_ ?_
    | refine peekP ?_ ?_
    | refine peekE ?_ ?_
    | refine peekS ?_ ?_
    | refine peekC ?_ ?_
    | refine peekL ?_ ?_
    | refine peekI ?_ ?_)
/-! ### drawn widths, integers, rows, inputs -/
theorem width_w {n : Nat} (hn : 2 ≤ n) {p : Nat} {S : Sto} (hs : Stm p S) {Q : D → Sto → Prop} {E : XE} (hq : ∀ w S', 2 ≤ w → w ≤ 200 → Stm p S' → Chg p S S' → Q (.int w) S') : wR ((W T n).fn "_law_width" [.ref p] S) Q E := by
  refine w_fn tab__law_width (Nat.le_trans (by decide) hn) fun m hm => ?_
  unfold code__law_width
  row_cond qq
  refine take_ok (by omega) hs (by decide) (lt2_mono (lt2_lit (by decide)) (by decide)) fun a S1 a0 a1 hs1 x1 => ?_
  row_cond qq
  refine take_ok (by omega) hs1 (by decide) (lt2_mono (lt2_lit (by decide)) (by decide)) fun b S2 b0 b1 hs2 x2 => ?_
  row_cond qq
  refine take_ok (by omega) hs2 (by decide) (lt2_mono (lt2_lit (by decide)) (by decide)) fun c S3 c0 c1 hs3 x3 => ?_
  row_cond qq
  refine take_ok (by omega) (hs3.app _) (by decide) (lt2_mono (lt2_lit (by decide)) (by decide)) fun d S4 d0 d1 hs4 x4 => ?_
  row_cond qq
  refine w_pick (x4.new hs3.lt rfl) d0 (by simpa using d1) fun e he => ?_
  have x5 : Chg p S S4 := ((x1.trans x2).trans x3).trans ((Chg.of hs3.lt (S' := S3 ++ _) ⟨_, rfl⟩).trans x4)
  simp only [List.mem_cons, List.not_mem_nil, or_false] at he
  rcases he with rfl | rfl | rfl | rfl
  · exact hq _ _ (by omega) (by omega) hs4 x5
  · exact hq _ _ (by omega) (by omega) hs4 x5
  · exact hq _ _ (by omega) (by omega) hs4 x5
  · exact hq _ _ (by decide) (by decide) hs4 x5
theorem integer_w {n : Nat} (hn : 2 ≤ n) {p : Nat} {w : Int} (hw : 2 ≤ w ∧ w ≤ 200) {S : Sto} (hs : Stm p S) {Q : D → Sto → Prop} {E : XE} (hq : ∀ v S', fit w v → Stm p S' → Chg p S S' → Q (.int v) S') : wR ((W T n).fn "_law_integer" [.ref p, .int w] S) Q E := by
  refine w_fn tab__law_integer (Nat.le_trans (by decide) hn) fun m hm => ?_
  unfold code__law_integer
  have hw0 : 0 ≤ w - 1 ∧ w - 1 ≤ 1000000 := by omega
  have hl := half_lt hw.2
  have hp := half_pos w
  unfold half at hl hp
  row_cond qq
  refine w_ok (o_shl1 hw0 _) ?_
  have efit : ∀ v, fit w v ↔ (-(2 ^ (w - 1).toNat) ≤ v ∧ v < 2 ^ (w - 1).toNat) := fun v => Iff.rfl
  generalize (2 : Int) ^ (w - 1).toNat = hf at hl hp efit ⊢
  row_cond qq
  refine take_ok (by omega) hs (by decide) (lt2_mono (lt2_lit (by decide)) (by decide)) fun a S1 a0 a1 hs1 x1 => ?_
  have hmul : mulOk 2 hf = true := mul_ok (show lt2 2 10 by decide) hl (by decide)
  row_cond qq
  refine take_ok (by omega) hs1 (by omega) (lt2_mono (lt2_mul (show lt2 2 10 by decide) hl) (by decide)) fun b S2 b0 b1 hs2 x2 => ?_
  row_cond qq
  refine take_ok (by omega) hs2 (by decide) (lt2_mono (lt2_lit (by decide)) (by decide)) fun c S3 c0 c1 hs3 x3 => ?_
  row_cond qq
  refine take_ok (by omega) (hs3.app _) (by decide) (lt2_mono (lt2_lit (by decide)) (by decide)) fun d S4 d0 d1 hs4 x4 => ?_
  row_cond qq
  refine w_pick (x4.new hs3.lt rfl) d0 (by simpa using d1) fun e he => ?_
  have x5 : Chg p S S4 := ((x1.trans x2).trans x3).trans ((Chg.of hs3.lt (S' := S3 ++ _) ⟨_, rfl⟩).trans x4)
  have fin : ∀ v : Int, Q (.int (max (-hf) (min (hf - 1) v))) S4 := fun v => hq _ _ ((efit _).mpr (by omega)) hs4 x5
  simp only [List.mem_cons, List.not_mem_nil, or_false] at he
  rcases he with rfl | rfl | rfl | rfl | rfl | rfl <;> (row_cond qq; exact fin _)
theorem row_w {n : Nat} (hn : 3 ≤ n) {p : Nat} {w : Int} {ni nr : Nat} (hw : 2 ≤ w ∧ w ≤ 200) (hi : 1 ≤ ni ∧ ni ≤ 10) (hr : 1 ≤ nr ∧ nr ≤ 10) {S : Sto} (hs : Stm p S) {Q : D → Sto → Prop} {E : XE} (hq : ∀ (y : Ins) S', y.ok w ni nr → Stm p S' → Chg p S S' → Q y.d S') : wR ((W T n).fn "_law_row" [.ref p, .int w, .int ni, .int nr] S) Q E := by
  refine w_fn tab__law_row (Nat.le_trans (by decide) hn) fun m hm => ?_
  unfold code__law_row
  have li : lt2 (ni : Int) 8000 := lt2_mono (show lt2 (ni : Int) 10 by unfold lt2; omega) (by decide)
  have lr : lt2 (nr : Int) 8000 := lt2_mono (show lt2 (nr : Int) 10 by unfold lt2; omega) (by decide)
  row_cond qq
  refine take_ok (by omega) hs (by decide) (lt2_mono (lt2_lit (by decide)) (by decide)) fun k S1 k0 k1 hs1 x1 => ?_
  row_cond qq
  refine take_ok (by omega) hs1 (by omega) lr fun a S2 a0 a1 hs2 x2 => ?_
  row_cond qq
  refine take_ok (by omega) hs2 (by omega) lr fun b S3 b0 b1 hs3 x3 => ?_
  have x4 := (x1.trans x2).trans x3
  obtain ⟨a, rfl⟩ := Int.eq_ofNat_of_zero_le a0
  obtain ⟨b, rfl⟩ := Int.eq_ofNat_of_zero_le b0
  row_cond qq
  refine ifd (fun h => ?_) fun h => ?_
  · row_cond qq
    refine take_ok (by omega) hs3 (by omega) li fun c S4 c0 c1 hs4 x5 => ?_
    obtain ⟨c, rfl⟩ := Int.eq_ofNat_of_zero_le c0
    row_cond qq
    exact hq (.load a c) _ ⟨by omega, by omega⟩ hs4 (x4.trans x5)
  row_cond qq
  refine ifd (fun h2 => ?_) fun h2 => ?_
  · row_cond qq
    refine integer_w (by omega) hw hs3 fun v S4 hv hs4 x5 => ?_
    row_cond qq
    exact hq (.set a v) _ ⟨by omega, hv⟩ hs4 (x4.trans x5)
  row_cond qq
  refine ifd (fun h3 => ?_) fun h3 => ?_
  · row_cond qq
    refine integer_w (by omega) hw hs3 fun v S4 hv hs4 x5 => ?_
    row_cond qq
    exact hq (.times a b v) _ ⟨by omega, by omega, hv⟩ hs4 (x4.trans x5)
  row_cond qq
  refine ifd (fun h4 => ?_) fun h4 => ?_
  · row_cond qq
    exact hq (.add a b) _ ⟨by omega, by omega⟩ hs3 x4
  · row_cond qq
    refine w_pick o_new (by omega) (by simp; omega) fun e he => ?_
    simp only [List.mem_cons, List.not_mem_nil, or_false] at he
    rcases he with rfl | rfl
    · exact hq (.bend a) _ (by show a < nr; omega) (hs3.app _) (x4.app hs3 _)
    · exact hq (.give a) _ (by show a < nr; omega) (hs3.app _) (x4.app hs3 _)
theorem bs_map {α β : Type} {xs : List α} {bs : List β} {q : α → β} (h : bs.length = xs.length) (hP : ∀ i (h1 : i < xs.length) (h2 : i < bs.length), bs[i] = q xs[i]) : bs = xs.map q := by
  apply List.ext_getElem
  · rw [h, List.length_map]
  · intro i h1 h2
    rw [List.getElem_map]
    exact hP i (by omega) h1
theorem o_zipFV (f : List Bool) (v : List Rat) (S : Sto) : zipD (.tup (f.map .bl)) (dV v) S = .ok ([], (f.zip v).map fun p => .tup [.bl p.1, dQ p.2]) S := by
  unfold dV
  rw [o_zip, List.zip_map, List.map_map]
  rfl
theorem zip_mapQ {α : Type} (g : α → Rat → Rat) (f : List α) (v : List Rat) : (f.zip v).map (fun p => dQ (g p.1 p.2)) = (List.zipWith g f v).map dQ := by
  apply List.ext_getElem
  · simp
  · intro i h1 h2
    simp
theorem w_forG {F : Wd} {σ : Sl} {S : Sto} {nx : Sl → Sto → Prop} {rt : D → Sto → Prop} {er : XS} {bk ct : Sl → Sto → Prop} {t : Tg} {b : Cms} {α : Type} {g : Gd} (xs : List α) {p : α → D} (I : Nat → Sl → Sto → Prop) (h0 : I 0 σ S) (hst : ∀ k σ S, I k σ S → stands g S)
    (hs : ∀ k (hk : k < xs.length) σ S, I k σ S → wTg t (p xs[k]) σ fun σ' => wSs F b σ' S (fun σ S => I (k + 1) σ S) rt er nx (fun σ S => I (k + 1) σ S))
    (he : ∀ σ S, I xs.length σ S → nx σ S) : wFor F g t b (xs.map p) σ S nx rt er bk ct := by
  refine w_forL I h0 (fun k hk σ S i => ?_) fun σ S i => he σ S (by rwa [List.length_map] at i)
  have hk' : k < xs.length := by simpa using hk
  obtain ⟨σ', h1, h2⟩ := wTg_iff.mp (hs k hk' σ S i)
  refine wTg_iff.mpr ⟨σ', by rw [List.getElem_map]; exact h1, ?_⟩
  rw [wSs_iff] at h2 ⊢
  exact RS.wp_mono h2 (fun _ _ h => ⟨hst _ _ _ h, h⟩) (fun _ _ => id) (fun _ _ _ _ => id) (fun _ _ => id) fun _ _ h => ⟨hst _ _ _ h, h⟩
/-- a comprehension whose items change the store: a word I over the number of items done -/
theorem w_lcG {α β : Type} {F : Wd} {g : Gd} {ow : List Nat} {t : Tg} {e : Ex} {σ : Sl} {S : Sto} {Q : List D → Sto → Prop} {E : XE} (xs : List α) {p : α → D} (q : β → D) (I : Nat → List β → Sto → Prop) (h0 : I 0 [] S) (hl : xs.length ≤ 1000000) (hst : ∀ k ys S, I k ys S → stands g S)
    (hs : ∀ k (hk : k < xs.length) ys S, I k ys S → ys.length = k → wWp σ ow fun σ0 => wTg t (p xs[k]) σ0 fun σ' => wE F e σ' S (fun y S2 => ∃ b, y = q b ∧ I (k + 1) (ys ++ [b]) S2) noE)
    (he : ∀ ys S, I xs.length ys S → ys.length = xs.length → Q (ys.map q) S) : wLc F g ow t (.con (.bl true)) e σ (xs.map p) S Q E := by
  refine w_lcE (fun k zs S' => ∃ ys : List β, zs = ys.map q ∧ ys.length = k ∧ I k ys S') ⟨[], rfl, rfl, h0⟩ (fun k hk zs S' i => ?_) fun zs S' i => ?_
  · obtain ⟨ys, rfl, hy, i⟩ := i
    have hk' : k < xs.length := by simpa using hk
    refine wWp_iff.mpr ?_
    obtain ⟨σ', h1, h2⟩ := wTg_iff.mp (wWp_iff.mp (hs k hk' ys S' i hy))
    refine wTg_iff.mpr ⟨σ', by rw [List.getElem_map]; exact h1, ?_⟩
    show wT F _ σ' S' _ noE
    rw [wT_iff]
    show wE F e σ' S' _ noE
    rw [wE_iff] at h2 ⊢
    refine R.wp_mono h2 (fun y S2 h => ?_) fun _ _ _ => id
    obtain ⟨b, rfl, h⟩ := h
    exact ⟨hst _ _ _ h, ys ++ [b], by simp, by simp [hy], h⟩
  · obtain ⟨ys, rfl, hy, i⟩ := i
    rw [List.length_map] at i hy ⊢
    exact ⟨by show ys.length ≤ 1000000; omega, he ys S' i hy⟩
/-- a zip with a list of the store -/
theorem o_zipTL {α β : Type} {f : α → D} {g : β → D} {as : List α} {bs : List β} {p : Nat} {mu : Bool} {S : Sto} (h : S[p]? = some (.lst mu (bs.map g))) : zipD (.tup (as.map f)) (.ref p) S = .ok ([(p, .lst mu (bs.map g))], (as.zip bs).map fun q => .tup [f q.1, g q.2]) S := by
  unfold zipD srcD
  simp only [h, List.nil_append]
  rw [List.zip_map, List.map_map]
  rfl
theorem o_zipLT' {α β : Type} {f : α → D} {g : β → D} {as : List α} {bs : List β} {p : Nat} {mu : Bool} {S : Sto} (h : S[p]? = some (.lst mu (as.map f))) : zipD (.ref p) (.tup (bs.map g)) S = .ok ([(p, .lst mu (as.map f))], (as.zip bs).map fun q => .tup [f q.1, g q.2]) S := by
  unfold zipD srcD
  simp only [h, List.append_nil]
  rw [List.zip_map, List.map_map]
  rfl
theorem o_zipTT {α β : Type} (f : α → D) (g : β → D) (as : List α) (bs : List β) (S : Sto) : zipD (.tup (as.map f)) (.tup (bs.map g)) S = .ok ([], (as.zip bs).map fun q => .tup [f q.1, g q.2]) S := by
  rw [o_zip, List.zip_map, List.map_map]
  rfl
/-- each flagged item is changed, with the number of flagged ones before -/
def newG {α : Type} (g : Nat → α → α) : List Bool → List α → Nat → List α
  | true :: f, p :: r, c => g c p :: newG g f r (c + 1)
  | false :: f, p :: r, c => p :: newG g f r c
  | [], _, _ => []
  | _ :: _, [], _ => []
theorem newG_len {α : Type} {g : Nat → α → α} : ∀ {f : List Bool} {v : List α} {c : Nat}, f.length = v.length → (newG g f v c).length = v.length
  | [], [], _, _ => rfl
  | true :: f, p :: v, c, h => by show (newG g f v (c + 1)).length + 1 = v.length + 1; rw [newG_len (by simpa using h)]
  | false :: f, p :: v, c, h => by show (newG g f v c).length + 1 = v.length + 1; rw [newG_len (by simpa using h)]
theorem newG_mem {α : Type} {g : Nat → α → α} : ∀ {f : List Bool} {v : List α} {c : Nat} {y : α}, y ∈ newG g f v c → y ∈ v ∨ ∃ i x, x ∈ v ∧ y = g i x
  | true :: f, p :: v, c, y, h => by
    rcases List.mem_cons.mp (show y ∈ g c p :: newG g f v (c + 1) from h) with rfl | h
    · exact .inr ⟨_, p, by simp, rfl⟩
    · rcases newG_mem h with h | ⟨i, x, h, e⟩
      · exact .inl (by simp [h])
      · exact .inr ⟨i, x, by simp [h], e⟩
  | false :: f, p :: v, c, y, h => by
    rcases List.mem_cons.mp (show y ∈ p :: newG g f v c from h) with rfl | h
    · exact .inl (by simp)
    · rcases newG_mem h with h | ⟨i, x, h, e⟩
      · exact .inl (by simp [h])
      · exact .inr ⟨i, x, by simp [h], e⟩
  | [], _, _, _, h => by cases h
  | b :: _, [], _, _, h => by cases b <;> cases h
theorem o_zipMV (m : List (List Rat)) (v : List Rat) (S : Sto) : zipD (dM m) (dV v) S = .ok ([], (m.zip v).map fun p => .tup [dV p.1, dQ p.2]) S := by
  unfold dM dV
  rw [o_zip, List.zip_map, List.map_map]
  rfl
theorem o_set2 {S : Sto} {o p q : Ob} : (S ++ [o] ++ [q]).set S.length p = S ++ [p] ++ [q] := by simp
/-! ### code objects, instructions as values -/
theorem set_last (S : Sto) (a b : Ob) : (S ++ [a]).set S.length b = S ++ [b] := by simp
theorem code_init_w {n : Nat} (hn : 1 ≤ n) {S : Sto} {w ni nr d : D} (h1 : isX w = false) (h2 : isX ni = false) (h3 : isX nr = false) (h4 : isX d = false) {Q : D → Sto → Prop} {E : XE} (h : Q .non (S ++ [codeO w ni nr d])) :
    wR ((W T n).fn "Code.__init__" [.ref S.length, w, ni, nr, d] (S ++ [.ins "Code" []])) Q E := by
  refine w_fn tab_Code___init__ hn fun m hm => ?_
  unfold code_Code___init__
  have g0 : (S ++ [Ob.ins "Code" []])[S.length]? = some (.ins "Code" []) := o_new
  row_cond qq
  refine wLoc_z h1 ?_
  row_cond qq
  rw [set_last]
  have g1 : (S ++ [Ob.ins "Code" [("width", w)]])[S.length]? = some (.ins "Code" [("width", w)]) := o_new
  refine wLoc_z h2 ?_
  row_cond qq
  rw [set_last]
  have g2 : (S ++ [Ob.ins "Code" [("width", w), ("inputs", ni)]])[S.length]? = some (.ins "Code" [("width", w), ("inputs", ni)]) := o_new
  refine wLoc_z h3 ?_
  row_cond qq
  rw [set_last]
  have g3 : (S ++ [Ob.ins "Code" [("width", w), ("inputs", ni), ("registers", nr)]])[S.length]? = some (.ins "Code" [("width", w), ("inputs", ni), ("registers", nr)]) := o_new
  refine wLoc_z h4 ?_
  row_cond qq
  rw [set_last]
  exact h
theorem ins_pv (y : Ins) : Pv 2 y.d := by
  cases y <;> exact .tup (fun d hd => by
    simp only [List.mem_cons, List.not_mem_nil, or_false] at hd
    rcases hd with rfl | hd
    · exact .str (by decide +kernel)
    · first
      | (rcases hd with rfl | rfl | rfl <;> exact .int _)
      | (rcases hd with rfl | rfl <;> exact .int _)
      | (subst hd; exact .int _)) (by simp)
theorem ins_val {S : Sto} {w : Int} {ni nr : Nat} (hw : w ≤ 200) (hi : ni ≤ 10000) (hr : nr ≤ 10000) {y : Ins} (h : y.ok w ni nr) : Val S 2 y.d := by
  have vs : ∀ {i : Nat} {k : Nat}, i ≤ 10000 → Val S (k + 1) (.int (i : Nat)) := fun {i k} h => .int (lt2_mono (show lt2 (i : Int) 20 by unfold lt2; omega) (by decide))
  have vf : ∀ {v : Int} {k : Nat}, fit w v → Val S (k + 1) (.int v) := fun {v k} h => .int (lt2_mono (h.lt hw) (by decide))
  cases y with
  | load r i =>
    obtain ⟨h1, h2⟩ := h
    exact .tup (fun d hd => by
      simp only [List.mem_cons, List.not_mem_nil, or_false] at hd
      rcases hd with rfl | rfl | rfl
      · exact .str (by decide +kernel) (by decide)
      · exact vs (by omega)
      · exact vs (by omega)) (by simp)
  | set r v =>
    obtain ⟨h1, h2⟩ := h
    exact .tup (fun d hd => by
      simp only [List.mem_cons, List.not_mem_nil, or_false] at hd
      rcases hd with rfl | rfl | rfl
      · exact .str (by decide +kernel) (by decide)
      · exact vs (by omega)
      · exact vf h2) (by simp)
  | times r s v =>
    obtain ⟨h1, h2, h3⟩ := h
    exact .tup (fun d hd => by
      simp only [List.mem_cons, List.not_mem_nil, or_false] at hd
      rcases hd with rfl | rfl | rfl | rfl
      · exact .str (by decide +kernel) (by decide)
      · exact vs (by omega)
      · exact vs (by omega)
      · exact vf h3) (by simp)
  | add r s =>
    obtain ⟨h1, h2⟩ := h
    exact .tup (fun d hd => by
      simp only [List.mem_cons, List.not_mem_nil, or_false] at hd
      rcases hd with rfl | rfl | rfl
      · exact .str (by decide +kernel) (by decide)
      · exact vs (by omega)
      · exact vs (by omega)) (by simp)
  | bend r => exact .tup (fun d hd => by
      simp only [List.mem_cons, List.not_mem_nil, or_false] at hd
      have : r < nr := h
      rcases hd with rfl | rfl
      · exact .str (by decide +kernel) (by decide)
      · exact vs (by omega)) (by simp)
  | give r => exact .tup (fun d hd => by
      simp only [List.mem_cons, List.not_mem_nil, or_false] at hd
      have : r < nr := h
      rcases hd with rfl | rfl
      · exact .str (by decide +kernel) (by decide)
      · exact vs (by omega)) (by simp)
theorem ins_good {w : Int} {ni nr : Nat} {y : Ins} (h : y.ok w ni nr) : insB w ni nr y.d = true := by
  have ix : ∀ {i c : Nat}, i < c → ixB (.int (i : Nat)) c = true := fun {i c} h => decide_eq_true (by omega)
  have fx : ∀ {v : Int}, fit w v → fitB (.int v) w = true := fun {v} h => decide_eq_true h
  cases y with
  | load r i => simp only [Ins.d]; rw [insB_eq, show opOf "load" = .load from by kernel_rfl]; show (ixB _ _ && ixB _ _) = true; rw [ix h.1, ix h.2]; rfl
  | set r v => simp only [Ins.d]; rw [insB_eq, show opOf "set" = .set from by kernel_rfl]; show (ixB _ _ && fitB _ _) = true; rw [ix h.1, fx h.2]; rfl
  | times r s v => simp only [Ins.d]; rw [insB_eq, show opOf "times" = .times from by kernel_rfl]; show (ixB _ _ && (ixB _ _ && fitB _ _)) = true; rw [ix h.1, ix h.2.1, fx h.2.2]; rfl
  | add r s => simp only [Ins.d]; rw [insB_eq, show opOf "add" = .add from by kernel_rfl]; show (ixB _ _ && ixB _ _) = true; rw [ix h.1, ix h.2]; rfl
  | bend r => simp only [Ins.d]; rw [insB_eq, show opOf "bend" = .bend from by kernel_rfl]; exact ix h
  | give r => simp only [Ins.d]; rw [insB_eq, show opOf "give" = .give from by kernel_rfl]; exact ix h
end Kl
set_option Elab.async false
set_option linter.all false
set_option maxRecDepth 100000
set_option maxHeartbeats 4000000
set_option autoImplicit false
set_option exponentiation.threshold 200000
namespace Kl
open PySem PySem.Spec PyProof.Rows L2 Kq
local macro_rules
  | `(tactic| row_cond qb) => `(tactic| first
    | with_reducible assumption
    | ((with_reducible apply lt2_lit); decide)
    | (with_reducible exact tenp_lt _)
    | ((with_reducible apply szQ.num); assumption)
    | ((with_reducible apply szQ.den); assumption)
    | ((with_reducible apply lt2_mul) <;> row_cond qb)
    | ((with_reducible apply lt2_add) <;> row_cond qb)
    | ((with_reducible apply lt2_sub) <;> row_cond qb)
    | ((with_reducible apply lt2_neg) <;> row_cond qb)
    | ((with_reducible apply lt2_abs) <;> row_cond qb)
    | ((with_reducible apply lt2_ediv) <;> row_cond qb))
  | `(tactic| row_cond qg) => `(tactic| first
    | assumption
    | exact o_new
    | exact o_mid
    | exact Ext.get (by assumption) (by assumption)
    | ((with_reducible refine o_old ?_); row_cond qg)
    | (refine Ext.get ?_ (by assumption); row_cond qx))
  | `(tactic| row_cond qx) => `(tactic| first
    | (with_reducible assumption)
    | (with_reducible exact Ext.refl)
    | ((with_reducible apply Ext.app); row_cond qx)
    | (with_reducible exact Ext.trans (by assumption) (by assumption))
    | ((with_reducible refine Ext.trans ?_ (by with_reducible assumption)); row_cond qx))
  | `(tactic| row_cond qm) => `(tactic| first
    | assumption
    | exact mul_ok (by row_cond qb) (by row_cond qb) (by first | omega | simp | decide))
  | `(tactic| row_cond qd) => `(tactic| first
    | assumption
    | exact div_ok (by row_cond qb) (by first | omega | decide) (by first | assumption | omega | exact den_ne _))
  | `(tactic| row_cond qo) => `(tactic| first
    | (with_reducible exact ev_add ..)
    | (with_reducible exact ev_sub ..)
    | ((with_reducible refine ev_mul ?_); row_cond qm)
    | ((with_reducible refine o_divP _ ?_ ?_) <;> first | omega | row_cond qd)
    | ((with_reducible refine o_modP _ ?_); omega)
    | ((with_reducible refine ev_fdiv ?_); row_cond qd)
    | ((with_reducible refine ev_mod ?_); first | assumption | omega | exact den_ne _)
    | (with_reducible exact ev_neg ..)
    | ((with_reducible refine o_pow10 _ ?_); decide)
    | (with_reducible exact o_q0 ..)
    | (with_reducible exact o_q1 ..)
    | (with_reducible exact idx_tup0 ..)
    | (with_reducible exact idx_tup1 ..)
    | (with_reducible exact idx_tup2 ..)
    | (with_reducible exact idx_tup3 ..)
    | (with_reducible exact idx_tup4 ..)
    | (with_reducible exact ev_eq ..)
    | (with_reducible exact ev_ne ..)
    | (with_reducible exact ev_lt ..)
    | (with_reducible exact ev_le ..)
    | (with_reducible exact ev_gt ..)
    | (with_reducible exact ev_ge ..)
    | (with_reducible exact o_eqb ..)
    | (with_reducible exact o_eqQ ..)
    | (with_reducible exact o_neQ ..)
    | (with_reducible exact o_eqV ..)
    | (with_reducible exact o_neV ..)
    | (with_reducible exact o_neb ..)
    | (with_reducible exact tru_bl ..)
    | (with_reducible exact tru_int ..)
    | (with_reducible exact tru_non ..)
    | (with_reducible exact bi_int ..)
    | (with_reducible exact o_intb ..)
    | (with_reducible exact bi_abs ..)
    | (with_reducible exact bi_gcd ..)
    | (with_reducible exact o_max ..)
    | (with_reducible exact o_min ..)
    | (with_reducible exact bi_len_tup ..)
    | ((with_reducible apply o_lenr); row_cond qg)
    | (with_reducible exact o_tt ..)
    | (with_reducible exact o_ii ..)
    | (with_reducible exact o_ib ..)
    | (with_reducible exact o_bb ..)
    | (with_reducible exact o_bi ..)
    | (with_reducible exact o_itemsT ..)
    | ((with_reducible apply o_items); row_cond qg)
    | (with_reducible exact tru_tup ..)
    | (with_reducible exact o_itemsV ..)
    | (with_reducible exact o_itemsM ..)
    | (with_reducible exact o_itemsQ ..)
    | ((with_reducible refine o_addQT _ ?_); simp only [List.length_cons, List.length_nil]; omega)
    | ((with_reducible apply o_addL) <;> first | row_cond qg | (simp only [List.length_cons, List.length_nil, List.length_map]; omega))
    | ((with_reducible refine o_addT0 ?_ _); first | omega | (simp only [List.length_cons, List.length_nil, List.length_map]; omega))
    | ((with_reducible refine o_addT ?_); (try simp only [List.length_cons, List.length_nil, List.length_map, List.length_append]); omega)
    | (with_reducible exact o_lenV ..)
    | (with_reducible exact o_lenM ..)
    | (with_reducible exact o_lenQ ..)
    | (with_reducible exact o_tV ..)
    | (with_reducible exact o_tM ..)
    | (with_reducible exact o_tQ ..)
    | (with_reducible exact o_slV ..)
    | (with_reducible exact o_slM ..)
    | ((with_reducible refine o_repM ?_); omega)
    | (with_reducible exact o_tupV ..)
    | (with_reducible exact o_tupM ..)
    | (with_reducible exact o_tupL ..)
    | (with_reducible exact o_lstL ..)
    | (with_reducible exact o_allL ..)
    | (with_reducible exact o_anyL ..)
    | ((with_reducible refine o_eqS ?_ ?_ _) <;> first | assumption | decide +kernel)
    | ((with_reducible refine o_neS ?_ ?_ _) <;> first | assumption | decide +kernel)
    | ((with_reducible refine o_addS0 ?_ _); first | assumption | decide +kernel)
    | ((with_reducible apply v_tup); assumption)
    | ((with_reducible apply v_str); assumption)
    | ((with_reducible apply v_int); assumption)
    | ((with_reducible apply v_bool); assumption)
    | ((with_reducible apply v_is); assumption)
    | ((with_reducible apply v_isn); assumption)
    | (with_reducible exact o_st ..)
    | (with_reducible exact o_sn ..)
    | (with_reducible exact o_tn ..)
    | (with_reducible exact o_sI ..)
    | (with_reducible exact o_tb ..)
    | (with_reducible exact o_sb ..)
    | (with_reducible exact o_ss ..)
    | (with_reducible exact o_ts ..)
    | (with_reducible exact o_isB ..)
    | (with_reducible exact o_isS ..)
    | (with_reducible exact o_isI ..)
    | (with_reducible exact o_isnI ..)
    | (with_reducible exact o_isN ..)
    | (with_reducible exact o_isnN ..)
    | (with_reducible exact o_isbb ..)
    | (with_reducible exact o_isnb0 ..)
    | (with_reducible exact o_isnnb0 ..)
    | (with_reducible exact o_isnbb ..)
    | (with_reducible exact o_isT ..)
    | (with_reducible exact o_isnT ..)
    | (with_reducible exact o_part0 ..)
    | (with_reducible exact o_part1 ..)
    | (with_reducible exact o_slT ..)
    | (with_reducible exact o_rev ..)
    | ((with_reducible apply o_revL); row_cond qg)
    | ((with_reducible apply o_fld); (focus row_cond qg); (focus rfl); row_cond qj)
    | ((with_reducible apply o_slr); row_cond qg)
    | ((with_reducible refine o_rep ?_); omega)
    | ((with_reducible refine o_lrg1 _ ?_); omega)
    | ((with_reducible refine o_trg1 _ ?_); omega)
    | ((with_reducible refine o_trg2 _ ?_); omega)
    | (with_reducible assumption)
    | ((with_reducible refine gFn ?_); assumption))
  | `(tactic| row_cond qp) => `(tactic| first
    | ((with_reducible refine o_rng ?_); omega)
    | ((with_reducible refine o_rng2 ?_); omega)
    | (with_reducible exact o_itV ..)
    | (with_reducible exact o_itM ..)
    | (with_reducible exact o_zipV ..)
    | (with_reducible exact o_zipVM ..)
    | (with_reducible exact o_itT ..)
    | ((with_reducible apply o_it); row_cond qg)
    | (with_reducible exact o_zip ..)
    | (with_reducible exact o_zip3 ..)
    | (with_reducible exact o_enmT ..)
    | ((with_reducible apply o_enm); row_cond qg)
    | (with_reducible assumption))
  | `(tactic| row_cond qj) => `(tactic| first
    | exact FlR.hit
    | (apply FlR.miss; (focus rfl); row_cond qj))
  | `(tactic| row_cond qu) => `(tactic| first
    | exact PuR.hit
    | exact PuR.nil
    | (apply PuR.miss; (focus rfl); row_cond qu))
  | `(tactic| row_cond qn) => `(tactic| first
    | exact NthR.z
    | (apply NthR.s; row_cond qn))
  | `(tactic| row_cond qk) => `(tactic| first
    | exact PkR.nil
    | (apply PkR.cons; (focus row_cond qn); row_cond qk))
  | `(tactic| row_cond qE) => `(tactic| first
    | refine w_loc ?_
    | (with_reducible refine w_con0 ?_)
    | (with_reducible refine w_con1 ?_)
    | (with_reducible refine w_conh ?_)
    | refine w_con ?_
    | refine w_bin ?_
    | refine w_cmp ?_
    | refine w_idx ?_
    | refine w_call ?_
    | refine w_bi ?_
    | (with_reducible refine w_tup0 ?_)
    | (with_reducible refine w_tup1 ?_)
    | (with_reducible refine w_tupm ?_)
    | refine w_tup ?_
    | refine w_lst ?_
    | refine w_isi ?_
    | refine w_neg ?_
    | refine w_nt ?_
    | refine w_ands ?_
    | refine w_ors ?_
    | refine w_ite ?_
    | refine w_chn ?_
    | refine w_sl ?_
    | refine w_bl ?_
    | refine w_lc ?_
    | refine w_bm ?_
    | refine w_cal ?_
    | refine w_eis ?_
    | refine w_efl ?_
    | refine w_fld ?_
    | refine w_mth ?_
    | refine w_mk ?_
    | refine w_lrg ?_
    | refine w_rep ?_
    | refine w_dgt ?_)
  | `(tactic| row_cond qT) => `(tactic| first
    | refine w_tnt ?_
    | refine w_tand ?_
    | refine w_tor ?_
    | refine w_tite ?_
    | refine w_tof rfl ?_
    | refine w_tlst ?_)
  | `(tactic| row_cond qS) => `(tactic| first
    | refine w_asg ?_
    | refine w_if ?_
    | refine w_ret ?_
    | refine w_ex ?_
    | refine w_for ?_
    | refine w_pass ?_
    | refine w_cont ?_
    | refine w_brk ?_
    | refine w_retN ?_
    | refine w_rse ?_
    | refine w_try ?_
    | refine w_par ?_
    | refine w_sub ?_
    | refine w_fst ?_
    | refine w_aug rfl ?_)
  | `(tactic| row_cond qL) => `(tactic| first
    | refine w_llst ?_
    | refine w_llc ?_
    | refine w_lite ?_
    | refine w_lof rfl ?_)
  | `(tactic| row_cond qI) => `(tactic| first
    | refine w_iex ?_
    | refine w_itmp ?_
    | refine w_irng ?_
    | refine w_izip ?_
    | refine w_izip3 ?_
    | refine w_ienm ?_)
  | `(tactic| row_cond qF) => `(tactic| first
    | refine ift ?_
    | refine iff' ?_
    | refine ift' (decide_eq_true (by first | assumption | omega)) ?_
    | refine iff'' (decide_eq_false (by first | assumption | omega)) ?_
    | refine ift' (by first | (simp only [decide_eq_true_eq, Bool.not_eq_true', decide_eq_false_iff_not, bne_iff_ne, ne_eq, Bool.not_true, Bool.not_false, not_true_eq_false, List.length_map, List.length_cons, List.length_nil]; done) | ((try simp only [decide_eq_true_eq, Bool.not_eq_true', decide_eq_false_iff_not, bne_iff_ne, ne_eq, Bool.not_true, Bool.not_false, not_true_eq_false, List.length_map, List.length_cons, List.length_nil]); first | assumption | omega)) ?_
    | refine iff'' (by first | (simp only [decide_eq_false_iff_not, Bool.not_eq_false', decide_eq_true_eq, bne_eq_false_iff_eq, Bool.not_true, Bool.not_false, not_true_eq_false, List.length_map, List.length_cons, List.length_nil]; done) | ((try simp only [decide_eq_false_iff_not, Bool.not_eq_false', decide_eq_true_eq, bne_eq_false_iff_eq, Bool.not_true, Bool.not_false, not_true_eq_false, List.length_map, List.length_cons, List.length_nil]); first | assumption | omega)) ?_
    | refine ift' (by decide +kernel) ?_
    | refine iff'' (by decide +kernel) ?_)
  | `(tactic| row_cond q0) => `(tactic| first
    | ((with_reducible refine gE ?_); row_cond qE)
    | (with_reducible refine wLoc_s ?_)
    | (with_reducible refine wLoc_z rfl ?_)
    | (with_reducible refine wLoc_v (by assumption) ?_)
    | ((with_reducible refine gR ?_); first | (refine w_ok (by row_cond qo) ?_) | ((with_reducible apply w_pk); (focus row_cond qk)))
    | ((with_reducible refine gP ?_); (refine w_okp (by row_cond qp) ?_))
    | (with_reducible refine w_acons ?_)
    | (with_reducible refine w_anil ?_)
    | ((with_reducible refine gS ?_); row_cond qS)
    | (with_reducible refine wTg_nm ?_)
    | (with_reducible refine wSet_s ?_)
    | (with_reducible refine wSet_z ?_)
    | (with_reducible refine w_nil ?_)
    | ((with_reducible refine gT ?_); row_cond qT)
    | ((with_reducible refine gIf ?_); row_cond qF)
    | ((with_reducible refine gL ?_); row_cond qL)
    | ((with_reducible refine gI ?_); row_cond qI)
    | (with_reducible refine and_bl ?_)
    | (with_reducible refine not_bl ?_)
    | (with_reducible refine wTg_2 ?_)
    | (with_reducible refine wTg_q ?_)
    | (with_reducible refine wTg_3 ?_)
    | (with_reducible refine wTg_5 ?_)
    | (with_reducible refine wWp_cons ?_)
    | (with_reducible refine wWp_nil ?_)
    | (with_reducible refine st_cons ?_)
    | (with_reducible refine st_pad ?_)
    | (with_reducible refine st_z ?_)
    | ((with_reducible apply o_fst); (focus row_cond qg); (focus rfl); (focus (simp only [List.length_cons, List.length_nil]; omega)); (focus row_cond qu))
    | ((with_reducible apply o_mth); (focus row_cond qg); (focus rfl); (focus rfl)))
  | `(tactic| row_cond q1) => `(tactic| first
    | row_cond q0
    | (with_reducible refine w_cons ?_))
  | `(tactic| row_cond qq) => `(tactic| repeat row_cond q1)
  | `(tactic| row_cond qs) => `(tactic| ((with_reducible refine w_cons ?_); repeat row_cond q0))
  | `(tactic| row_cond pk) => `(tactic| first
    | refine peekR ?_ ?_
    | refine peekP ?_ ?_
    | refine peekE ?_ ?_
    | refine peekS ?_ ?_
    | refine peekC ?_ ?_
    | refine peekL ?_ ?_
    | refine peekI ?_ ?_)
/-! ### k66: plain values; the law's own judge of a row -/
def Pq (k : Nat) (d : D) : Prop := Pv k d ∧ ∀ S, Val S k d
theorem Pq.up {k : Nat} {d : D} (h : Pq k d) : Pq (k + 1) d := ⟨h.1.up, fun S => (h.2 S).up⟩
theorem Pq.mono {k l : Nat} {d : D} (h : Pq k d) (hl : k ≤ l) : Pq l d := ⟨h.1.mono hl, fun S => (h.2 S).mono hl⟩
theorem Pq.tup {k : Nat} {ds : List D} (h : ∀ d ∈ ds, Pq k d) (hl : ds.length ≤ 1000) : Pq (k + 1) (.tup ds) := ⟨.tup (fun d hd => (h d hd).1) (by omega), fun S => .tup (fun d hd => (h d hd).2 S) (by omega)⟩
theorem Pq.int {k : Nat} {i : Int} (h : lt2 i 300) : Pq (k + 1) (.int i) := ⟨.int i, fun S => .int (lt2_mono h (by decide))⟩
theorem Pq.str {k : Nat} {x : Str} (h : PyData.canLay0 (.str x) = true) (hl : x.length ≤ 1000) : Pq (k + 1) (.str x) := ⟨.str h, fun S => .str h hl⟩
theorem Pq.bl {k : Nat} (b : Bool) : Pq (k + 1) (.bl b) := ⟨.bl b, fun S => .bl b⟩
theorem Pq.non {k : Nat} : Pq (k + 1) .non := ⟨.non, fun S => .non⟩
def strB (d : D) (z : Str) : Bool := match d with
  | .str x => decide (x = z)
  | _ => false
/-- == of a plain value and a text -/
theorem o_eqN {k : Nat} {d : D} {z : Str} (h : Pv k d) (hk : k ≤ 50) (hz : PyData.canLay0 (.str z) = true) (S : Sto) : cmpD .eq d (.str z) S = .ok (.bl (strB d z)) S := by
  obtain ⟨p, e1, e2, e3⟩ := pv_toP h
  have e := eqD_P (S := S) (d := d) (e := .str z) (p := p) (q := .str z) e1 rfl (shaped_of e2 e3 (by omega)) (shaped_of (k := 0) hz (by simp [PyData.depth]) (by decide))
  unfold cmpD
  simp only [e]
  congr 2
  cases h with
  | non => cases e1; rfl
  | bl b => cases e1; rfl
  | int i => cases e1; rfl
  | str hx =>
    cases e1
    simp only [PyData.eqv, strB]
    rw [Bool.eq_iff_iff]
    simp
  | tup hm hl =>
    unfold toP at e1
    rename_i ds
    cases e4 : toPs ds with
    | none => rw [e4] at e1; cases e1
    | some ps => rw [e4] at e1; cases e1; rfl
theorem lindex_ok {n : Nat} (hn : 1 ≤ n) {k : Nat} {d : D} {c : Int} {S : Sto} (h : Val S k d) : (W T n).fn "_law_index" [d, .int c] S = .ok (.bl (ixB d c)) S := by
  refine W_fn_eq (w_fn tab__law_index hn fun m hm => ?_)
  unfold code__law_index
  have hx := v_isX h
  row_cond qq
  cases h with
  | @int k i hi =>
    row_cond qq
    refine ifd (fun h1 => ?_) fun h1 => ?_
    · row_cond qq
      refine ⟨?_, rfl⟩
      show D.bl (decide (i < c)) = D.bl (decide (0 ≤ i ∧ i < c))
      congr 1
      rw [decide_eq_decide]
      exact ⟨fun h => ⟨h1, h⟩, fun h => h.2⟩
    · row_cond qq
      refine ⟨?_, rfl⟩
      show _ = D.bl (decide (0 ≤ i ∧ i < c))
      rw [decide_eq_false fun h => h1 h.1]
  | bl b => row_cond qq; exact ⟨rfl, rfl⟩
  | _ => row_cond qq; exact ⟨rfl, rfl⟩
theorem lfits_ok {n : Nat} (hn : 1 ≤ n) {k : Nat} {d : D} {w : Int} (hw : 1 ≤ w ∧ w ≤ 200) {S : Sto} (h : Val S k d) : (W T n).fn "_law_fits" [d, .int w] S = .ok (.bl (fitB d w)) S := by
  refine W_fn_eq (w_fn tab__law_fits hn fun m hm => ?_)
  unfold code__law_fits
  have hx := v_isX h
  have hw0 : 0 ≤ w - 1 ∧ w - 1 ≤ 1000000 := by omega
  row_cond qq
  refine w_ok (o_shl1 hw0 _) ?_
  row_cond qq
  cases h with
  | @int k i hi =>
    row_cond qq
    refine ifd (fun h1 => ?_) fun h1 => ?_
    · row_cond qq
      refine ⟨?_, rfl⟩
      show D.bl (decide (i < 2 ^ (w - 1).toNat)) = D.bl (decide (fit w i))
      congr 1
      rw [decide_eq_decide]
      exact ⟨fun h => ⟨h1, h⟩, fun h => h.2⟩
    · row_cond qq
      refine ⟨?_, rfl⟩
      show _ = D.bl (decide (fit w i))
      rw [decide_eq_false fun h => h1 h.1]
  | bl b => row_cond qq; exact ⟨rfl, rfl⟩
  | _ => row_cond qq; exact ⟨rfl, rfl⟩
/-- a row: plain, or a list of plain values that stands -/
def goodS (w ni nr : Int) (z : Str → Bool) (a : D) (rest : List D) : Bool := ixB a nr && (if z "load" = true ∧ rest.length = 1 then ixB (rest.getD 0 .non) ni else if z "set" = true ∧ rest.length = 1 then fitB (rest.getD 0 .non) w else if z "times" = true ∧ rest.length = 2 then ixB (rest.getD 0 .non) nr && fitB (rest.getD 1 .non) w else if z "add" = true ∧ rest.length = 1 then ixB (rest.getD 0 .non) nr else (z "bend" || z "give") && decide (rest.length = 0))
theorem goodS_ins {w ni nr : Int} {x a : D} {rest : List D} : goodS w ni nr (strB x) a rest = insB w ni nr (.tup (x :: a :: rest)) := by
  by_cases hx : ∃ z, x = .str z
  · obtain ⟨z, rfl⟩ := hx
    rw [insB_eq]
    have sb : ∀ y : Str, strB (.str z) y = decide (z = y) := fun _ => rfl
    unfold goodS
    simp only [sb, decide_eq_true_eq]
    rcases op_cases z with ⟨rfl, ho⟩ | ⟨rfl, ho⟩ | ⟨rfl, ho⟩ | ⟨rfl, ho⟩ | ⟨rfl, ho⟩ | ⟨rfl, ho⟩ | ⟨ho, h1, h2, h3, h4, h5, h6⟩
    · rw [ho]
      have n_set : ¬ (("load" : Str) = "set") := by decide +kernel
      have n_times : ¬ (("load" : Str) = "times") := by decide +kernel
      have n_add : ¬ (("load" : Str) = "add") := by decide +kernel
      have n_bend : ¬ (("load" : Str) = "bend") := by decide +kernel
      have n_give : ¬ (("load" : Str) = "give") := by decide +kernel
      match rest with
      | [] => simp [n_set, n_times, n_add, n_bend, n_give, insA]
      | [b] => simp [n_set, n_times, n_add, n_bend, n_give, insA]
      | [b, c] => simp [n_set, n_times, n_add, n_bend, n_give, insA]
      | b :: c :: d :: r => simp [n_set, n_times, n_add, n_bend, n_give, insA]
    · rw [ho]
      have n_load : ¬ (("set" : Str) = "load") := by decide +kernel
      have n_times : ¬ (("set" : Str) = "times") := by decide +kernel
      have n_add : ¬ (("set" : Str) = "add") := by decide +kernel
      have n_bend : ¬ (("set" : Str) = "bend") := by decide +kernel
      have n_give : ¬ (("set" : Str) = "give") := by decide +kernel
      match rest with
      | [] => simp [n_load, n_times, n_add, n_bend, n_give, insA]
      | [b] => simp [n_load, n_times, n_add, n_bend, n_give, insA]
      | [b, c] => simp [n_load, n_times, n_add, n_bend, n_give, insA]
      | b :: c :: d :: r => simp [n_load, n_times, n_add, n_bend, n_give, insA]
    · rw [ho]
      have n_load : ¬ (("times" : Str) = "load") := by decide +kernel
      have n_set : ¬ (("times" : Str) = "set") := by decide +kernel
      have n_add : ¬ (("times" : Str) = "add") := by decide +kernel
      have n_bend : ¬ (("times" : Str) = "bend") := by decide +kernel
      have n_give : ¬ (("times" : Str) = "give") := by decide +kernel
      match rest with
      | [] => simp [n_load, n_set, n_add, n_bend, n_give, insA]
      | [b] => simp [n_load, n_set, n_add, n_bend, n_give, insA]
      | [b, c] => simp [n_load, n_set, n_add, n_bend, n_give, insA]
      | b :: c :: d :: r => simp [n_load, n_set, n_add, n_bend, n_give, insA]
    · rw [ho]
      have n_load : ¬ (("add" : Str) = "load") := by decide +kernel
      have n_set : ¬ (("add" : Str) = "set") := by decide +kernel
      have n_times : ¬ (("add" : Str) = "times") := by decide +kernel
      have n_bend : ¬ (("add" : Str) = "bend") := by decide +kernel
      have n_give : ¬ (("add" : Str) = "give") := by decide +kernel
      match rest with
      | [] => simp [n_load, n_set, n_times, n_bend, n_give, insA]
      | [b] => simp [n_load, n_set, n_times, n_bend, n_give, insA]
      | [b, c] => simp [n_load, n_set, n_times, n_bend, n_give, insA]
      | b :: c :: d :: r => simp [n_load, n_set, n_times, n_bend, n_give, insA]
    · rw [ho]
      have n_load : ¬ (("bend" : Str) = "load") := by decide +kernel
      have n_set : ¬ (("bend" : Str) = "set") := by decide +kernel
      have n_times : ¬ (("bend" : Str) = "times") := by decide +kernel
      have n_add : ¬ (("bend" : Str) = "add") := by decide +kernel
      have n_give : ¬ (("bend" : Str) = "give") := by decide +kernel
      match rest with
      | [] => simp [n_load, n_set, n_times, n_add, n_give, insA]
      | [b] => simp [n_load, n_set, n_times, n_add, n_give, insA]
      | [b, c] => simp [n_load, n_set, n_times, n_add, n_give, insA]
      | b :: c :: d :: r => simp [n_load, n_set, n_times, n_add, n_give, insA]
    · rw [ho]
      have n_load : ¬ (("give" : Str) = "load") := by decide +kernel
      have n_set : ¬ (("give" : Str) = "set") := by decide +kernel
      have n_times : ¬ (("give" : Str) = "times") := by decide +kernel
      have n_add : ¬ (("give" : Str) = "add") := by decide +kernel
      have n_bend : ¬ (("give" : Str) = "bend") := by decide +kernel
      match rest with
      | [] => simp [n_load, n_set, n_times, n_add, n_bend, insA]
      | [b] => simp [n_load, n_set, n_times, n_add, n_bend, insA]
      | [b, c] => simp [n_load, n_set, n_times, n_add, n_bend, insA]
      | b :: c :: d :: r => simp [n_load, n_set, n_times, n_add, n_bend, insA]
    · rw [ho]
      cases rest <;> simp [h1, h2, h3, h4, h5, h6, insA]
  · have e : ∀ y, strB x y = false := fun y => by
      cases x <;> first | rfl | exact absurd ⟨_, rfl⟩ hx
    have e2 : insB w ni nr (.tup (x :: a :: rest)) = false := by
      cases x <;> first | rfl | exact absurd ⟨_, rfl⟩ hx
    rw [e2]
    unfold goodS
    simp [e]
end Kl
set_option Elab.async false
set_option linter.all false
set_option maxRecDepth 100000
set_option maxHeartbeats 4000000
set_option autoImplicit false
set_option exponentiation.threshold 200000
namespace Kl
open PySem PySem.Spec PyProof.Rows L2 Kq
local macro_rules
  | `(tactic| row_cond qb) => `(tactic| first
    | with_reducible assumption
    | ((with_reducible apply lt2_lit); decide)
    | (with_reducible exact tenp_lt _)
    | ((with_reducible apply szQ.num); assumption)
    | ((with_reducible apply szQ.den); assumption)
    | ((with_reducible apply lt2_mul) <;> row_cond qb)
    | ((with_reducible apply lt2_add) <;> row_cond qb)
    | ((with_reducible apply lt2_sub) <;> row_cond qb)
    | ((with_reducible apply lt2_neg) <;> row_cond qb)
    | ((with_reducible apply lt2_abs) <;> row_cond qb)
    | ((with_reducible apply lt2_ediv) <;> row_cond qb))
  | `(tactic| row_cond qg) => `(tactic| first
    | assumption
    | exact o_new
    | exact o_mid
    | exact Ext.get (by assumption) (by assumption)
    | ((with_reducible refine o_old ?_); row_cond qg)
    | (refine Ext.get ?_ (by assumption); row_cond qx))
  | `(tactic| row_cond qx) => `(tactic| first
    | (with_reducible assumption)
    | (with_reducible exact Ext.refl)
    | ((with_reducible apply Ext.app); row_cond qx)
    | (with_reducible exact Ext.trans (by assumption) (by assumption))
    | ((with_reducible refine Ext.trans ?_ (by with_reducible assumption)); row_cond qx))
  | `(tactic| row_cond qm) => `(tactic| first
    | assumption
    | exact mul_ok (by row_cond qb) (by row_cond qb) (by first | omega | simp | decide))
  | `(tactic| row_cond qd) => `(tactic| first
    | assumption
    | exact div_ok (by row_cond qb) (by first | omega | decide) (by first | assumption | omega | exact den_ne _))
  | `(tactic| row_cond qo) => `(tactic| first
    | (with_reducible exact ev_add ..)
    | (with_reducible exact ev_sub ..)
    | ((with_reducible refine ev_mul ?_); row_cond qm)
    | ((with_reducible refine o_divP _ ?_ ?_) <;> first | omega | row_cond qd)
    | ((with_reducible refine o_modP _ ?_); omega)
    | ((with_reducible refine ev_fdiv ?_); row_cond qd)
    | ((with_reducible refine ev_mod ?_); first | assumption | omega | exact den_ne _)
    | (with_reducible exact ev_neg ..)
    | ((with_reducible refine o_pow10 _ ?_); decide)
    | (with_reducible exact o_q0 ..)
    | (with_reducible exact o_q1 ..)
    | (with_reducible exact idx_tup0 ..)
    | (with_reducible exact idx_tup1 ..)
    | (with_reducible exact idx_tup2 ..)
    | (with_reducible exact idx_tup3 ..)
    | (with_reducible exact idx_tup4 ..)
    | (with_reducible exact ev_eq ..)
    | (with_reducible exact ev_ne ..)
    | (with_reducible exact ev_lt ..)
    | (with_reducible exact ev_le ..)
    | (with_reducible exact ev_gt ..)
    | (with_reducible exact ev_ge ..)
    | (with_reducible exact o_eqb ..)
    | (with_reducible exact o_eqQ ..)
    | (with_reducible exact o_neQ ..)
    | (with_reducible exact o_eqV ..)
    | (with_reducible exact o_neV ..)
    | (with_reducible exact o_neb ..)
    | (with_reducible exact tru_bl ..)
    | (with_reducible exact tru_int ..)
    | (with_reducible exact tru_non ..)
    | (with_reducible exact bi_int ..)
    | (with_reducible exact o_intb ..)
    | (with_reducible exact bi_abs ..)
    | (with_reducible exact bi_gcd ..)
    | (with_reducible exact o_max ..)
    | (with_reducible exact o_min ..)
    | (with_reducible exact bi_len_tup ..)
    | ((with_reducible apply o_lenr); row_cond qg)
    | (with_reducible exact o_tt ..)
    | (with_reducible exact o_ii ..)
    | (with_reducible exact o_ib ..)
    | (with_reducible exact o_bb ..)
    | (with_reducible exact o_bi ..)
    | (with_reducible exact o_itemsT ..)
    | ((with_reducible apply o_items); row_cond qg)
    | (with_reducible exact tru_tup ..)
    | (with_reducible exact o_itemsV ..)
    | (with_reducible exact o_itemsM ..)
    | (with_reducible exact o_itemsQ ..)
    | ((with_reducible refine o_addQT _ ?_); simp only [List.length_cons, List.length_nil]; omega)
    | ((with_reducible apply o_addL) <;> first | row_cond qg | (simp only [List.length_cons, List.length_nil, List.length_map]; omega))
    | ((with_reducible refine o_addT0 ?_ _); first | omega | (simp only [List.length_cons, List.length_nil, List.length_map]; omega))
    | ((with_reducible refine o_addT ?_); (try simp only [List.length_cons, List.length_nil, List.length_map, List.length_append]); omega)
    | (with_reducible exact o_lenV ..)
    | (with_reducible exact o_lenM ..)
    | (with_reducible exact o_lenQ ..)
    | (with_reducible exact o_tV ..)
    | (with_reducible exact o_tM ..)
    | (with_reducible exact o_tQ ..)
    | (with_reducible exact o_slV ..)
    | (with_reducible exact o_slM ..)
    | ((with_reducible refine o_repM ?_); omega)
    | (with_reducible exact o_tupV ..)
    | (with_reducible exact o_tupM ..)
    | (with_reducible exact o_tupL ..)
    | (with_reducible exact o_lstL ..)
    | (with_reducible exact o_allL ..)
    | (with_reducible exact o_anyL ..)
    | ((with_reducible refine o_eqS ?_ ?_ _) <;> first | assumption | decide +kernel)
    | ((with_reducible refine o_neS ?_ ?_ _) <;> first | assumption | decide +kernel)
    | ((with_reducible refine o_addS0 ?_ _); first | assumption | decide +kernel)
    | ((with_reducible apply v_tup); assumption)
    | ((with_reducible apply v_str); assumption)
    | ((with_reducible apply v_int); assumption)
    | ((with_reducible apply v_bool); assumption)
    | ((with_reducible apply v_is); assumption)
    | ((with_reducible apply v_isn); assumption)
    | (with_reducible exact o_st ..)
    | (with_reducible exact o_sn ..)
    | (with_reducible exact o_tn ..)
    | (with_reducible exact o_sI ..)
    | (with_reducible exact o_tb ..)
    | (with_reducible exact o_sb ..)
    | (with_reducible exact o_ss ..)
    | (with_reducible exact o_ts ..)
    | (with_reducible exact o_isB ..)
    | (with_reducible exact o_isS ..)
    | (with_reducible exact o_isI ..)
    | (with_reducible exact o_isnI ..)
    | (with_reducible exact o_isN ..)
    | (with_reducible exact o_isnN ..)
    | (with_reducible exact o_isbb ..)
    | (with_reducible exact o_isnb0 ..)
    | (with_reducible exact o_isnnb0 ..)
    | (with_reducible exact o_isnbb ..)
    | (with_reducible exact o_isT ..)
    | (with_reducible exact o_isnT ..)
    | (with_reducible exact o_part0 ..)
    | (with_reducible exact o_part1 ..)
    | (with_reducible exact o_slT ..)
    | (with_reducible exact o_rev ..)
    | ((with_reducible apply o_revL); row_cond qg)
    | ((with_reducible apply o_fld); (focus row_cond qg); (focus rfl); row_cond qj)
    | ((with_reducible apply o_slr); row_cond qg)
    | ((with_reducible refine o_rep ?_); omega)
    | ((with_reducible refine o_lrg1 _ ?_); omega)
    | ((with_reducible refine o_trg1 _ ?_); omega)
    | ((with_reducible refine o_trg2 _ ?_); omega)
    | (with_reducible assumption)
    | ((with_reducible refine gFn ?_); assumption))
  | `(tactic| row_cond qp) => `(tactic| first
    | ((with_reducible refine o_rng ?_); omega)
    | ((with_reducible refine o_rng2 ?_); omega)
    | (with_reducible exact o_itV ..)
    | (with_reducible exact o_itM ..)
    | (with_reducible exact o_zipV ..)
    | (with_reducible exact o_zipVM ..)
    | (with_reducible exact o_itT ..)
    | ((with_reducible apply o_it); row_cond qg)
    | (with_reducible exact o_zip ..)
    | (with_reducible exact o_zip3 ..)
    | (with_reducible exact o_enmT ..)
    | ((with_reducible apply o_enm); row_cond qg)
    | (with_reducible assumption))
  | `(tactic| row_cond qj) => `(tactic| first
    | exact FlR.hit
    | (apply FlR.miss; (focus rfl); row_cond qj))
  | `(tactic| row_cond qu) => `(tactic| first
    | exact PuR.hit
    | exact PuR.nil
    | (apply PuR.miss; (focus rfl); row_cond qu))
  | `(tactic| row_cond qn) => `(tactic| first
    | exact NthR.z
    | (apply NthR.s; row_cond qn))
  | `(tactic| row_cond qk) => `(tactic| first
    | exact PkR.nil
    | (apply PkR.cons; (focus row_cond qn); row_cond qk))
  | `(tactic| row_cond qE) => `(tactic| first
    | refine w_loc ?_
    | (with_reducible refine w_con0 ?_)
    | (with_reducible refine w_con1 ?_)
    | (with_reducible refine w_conh ?_)
    | refine w_con ?_
    | refine w_bin ?_
    | refine w_cmp ?_
    | refine w_idx ?_
    | refine w_call ?_
    | refine w_bi ?_
    | (with_reducible refine w_tup0 ?_)
    | (with_reducible refine w_tup1 ?_)
    | (with_reducible refine w_tupm ?_)
    | refine w_tup ?_
    | refine w_lst ?_
    | refine w_isi ?_
    | refine w_neg ?_
    | refine w_nt ?_
    | refine w_ands ?_
    | refine w_ors ?_
    | refine w_ite ?_
    | refine w_chn ?_
    | refine w_sl ?_
    | refine w_bl ?_
    | refine w_lc ?_
    | refine w_bm ?_
    | refine w_cal ?_
    | refine w_eis ?_
    | refine w_efl ?_
    | refine w_fld ?_
    | refine w_mth ?_
    | refine w_mk ?_
    | refine w_lrg ?_
    | refine w_rep ?_
    | refine w_dgt ?_)
  | `(tactic| row_cond qT) => `(tactic| first
    | refine w_tnt ?_
    | refine w_tand ?_
    | refine w_tor ?_
    | refine w_tite ?_
    | refine w_tof rfl ?_
    | refine w_tlst ?_)
  | `(tactic| row_cond qS) => `(tactic| first
    | refine w_asg ?_
    | refine w_if ?_
    | refine w_ret ?_
    | refine w_ex ?_
    | refine w_for ?_
    | refine w_pass ?_
    | refine w_cont ?_
    | refine w_brk ?_
    | refine w_retN ?_
    | refine w_rse ?_
    | refine w_try ?_
    | refine w_par ?_
    | refine w_sub ?_
    | refine w_fst ?_
    | refine w_aug rfl ?_)
  | `(tactic| row_cond qL) => `(tactic| first
    | refine w_llst ?_
    | refine w_llc ?_
    | refine w_lite ?_
    | refine w_lof rfl ?_)
  | `(tactic| row_cond qI) => `(tactic| first
    | refine w_iex ?_
    | refine w_itmp ?_
    | refine w_irng ?_
    | refine w_izip ?_
    | refine w_izip3 ?_
    | refine w_ienm ?_)
  | `(tactic| row_cond qF) => `(tactic| first
    | refine ift ?_
    | refine iff' ?_
    | refine ift' (decide_eq_true (by first | assumption | omega)) ?_
    | refine iff'' (decide_eq_false (by first | assumption | omega)) ?_
    | refine ift' (by first | (simp only [decide_eq_true_eq, Bool.not_eq_true', decide_eq_false_iff_not, bne_iff_ne, ne_eq, Bool.not_true, Bool.not_false, not_true_eq_false, List.length_map, List.length_cons, List.length_nil]; done) | ((try simp only [decide_eq_true_eq, Bool.not_eq_true', decide_eq_false_iff_not, bne_iff_ne, ne_eq, Bool.not_true, Bool.not_false, not_true_eq_false, List.length_map, List.length_cons, List.length_nil]); first | assumption | omega)) ?_
    | refine iff'' (by first | (simp only [decide_eq_false_iff_not, Bool.not_eq_false', decide_eq_true_eq, bne_eq_false_iff_eq, Bool.not_true, Bool.not_false, not_true_eq_false, List.length_map, List.length_cons, List.length_nil]; done) | ((try simp only [decide_eq_false_iff_not, Bool.not_eq_false', decide_eq_true_eq, bne_eq_false_iff_eq, Bool.not_true, Bool.not_false, not_true_eq_false, List.length_map, List.length_cons, List.length_nil]); first | assumption | omega)) ?_
    | refine ift' (by decide +kernel) ?_
    | refine iff'' (by decide +kernel) ?_)
  | `(tactic| row_cond q0) => `(tactic| first
    | ((with_reducible refine gE ?_); row_cond qE)
    | (with_reducible refine wLoc_s ?_)
    | (with_reducible refine wLoc_z rfl ?_)
    | (with_reducible refine wLoc_v (by assumption) ?_)
    | ((with_reducible refine gR ?_); first | (refine w_ok (by row_cond qo) ?_) | ((with_reducible apply w_pk); (focus row_cond qk)))
    | ((with_reducible refine gP ?_); (refine w_okp (by row_cond qp) ?_))
    | (with_reducible refine w_acons ?_)
    | (with_reducible refine w_anil ?_)
    | ((with_reducible refine gS ?_); row_cond qS)
    | (with_reducible refine wTg_nm ?_)
    | (with_reducible refine wSet_s ?_)
    | (with_reducible refine wSet_z ?_)
    | (with_reducible refine w_nil ?_)
    | ((with_reducible refine gT ?_); row_cond qT)
    | ((with_reducible refine gIf ?_); row_cond qF)
    | ((with_reducible refine gL ?_); row_cond qL)
    | ((with_reducible refine gI ?_); row_cond qI)
    | (with_reducible refine and_bl ?_)
    | (with_reducible refine not_bl ?_)
    | (with_reducible refine wTg_2 ?_)
    | (with_reducible refine wTg_q ?_)
    | (with_reducible refine wTg_3 ?_)
    | (with_reducible refine wTg_5 ?_)
    | (with_reducible refine wWp_cons ?_)
    | (with_reducible refine wWp_nil ?_)
    | (with_reducible refine st_cons ?_)
    | (with_reducible refine st_pad ?_)
    | (with_reducible refine st_z ?_)
    | ((with_reducible apply o_fst); (focus row_cond qg); (focus rfl); (focus (simp only [List.length_cons, List.length_nil]; omega)); (focus row_cond qu))
    | ((with_reducible apply o_mth); (focus row_cond qg); (focus rfl); (focus rfl)))
  | `(tactic| row_cond q1) => `(tactic| first
    | row_cond q0
    | (with_reducible refine w_cons ?_))
  | `(tactic| row_cond qq) => `(tactic| repeat row_cond q1)
  | `(tactic| row_cond qs) => `(tactic| ((with_reducible refine w_cons ?_); repeat row_cond q0))
  | `(tactic| row_cond pk) => `(tactic| first
    | refine peekR ?_ ?_
    | refine peekP ?_ ?_
    | refine peekE ?_ ?_
    | refine peekS ?_ ?_
    | refine peekC ?_ ?_
    | refine peekL ?_ ?_
    | refine peekI ?_ ?_)
/-! ### k66: the law's own judge of a row -/
theorem lgood_no {n : Nat} (hn : 2 ≤ n) {k : Nat} {w ni nr : Int} {x a : D} {rest : List D} {S : Sto} (hw : 1 ≤ w ∧ w ≤ 200) (va : Val S k a) (hl : (x :: a :: rest).length ≤ 100000) (hx : isX x = false) (hp : Pv 20 x) (h1 : strB x "load" = false) (h2 : strB x "set" = false) (h3 : strB x "times" = false) (h4 : strB x "add" = false) (h5 : strB x "bend" = false) (h6 : strB x "give" = false) :
    (W T n).fn "_law_good" [.tup (x :: a :: rest), .int w, .int ni, .int nr] S = .ok (.bl false) S := by
  refine W_fn_eq (w_fn tab__law_good (Nat.le_trans (by decide) hn) fun m hm => ?_)
  unfold code__law_good
  have i0 : ∀ S', idxD (D.tup (x :: a :: rest)) (.int 0) S' = .ok x S' := fun S' => idx_tup0 S' _ _
  have i1 : ∀ S', idxD (D.tup (x :: a :: rest)) (.int 1) S' = .ok a S' := fun S' => idx_tup1 S' _ _ _
  row_cond qq
  refine w_ok (lindex_ok (by omega) va) ?_
  cases ha : ixB a nr with
  | false => row_cond qq; exact ⟨rfl, rfl⟩
  | true =>
    row_cond qq
    refine w_ok (o_eqN hp (by decide) (by decide +kernel) _) ?_
    rw [h1]
    row_cond qq
    refine w_ok (o_eqN hp (by decide) (by decide +kernel) _) ?_
    rw [h2]
    row_cond qq
    refine w_ok (o_eqN hp (by decide) (by decide +kernel) _) ?_
    rw [h3]
    row_cond qq
    refine w_ok (o_eqN hp (by decide) (by decide +kernel) _) ?_
    rw [h4]
    row_cond qq
    refine w_ok (o_eqN hp (by decide) (by decide +kernel) _) ?_
    rw [h5]
    row_cond qq
    refine w_ok (o_eqN hp (by decide) (by decide +kernel) _) ?_
    rw [h6]
    row_cond qq
    exact ⟨rfl, rfl⟩
theorem lgood_ok {n : Nat} (hn : 2 ≤ n) {k : Nat} {w ni nr : Int} {d : D} {S : Sto} (hw : 1 ≤ w ∧ w ≤ 200) (h : Val S k d) (hp : ∀ x r, d = .tup (x :: r) → Pv 20 x) :
    (W T n).fn "_law_good" [d, .int w, .int ni, .int nr] S = .ok (.bl (insB w ni nr d)) S := by
  have hxd := v_isX h
  cases h with
  | @tup k ds hm hl =>
    match ds, hm, hl with
    | [], _, _ => refine W_fn_eq (w_fn tab__law_good (Nat.le_trans (by decide) hn) fun m hmn => ?_); unfold code__law_good; row_cond qq; exact ⟨rfl, rfl⟩
    | [x], _, _ => refine W_fn_eq (w_fn tab__law_good (Nat.le_trans (by decide) hn) fun m hmn => ?_); unfold code__law_good; row_cond qq; refine ⟨?_, rfl⟩; cases x <;> rfl
    | x :: a :: rest, hm, hl =>
      have vx := hm x (by simp)
      have va := hm a (by simp)
      have hpx := hp x _ rfl
      have hxx := v_isX vx
      by_cases hs : ∃ z, x = .str z ∧ opOf z ≠ .none
      · obtain ⟨z, rfl, hz⟩ := hs
        rcases op_cases z with ⟨rfl, ho⟩ | ⟨rfl, ho⟩ | ⟨rfl, ho⟩ | ⟨rfl, ho⟩ | ⟨rfl, ho⟩ | ⟨rfl, ho⟩ | ⟨ho, _⟩
        · rw [insB_eq, ho]
          match rest, hm with
          | [], hm =>
            refine W_fn_eq (w_fn tab__law_good (Nat.le_trans (by decide) hn) fun m hmn => ?_)
            unfold code__law_good
            row_cond qq
            refine w_ok (lindex_ok (by omega) va) ?_
            cases ha : ixB a nr with
            | false => row_cond qq; exact ⟨by first | (simp [insA, ha]; done) | (simp [insA, ha]; omega), rfl⟩
            | true =>
              row_cond qq
              exact ⟨by first | (simp [insA, ha]; done) | (simp [insA, ha]; omega), rfl⟩
          | [b], hm =>
            refine W_fn_eq (w_fn tab__law_good (Nat.le_trans (by decide) hn) fun m hmn => ?_)
            unfold code__law_good
            row_cond qq
            refine w_ok (lindex_ok (by omega) va) ?_
            cases ha : ixB a nr with
            | false => row_cond qq; exact ⟨by first | (simp [insA, ha]; done) | (simp [insA, ha]; omega), rfl⟩
            | true =>
              row_cond qq
              refine w_ok (lindex_ok (by omega) (hm b (by simp))) ?_
              row_cond qq
              exact ⟨by first | (simp [insA, ha]; done) | (simp [insA, ha]; omega), rfl⟩
          | [b, c], hm =>
            refine W_fn_eq (w_fn tab__law_good (Nat.le_trans (by decide) hn) fun m hmn => ?_)
            unfold code__law_good
            row_cond qq
            refine w_ok (lindex_ok (by omega) va) ?_
            cases ha : ixB a nr with
            | false => row_cond qq; exact ⟨by first | (simp [insA, ha]; done) | (simp [insA, ha]; omega), rfl⟩
            | true =>
              row_cond qq
              exact ⟨by first | (simp [insA, ha]; done) | (simp [insA, ha]; omega), rfl⟩
          | b :: c :: e :: r, hm =>
            refine W_fn_eq (w_fn tab__law_good (Nat.le_trans (by decide) hn) fun m hmn => ?_)
            unfold code__law_good
            row_cond qq
            refine w_ok (lindex_ok (by omega) va) ?_
            cases ha : ixB a nr with
            | false => row_cond qq; exact ⟨by first | (simp [insA, ha]; done) | (simp [insA, ha]; omega), rfl⟩
            | true =>
              row_cond qq
              exact ⟨by first | (simp [insA, ha]; done) | (simp [insA, ha]; omega), rfl⟩
        · rw [insB_eq, ho]
          match rest, hm with
          | [], hm =>
            refine W_fn_eq (w_fn tab__law_good (Nat.le_trans (by decide) hn) fun m hmn => ?_)
            unfold code__law_good
            row_cond qq
            refine w_ok (lindex_ok (by omega) va) ?_
            cases ha : ixB a nr with
            | false => row_cond qq; exact ⟨by first | (simp [insA, ha]; done) | (simp [insA, ha]; omega), rfl⟩
            | true =>
              row_cond qq
              exact ⟨by first | (simp [insA, ha]; done) | (simp [insA, ha]; omega), rfl⟩
          | [b], hm =>
            refine W_fn_eq (w_fn tab__law_good (Nat.le_trans (by decide) hn) fun m hmn => ?_)
            unfold code__law_good
            row_cond qq
            refine w_ok (lindex_ok (by omega) va) ?_
            cases ha : ixB a nr with
            | false => row_cond qq; exact ⟨by first | (simp [insA, ha]; done) | (simp [insA, ha]; omega), rfl⟩
            | true =>
              row_cond qq
              refine w_ok (lfits_ok (by omega) hw (hm b (by simp))) ?_
              row_cond qq
              exact ⟨by first | (simp [insA, ha]; done) | (simp [insA, ha]; omega), rfl⟩
          | [b, c], hm =>
            refine W_fn_eq (w_fn tab__law_good (Nat.le_trans (by decide) hn) fun m hmn => ?_)
            unfold code__law_good
            row_cond qq
            refine w_ok (lindex_ok (by omega) va) ?_
            cases ha : ixB a nr with
            | false => row_cond qq; exact ⟨by first | (simp [insA, ha]; done) | (simp [insA, ha]; omega), rfl⟩
            | true =>
              row_cond qq
              exact ⟨by first | (simp [insA, ha]; done) | (simp [insA, ha]; omega), rfl⟩
          | b :: c :: e :: r, hm =>
            refine W_fn_eq (w_fn tab__law_good (Nat.le_trans (by decide) hn) fun m hmn => ?_)
            unfold code__law_good
            row_cond qq
            refine w_ok (lindex_ok (by omega) va) ?_
            cases ha : ixB a nr with
            | false => row_cond qq; exact ⟨by first | (simp [insA, ha]; done) | (simp [insA, ha]; omega), rfl⟩
            | true =>
              row_cond qq
              exact ⟨by first | (simp [insA, ha]; done) | (simp [insA, ha]; omega), rfl⟩
        · rw [insB_eq, ho]
          match rest, hm with
          | [], hm =>
            refine W_fn_eq (w_fn tab__law_good (Nat.le_trans (by decide) hn) fun m hmn => ?_)
            unfold code__law_good
            row_cond qq
            refine w_ok (lindex_ok (by omega) va) ?_
            cases ha : ixB a nr with
            | false => row_cond qq; exact ⟨by first | (simp [insA, ha]; done) | (simp [insA, ha]; omega), rfl⟩
            | true =>
              row_cond qq
              exact ⟨by first | (simp [insA, ha]; done) | (simp [insA, ha]; omega), rfl⟩
          | [b], hm =>
            refine W_fn_eq (w_fn tab__law_good (Nat.le_trans (by decide) hn) fun m hmn => ?_)
            unfold code__law_good
            row_cond qq
            refine w_ok (lindex_ok (by omega) va) ?_
            cases ha : ixB a nr with
            | false => row_cond qq; exact ⟨by first | (simp [insA, ha]; done) | (simp [insA, ha]; omega), rfl⟩
            | true =>
              row_cond qq
              exact ⟨by first | (simp [insA, ha]; done) | (simp [insA, ha]; omega), rfl⟩
          | [b, c], hm =>
            refine W_fn_eq (w_fn tab__law_good (Nat.le_trans (by decide) hn) fun m hmn => ?_)
            unfold code__law_good
            row_cond qq
            refine w_ok (lindex_ok (by omega) va) ?_
            cases ha : ixB a nr with
            | false => row_cond qq; exact ⟨by first | (simp [insA, ha]; done) | (simp [insA, ha]; omega), rfl⟩
            | true =>
              row_cond qq
              refine w_ok (lindex_ok (by omega) (hm b (by simp))) ?_
              cases hb : ixB b nr with
              | false => row_cond qq; exact ⟨by simp [insA, ha, hb], rfl⟩
              | true =>
                row_cond qq
                refine w_ok (lfits_ok (by omega) hw (hm c (by simp))) ?_
                row_cond qq
                exact ⟨by simp [insA, ha, hb], rfl⟩
          | b :: c :: e :: r, hm =>
            refine W_fn_eq (w_fn tab__law_good (Nat.le_trans (by decide) hn) fun m hmn => ?_)
            unfold code__law_good
            row_cond qq
            refine w_ok (lindex_ok (by omega) va) ?_
            cases ha : ixB a nr with
            | false => row_cond qq; exact ⟨by first | (simp [insA, ha]; done) | (simp [insA, ha]; omega), rfl⟩
            | true =>
              row_cond qq
              exact ⟨by first | (simp [insA, ha]; done) | (simp [insA, ha]; omega), rfl⟩
        · rw [insB_eq, ho]
          match rest, hm with
          | [], hm =>
            refine W_fn_eq (w_fn tab__law_good (Nat.le_trans (by decide) hn) fun m hmn => ?_)
            unfold code__law_good
            row_cond qq
            refine w_ok (lindex_ok (by omega) va) ?_
            cases ha : ixB a nr with
            | false => row_cond qq; exact ⟨by first | (simp [insA, ha]; done) | (simp [insA, ha]; omega), rfl⟩
            | true =>
              row_cond qq
              exact ⟨by first | (simp [insA, ha]; done) | (simp [insA, ha]; omega), rfl⟩
          | [b], hm =>
            refine W_fn_eq (w_fn tab__law_good (Nat.le_trans (by decide) hn) fun m hmn => ?_)
            unfold code__law_good
            row_cond qq
            refine w_ok (lindex_ok (by omega) va) ?_
            cases ha : ixB a nr with
            | false => row_cond qq; exact ⟨by first | (simp [insA, ha]; done) | (simp [insA, ha]; omega), rfl⟩
            | true =>
              row_cond qq
              refine w_ok (lindex_ok (by omega) (hm b (by simp))) ?_
              row_cond qq
              exact ⟨by first | (simp [insA, ha]; done) | (simp [insA, ha]; omega), rfl⟩
          | [b, c], hm =>
            refine W_fn_eq (w_fn tab__law_good (Nat.le_trans (by decide) hn) fun m hmn => ?_)
            unfold code__law_good
            row_cond qq
            refine w_ok (lindex_ok (by omega) va) ?_
            cases ha : ixB a nr with
            | false => row_cond qq; exact ⟨by first | (simp [insA, ha]; done) | (simp [insA, ha]; omega), rfl⟩
            | true =>
              row_cond qq
              exact ⟨by first | (simp [insA, ha]; done) | (simp [insA, ha]; omega), rfl⟩
          | b :: c :: e :: r, hm =>
            refine W_fn_eq (w_fn tab__law_good (Nat.le_trans (by decide) hn) fun m hmn => ?_)
            unfold code__law_good
            row_cond qq
            refine w_ok (lindex_ok (by omega) va) ?_
            cases ha : ixB a nr with
            | false => row_cond qq; exact ⟨by first | (simp [insA, ha]; done) | (simp [insA, ha]; omega), rfl⟩
            | true =>
              row_cond qq
              exact ⟨by first | (simp [insA, ha]; done) | (simp [insA, ha]; omega), rfl⟩
        · rw [insB_eq, ho]
          match rest, hm with
          | [], hm =>
            refine W_fn_eq (w_fn tab__law_good (Nat.le_trans (by decide) hn) fun m hmn => ?_)
            unfold code__law_good
            row_cond qq
            refine w_ok (lindex_ok (by omega) va) ?_
            cases ha : ixB a nr with
            | false => row_cond qq; exact ⟨by first | (simp [insA, ha]; done) | (simp [insA, ha]; omega), rfl⟩
            | true =>
              row_cond qq
              exact ⟨by first | (simp [insA, ha]; done) | (simp [insA, ha]; omega), rfl⟩
          | [b], hm =>
            refine W_fn_eq (w_fn tab__law_good (Nat.le_trans (by decide) hn) fun m hmn => ?_)
            unfold code__law_good
            row_cond qq
            refine w_ok (lindex_ok (by omega) va) ?_
            cases ha : ixB a nr with
            | false => row_cond qq; exact ⟨by first | (simp [insA, ha]; done) | (simp [insA, ha]; omega), rfl⟩
            | true =>
              row_cond qq
              exact ⟨by first | (simp [insA, ha]; done) | (simp [insA, ha]; omega), rfl⟩
          | [b, c], hm =>
            refine W_fn_eq (w_fn tab__law_good (Nat.le_trans (by decide) hn) fun m hmn => ?_)
            unfold code__law_good
            row_cond qq
            refine w_ok (lindex_ok (by omega) va) ?_
            cases ha : ixB a nr with
            | false => row_cond qq; exact ⟨by first | (simp [insA, ha]; done) | (simp [insA, ha]; omega), rfl⟩
            | true =>
              row_cond qq
              exact ⟨by first | (simp [insA, ha]; done) | (simp [insA, ha]; omega), rfl⟩
          | b :: c :: e :: r, hm =>
            refine W_fn_eq (w_fn tab__law_good (Nat.le_trans (by decide) hn) fun m hmn => ?_)
            unfold code__law_good
            row_cond qq
            refine w_ok (lindex_ok (by omega) va) ?_
            cases ha : ixB a nr with
            | false => row_cond qq; exact ⟨by first | (simp [insA, ha]; done) | (simp [insA, ha]; omega), rfl⟩
            | true =>
              row_cond qq
              exact ⟨by first | (simp [insA, ha]; done) | (simp [insA, ha]; omega), rfl⟩
        · rw [insB_eq, ho]
          match rest, hm with
          | [], hm =>
            refine W_fn_eq (w_fn tab__law_good (Nat.le_trans (by decide) hn) fun m hmn => ?_)
            unfold code__law_good
            row_cond qq
            refine w_ok (lindex_ok (by omega) va) ?_
            cases ha : ixB a nr with
            | false => row_cond qq; exact ⟨by first | (simp [insA, ha]; done) | (simp [insA, ha]; omega), rfl⟩
            | true =>
              row_cond qq
              exact ⟨by first | (simp [insA, ha]; done) | (simp [insA, ha]; omega), rfl⟩
          | [b], hm =>
            refine W_fn_eq (w_fn tab__law_good (Nat.le_trans (by decide) hn) fun m hmn => ?_)
            unfold code__law_good
            row_cond qq
            refine w_ok (lindex_ok (by omega) va) ?_
            cases ha : ixB a nr with
            | false => row_cond qq; exact ⟨by first | (simp [insA, ha]; done) | (simp [insA, ha]; omega), rfl⟩
            | true =>
              row_cond qq
              exact ⟨by first | (simp [insA, ha]; done) | (simp [insA, ha]; omega), rfl⟩
          | [b, c], hm =>
            refine W_fn_eq (w_fn tab__law_good (Nat.le_trans (by decide) hn) fun m hmn => ?_)
            unfold code__law_good
            row_cond qq
            refine w_ok (lindex_ok (by omega) va) ?_
            cases ha : ixB a nr with
            | false => row_cond qq; exact ⟨by first | (simp [insA, ha]; done) | (simp [insA, ha]; omega), rfl⟩
            | true =>
              row_cond qq
              exact ⟨by first | (simp [insA, ha]; done) | (simp [insA, ha]; omega), rfl⟩
          | b :: c :: e :: r, hm =>
            refine W_fn_eq (w_fn tab__law_good (Nat.le_trans (by decide) hn) fun m hmn => ?_)
            unfold code__law_good
            row_cond qq
            refine w_ok (lindex_ok (by omega) va) ?_
            cases ha : ixB a nr with
            | false => row_cond qq; exact ⟨by first | (simp [insA, ha]; done) | (simp [insA, ha]; omega), rfl⟩
            | true =>
              row_cond qq
              exact ⟨by first | (simp [insA, ha]; done) | (simp [insA, ha]; omega), rfl⟩
        · exact absurd ho hz
      · have e : ∀ y : Str, opOf y ≠ .none → strB x y = false := fun y hy => by
          cases x with
          | str z =>
            refine decide_eq_false fun e => ?_
            subst e
            exact hs ⟨_, rfl, hy⟩
          | _ => rfl
        have e2 : insB w ni nr (.tup (x :: a :: rest)) = false := by
          cases x with
          | str z => exact insB_none (by
              cases ho : opOf z with
              | none => rfl
              | _ => exact absurd ⟨z, rfl, by rw [ho]; exact fun h => nomatch h⟩ hs)
          | _ => rfl
        rw [e2]
        exact lgood_no hn hw va hl hxx hpx (e _ (by rw [show opOf "load" = .load from by kernel_rfl]; exact fun h => nomatch h)) (e _ (by rw [show opOf "set" = .set from by kernel_rfl]; exact fun h => nomatch h)) (e _ (by rw [show opOf "times" = .times from by kernel_rfl]; exact fun h => nomatch h)) (e _ (by rw [show opOf "add" = .add from by kernel_rfl]; exact fun h => nomatch h)) (e _ (by rw [show opOf "bend" = .bend from by kernel_rfl]; exact fun h => nomatch h)) (e _ (by rw [show opOf "give" = .give from by kernel_rfl]; exact fun h => nomatch h))
  | @ref k n' mu ds e hm hl =>
    have hv : Val S (k + 1) (.ref n') := .ref e hm hl
    refine W_fn_eq (w_fn tab__law_good (Nat.le_trans (by decide) hn) fun m hmn => ?_)
    unfold code__law_good
    row_cond qq
    exact ⟨rfl, rfl⟩
  | _ => refine W_fn_eq (w_fn tab__law_good (Nat.le_trans (by decide) hn) fun m hmn => ?_); unfold code__law_good; row_cond qq; exact ⟨rfl, rfl⟩
end Kl
set_option Elab.async false
set_option linter.all false
set_option maxRecDepth 100000
set_option maxHeartbeats 4000000
set_option autoImplicit false
set_option exponentiation.threshold 200000
namespace Kl
open PySem PySem.Spec PyProof.Rows L2 Kq
local macro_rules
  | `(tactic| row_cond qb) => `(tactic| first
    | with_reducible assumption
    | ((with_reducible apply lt2_lit); decide)
    | (with_reducible exact tenp_lt _)
    | ((with_reducible apply szQ.num); assumption)
    | ((with_reducible apply szQ.den); assumption)
    | ((with_reducible apply lt2_mul) <;> row_cond qb)
    | ((with_reducible apply lt2_add) <;> row_cond qb)
    | ((with_reducible apply lt2_sub) <;> row_cond qb)
    | ((with_reducible apply lt2_neg) <;> row_cond qb)
    | ((with_reducible apply lt2_abs) <;> row_cond qb)
    | ((with_reducible apply lt2_ediv) <;> row_cond qb))
  | `(tactic| row_cond qg) => `(tactic| first
    | assumption
    | exact o_new
    | exact o_mid
    | exact Ext.get (by assumption) (by assumption)
    | ((with_reducible refine o_old ?_); row_cond qg)
    | (refine Ext.get ?_ (by assumption); row_cond qx))
  | `(tactic| row_cond qx) => `(tactic| first
    | (with_reducible assumption)
    | (with_reducible exact Ext.refl)
    | ((with_reducible apply Ext.app); row_cond qx)
    | (with_reducible exact Ext.trans (by assumption) (by assumption))
    | ((with_reducible refine Ext.trans ?_ (by with_reducible assumption)); row_cond qx))
  | `(tactic| row_cond qm) => `(tactic| first
    | assumption
    | exact mul_ok (by row_cond qb) (by row_cond qb) (by first | omega | simp | decide))
  | `(tactic| row_cond qd) => `(tactic| first
    | assumption
    | exact div_ok (by row_cond qb) (by first | omega | decide) (by first | assumption | omega | exact den_ne _))
  | `(tactic| row_cond qo) => `(tactic| first
    | (with_reducible exact ev_add ..)
    | (with_reducible exact ev_sub ..)
    | ((with_reducible refine ev_mul ?_); row_cond qm)
    | ((with_reducible refine o_divP _ ?_ ?_) <;> first | omega | row_cond qd)
    | ((with_reducible refine o_modP _ ?_); omega)
    | ((with_reducible refine ev_fdiv ?_); row_cond qd)
    | ((with_reducible refine ev_mod ?_); first | assumption | omega | exact den_ne _)
    | (with_reducible exact ev_neg ..)
    | ((with_reducible refine o_pow10 _ ?_); decide)
    | (with_reducible exact o_q0 ..)
    | (with_reducible exact o_q1 ..)
    | (with_reducible exact idx_tup0 ..)
    | (with_reducible exact idx_tup1 ..)
    | (with_reducible exact idx_tup2 ..)
    | (with_reducible exact idx_tup3 ..)
    | (with_reducible exact idx_tup4 ..)
    | (with_reducible exact ev_eq ..)
    | (with_reducible exact ev_ne ..)
    | (with_reducible exact ev_lt ..)
    | (with_reducible exact ev_le ..)
    | (with_reducible exact ev_gt ..)
    | (with_reducible exact ev_ge ..)
    | (with_reducible exact o_eqb ..)
    | (with_reducible exact o_eqQ ..)
    | (with_reducible exact o_neQ ..)
    | (with_reducible exact o_eqV ..)
    | (with_reducible exact o_neV ..)
    | (with_reducible exact o_neb ..)
    | (with_reducible exact tru_bl ..)
    | (with_reducible exact tru_int ..)
    | (with_reducible exact tru_non ..)
    | (with_reducible exact bi_int ..)
    | (with_reducible exact o_intb ..)
    | (with_reducible exact bi_abs ..)
    | (with_reducible exact bi_gcd ..)
    | (with_reducible exact o_max ..)
    | (with_reducible exact o_min ..)
    | (with_reducible exact bi_len_tup ..)
    | ((with_reducible apply o_lenr); row_cond qg)
    | (with_reducible exact o_tt ..)
    | (with_reducible exact o_ii ..)
    | (with_reducible exact o_ib ..)
    | (with_reducible exact o_bb ..)
    | (with_reducible exact o_bi ..)
    | (with_reducible exact o_itemsT ..)
    | ((with_reducible apply o_items); row_cond qg)
    | (with_reducible exact tru_tup ..)
    | (with_reducible exact o_itemsV ..)
    | (with_reducible exact o_itemsM ..)
    | (with_reducible exact o_itemsQ ..)
    | ((with_reducible refine o_addQT _ ?_); simp only [List.length_cons, List.length_nil]; omega)
    | ((with_reducible apply o_addL) <;> first | row_cond qg | (simp only [List.length_cons, List.length_nil, List.length_map]; omega))
    | ((with_reducible refine o_addT0 ?_ _); first | omega | (simp only [List.length_cons, List.length_nil, List.length_map]; omega))
    | ((with_reducible refine o_addT ?_); (try simp only [List.length_cons, List.length_nil, List.length_map, List.length_append]); omega)
    | (with_reducible exact o_lenV ..)
    | (with_reducible exact o_lenM ..)
    | (with_reducible exact o_lenQ ..)
    | (with_reducible exact o_tV ..)
    | (with_reducible exact o_tM ..)
    | (with_reducible exact o_tQ ..)
    | (with_reducible exact o_slV ..)
    | (with_reducible exact o_slM ..)
    | ((with_reducible refine o_repM ?_); omega)
    | (with_reducible exact o_tupV ..)
    | (with_reducible exact o_tupM ..)
    | (with_reducible exact o_tupL ..)
    | (with_reducible exact o_lstL ..)
    | (with_reducible exact o_allL ..)
    | (with_reducible exact o_anyL ..)
    | ((with_reducible refine o_eqS ?_ ?_ _) <;> first | assumption | decide +kernel)
    | ((with_reducible refine o_neS ?_ ?_ _) <;> first | assumption | decide +kernel)
    | ((with_reducible refine o_addS0 ?_ _); first | assumption | decide +kernel)
    | ((with_reducible apply v_tup); assumption)
    | ((with_reducible apply v_str); assumption)
    | ((with_reducible apply v_int); assumption)
    | ((with_reducible apply v_bool); assumption)
    | ((with_reducible apply v_is); assumption)
    | ((with_reducible apply v_isn); assumption)
    | (with_reducible exact o_st ..)
    | (with_reducible exact o_sn ..)
    | (with_reducible exact o_tn ..)
    | (with_reducible exact o_sI ..)
    | (with_reducible exact o_tb ..)
    | (with_reducible exact o_sb ..)
    | (with_reducible exact o_ss ..)
    | (with_reducible exact o_ts ..)
    | (with_reducible exact o_isB ..)
    | (with_reducible exact o_isS ..)
    | (with_reducible exact o_isI ..)
    | (with_reducible exact o_isnI ..)
    | (with_reducible exact o_isN ..)
    | (with_reducible exact o_isnN ..)
    | (with_reducible exact o_isbb ..)
    | (with_reducible exact o_isnb0 ..)
    | (with_reducible exact o_isnnb0 ..)
    | (with_reducible exact o_isnbb ..)
    | (with_reducible exact o_isT ..)
    | (with_reducible exact o_isnT ..)
    | (with_reducible exact o_part0 ..)
    | (with_reducible exact o_part1 ..)
    | (with_reducible exact o_slT ..)
    | (with_reducible exact o_rev ..)
    | ((with_reducible apply o_revL); row_cond qg)
    | ((with_reducible apply o_fld); (focus row_cond qg); (focus rfl); row_cond qj)
    | ((with_reducible apply o_slr); row_cond qg)
    | ((with_reducible refine o_rep ?_); omega)
    | ((with_reducible refine o_lrg1 _ ?_); omega)
    | ((with_reducible refine o_trg1 _ ?_); omega)
    | ((with_reducible refine o_trg2 _ ?_); omega)
    | (with_reducible assumption)
    | ((with_reducible refine gFn ?_); assumption))
  | `(tactic| row_cond qp) => `(tactic| first
    | ((with_reducible refine o_rng ?_); omega)
    | ((with_reducible refine o_rng2 ?_); omega)
    | (with_reducible exact o_itV ..)
    | (with_reducible exact o_itM ..)
    | (with_reducible exact o_zipV ..)
    | (with_reducible exact o_zipVM ..)
    | (with_reducible exact o_itT ..)
    | ((with_reducible apply o_it); row_cond qg)
    | (with_reducible exact o_zip ..)
    | (with_reducible exact o_zip3 ..)
    | (with_reducible exact o_enmT ..)
    | ((with_reducible apply o_enm); row_cond qg)
    | (with_reducible assumption))
  | `(tactic| row_cond qj) => `(tactic| first
    | exact FlR.hit
    | (apply FlR.miss; (focus rfl); row_cond qj))
  | `(tactic| row_cond qu) => `(tactic| first
    | exact PuR.hit
    | exact PuR.nil
    | (apply PuR.miss; (focus rfl); row_cond qu))
  | `(tactic| row_cond qn) => `(tactic| first
    | exact NthR.z
    | (apply NthR.s; row_cond qn))
  | `(tactic| row_cond qk) => `(tactic| first
    | exact PkR.nil
    | (apply PkR.cons; (focus row_cond qn); row_cond qk))
  | `(tactic| row_cond qE) => `(tactic| first
    | refine w_loc ?_
    | (with_reducible refine w_con0 ?_)
    | (with_reducible refine w_con1 ?_)
    | (with_reducible refine w_conh ?_)
    | refine w_con ?_
    | refine w_bin ?_
    | refine w_cmp ?_
    | refine w_idx ?_
    | refine w_call ?_
    | refine w_bi ?_
    | (with_reducible refine w_tup0 ?_)
    | (with_reducible refine w_tup1 ?_)
    | (with_reducible refine w_tupm ?_)
    | refine w_tup ?_
    | refine w_lst ?_
    | refine w_isi ?_
    | refine w_neg ?_
    | refine w_nt ?_
    | refine w_ands ?_
    | refine w_ors ?_
    | refine w_ite ?_
    | refine w_chn ?_
    | refine w_sl ?_
    | refine w_bl ?_
    | refine w_lc ?_
    | refine w_bm ?_
    | refine w_cal ?_
    | refine w_eis ?_
    | refine w_efl ?_
    | refine w_fld ?_
    | refine w_mth ?_
    | refine w_mk ?_
    | refine w_lrg ?_
    | refine w_rep ?_
    | refine w_dgt ?_)
  | `(tactic| row_cond qT) => `(tactic| first
    | refine w_tnt ?_
    | refine w_tand ?_
    | refine w_tor ?_
    | refine w_tite ?_
    | refine w_tof rfl ?_
    | refine w_tlst ?_)
  | `(tactic| row_cond qS) => `(tactic| first
    | refine w_asg ?_
    | refine w_if ?_
    | refine w_ret ?_
    | refine w_ex ?_
    | refine w_for ?_
    | refine w_pass ?_
    | refine w_cont ?_
    | refine w_brk ?_
    | refine w_retN ?_
    | refine w_rse ?_
    | refine w_try ?_
    | refine w_par ?_
    | refine w_sub ?_
    | refine w_fst ?_
    | refine w_aug rfl ?_)
  | `(tactic| row_cond qL) => `(tactic| first
    | refine w_llst ?_
    | refine w_llc ?_
    | refine w_lite ?_
    | refine w_lof rfl ?_)
  | `(tactic| row_cond qI) => `(tactic| first
    | refine w_iex ?_
    | refine w_itmp ?_
    | refine w_irng ?_
    | refine w_izip ?_
    | refine w_izip3 ?_
    | refine w_ienm ?_)
  | `(tactic| row_cond qF) => `(tactic| first
    | refine ift ?_
    | refine iff' ?_
    | refine ift' (decide_eq_true (by first | assumption | omega)) ?_
    | refine iff'' (decide_eq_false (by first | assumption | omega)) ?_
    | refine ift' (by first | (simp only [decide_eq_true_eq, Bool.not_eq_true', decide_eq_false_iff_not, bne_iff_ne, ne_eq, Bool.not_true, Bool.not_false, not_true_eq_false, List.length_map, List.length_cons, List.length_nil]; done) | ((try simp only [decide_eq_true_eq, Bool.not_eq_true', decide_eq_false_iff_not, bne_iff_ne, ne_eq, Bool.not_true, Bool.not_false, not_true_eq_false, List.length_map, List.length_cons, List.length_nil]); first | assumption | omega)) ?_
    | refine iff'' (by first | (simp only [decide_eq_false_iff_not, Bool.not_eq_false', decide_eq_true_eq, bne_eq_false_iff_eq, Bool.not_true, Bool.not_false, not_true_eq_false, List.length_map, List.length_cons, List.length_nil]; done) | ((try simp only [decide_eq_false_iff_not, Bool.not_eq_false', decide_eq_true_eq, bne_eq_false_iff_eq, Bool.not_true, Bool.not_false, not_true_eq_false, List.length_map, List.length_cons, List.length_nil]); first | assumption | omega)) ?_
    | refine ift' (by decide +kernel) ?_
    | refine iff'' (by decide +kernel) ?_)
  | `(tactic| row_cond q0) => `(tactic| first
    | ((with_reducible refine gE ?_); row_cond qE)
    | (with_reducible refine wLoc_s ?_)
    | (with_reducible refine wLoc_z rfl ?_)
    | (with_reducible refine wLoc_v (by assumption) ?_)
    | ((with_reducible refine gR ?_); first | (refine w_ok (by row_cond qo) ?_) | ((with_reducible apply w_pk); (focus row_cond qk)))
    | ((with_reducible refine gP ?_); (refine w_okp (by row_cond qp) ?_))
    | (with_reducible refine w_acons ?_)
    | (with_reducible refine w_anil ?_)
    | ((with_reducible refine gS ?_); row_cond qS)
    | (with_reducible refine wTg_nm ?_)
    | (with_reducible refine wSet_s ?_)
    | (with_reducible refine wSet_z ?_)
    | (with_reducible refine w_nil ?_)
    | ((with_reducible refine gT ?_); row_cond qT)
    | ((with_reducible refine gIf ?_); row_cond qF)
    | ((with_reducible refine gL ?_); row_cond qL)
    | ((with_reducible refine gI ?_); row_cond qI)
    | (with_reducible refine and_bl ?_)
    | (with_reducible refine not_bl ?_)
    | (with_reducible refine wTg_2 ?_)
    | (with_reducible refine wTg_q ?_)
    | (with_reducible refine wTg_3 ?_)
    | (with_reducible refine wTg_5 ?_)
    | (with_reducible refine wWp_cons ?_)
    | (with_reducible refine wWp_nil ?_)
    | (with_reducible refine st_cons ?_)
    | (with_reducible refine st_pad ?_)
    | (with_reducible refine st_z ?_)
    | ((with_reducible apply o_fst); (focus row_cond qg); (focus rfl); (focus (simp only [List.length_cons, List.length_nil]; omega)); (focus row_cond qu))
    | ((with_reducible apply o_mth); (focus row_cond qg); (focus rfl); (focus rfl)))
  | `(tactic| row_cond q1) => `(tactic| first
    | row_cond q0
    | (with_reducible refine w_cons ?_))
  | `(tactic| row_cond qq) => `(tactic| repeat row_cond q1)
  | `(tactic| row_cond qs) => `(tactic| ((with_reducible refine w_cons ?_); repeat row_cond q0))
  | `(tactic| row_cond pk) => `(tactic| first
    | refine peekR ?_ ?_
    | refine peekP ?_ ?_
    | refine peekE ?_ ?_
    | refine peekS ?_ ?_
    | refine peekC ?_ ?_
    | refine peekL ?_ ?_
    | refine peekI ?_ ?_)
/-! ### k66: rows that are spoilt -/
/-- plain values with short tuples -/
inductive Pz (B : Nat) : Nat → D → Prop
  | non {k : Nat} : Pz B (k + 1) .non
  | bl {k : Nat} (b : Bool) : Pz B (k + 1) (.bl b)
  | int {k : Nat} {i : Int} : lt2 i 300 → Pz B (k + 1) (.int i)
  | str {k : Nat} {x : Str} : PyData.canLay0 (.str x) = true → x.length ≤ 1000 → Pz B (k + 1) (.str x)
  | tup {k : Nat} {ds : List D} : (∀ d ∈ ds, Pz B k d) → ds.length ≤ B → Pz B (k + 1) (.tup ds)
theorem Pz.pq {B k : Nat} {d : D} (h : Pz B k d) (hB : B ≤ 1000) : Pq k d := by
  induction h with
  | non => exact .non
  | bl b => exact .bl b
  | int h => exact .int h
  | str h l => exact .str h l
  | tup _ l ih => exact .tup ih (by omega)
theorem Pz.up {B k : Nat} {d : D} (h : Pz B k d) : Pz B (k + 1) d := by
  induction h with
  | non => exact .non
  | bl b => exact .bl b
  | int h => exact .int h
  | str h l => exact .str h l
  | tup _ l ih => exact .tup ih l
theorem Pz.mono {B C k l : Nat} {d : D} (h : Pz B k d) (hl : k ≤ l) (hB : B ≤ C) : Pz C l d := by
  have h2 : Pz C k d := by
    induction h with
    | non => exact .non
    | bl b => exact .bl b
    | int h => exact .int h
    | str h l => exact .str h l
    | tup _ l ih => exact .tup (fun d hd => ih d hd (by omega)) (by omega)
  obtain ⟨j, rfl⟩ := Nat.le.dest hl
  clear hl h
  induction j with
  | zero => exact h2
  | succ j ih => exact ih.up
theorem Pz.x {B k : Nat} {d : D} (h : Pz B k d) : isX d = false := by cases h <;> rfl
/-- a row: plain, or a list of plain values that is neither of two objects -/
def RowAt (p rr : Nat) (B k : Nat) (S : Sto) (d : D) : Prop := Pz B k d ∨ ∃ n mu ds, d = .ref n ∧ n ≠ p ∧ n ≠ rr ∧ S[n]? = some (.lst mu ds) ∧ (∀ x ∈ ds, Pz B k x) ∧ ds.length ≤ 1000
theorem RowAt.val {p rr B k : Nat} {S : Sto} {d : D} (h : RowAt p rr B k S d) (hB : B ≤ 1000) : Val S (k + 1) d := by
  rcases h with h | ⟨n, mu, ds, rfl, _, _, h, hm, hl⟩
  · exact ((h.pq hB).2 S).up
  · exact .ref h (fun x hx => ((hm x hx).pq hB).2 S) (by omega)
theorem RowAt.mono {p rr B C k l : Nat} {S : Sto} {d : D} (h : RowAt p rr B k S d) (hl : k ≤ l) (hB : B ≤ C) : RowAt p rr C l S d := by
  rcases h with h | ⟨n, mu, ds, e, h1, h2, h3, h4, h5⟩
  · exact .inl (h.mono hl hB)
  · exact .inr ⟨n, mu, ds, e, h1, h2, h3, fun x hx => (h4 x hx).mono hl hB, h5⟩
theorem RowAt.keep {p rr B k : Nat} {S S' : Sto} {d : D} (h : RowAt p rr B k S d) (f : ∀ n mu ds, n ≠ p → n ≠ rr → S[n]? = some (.lst mu ds) → S'[n]? = some (.lst mu ds)) : RowAt p rr B k S' d := by
  rcases h with h | ⟨n, mu, ds, e, h1, h2, h3, h4, h5⟩
  · exact .inl h
  · exact .inr ⟨n, mu, ds, e, h1, h2, f n mu ds h1 h2 h3, h4, h5⟩
theorem RowAt.fst {p rr B k : Nat} {S : Sto} {x : D} {r : List D} (h : RowAt p rr B (k + 1) S (.tup (x :: r))) : Pz B k x := by
  rcases h with h | ⟨n, mu, ds, e, _⟩
  · cases h with
    | tup hm _ => exact hm x (by simp)
  · cases e
theorem ins_pz {w : Int} {ni nr : Nat} (hw : w ≤ 200) (hi : ni ≤ 10000) (hr : nr ≤ 10000) {y : Ins} (h : y.ok w ni nr) : Pz 4 2 y.d := by
  have vs : ∀ {i : Nat} {k : Nat}, i ≤ 10000 → Pz 4 (k + 1) (.int (i : Nat)) := fun {i k} h => .int (lt2_mono (show lt2 (i : Int) 20 by unfold lt2; omega) (by decide))
  have vf : ∀ {v : Int} {k : Nat}, fit w v → Pz 4 (k + 1) (.int v) := fun {v k} h => .int (lt2_mono (h.lt hw) (by decide))
  have two : ∀ {z : Str} {a : D}, PyData.canLay0 (.str z) = true → z.length ≤ 1000 → Pz 4 1 a → Pz 4 2 (.tup [.str z, a]) := fun {z a} h1 h2 h3 => .tup (fun d hd => by
    simp only [List.mem_cons, List.not_mem_nil, or_false] at hd
    rcases hd with rfl | rfl
    · exact .str h1 h2
    · exact h3) (by simp)
  have three : ∀ {z : Str} {a b : D}, PyData.canLay0 (.str z) = true → z.length ≤ 1000 → Pz 4 1 a → Pz 4 1 b → Pz 4 2 (.tup [.str z, a, b]) := fun {z a b} h1 h2 h3 h4 => .tup (fun d hd => by
    simp only [List.mem_cons, List.not_mem_nil, or_false] at hd
    rcases hd with rfl | rfl | rfl
    · exact .str h1 h2
    · exact h3
    · exact h4) (by simp)
  cases y with
  | load r i => exact three (by decide +kernel) (by decide) (vs (by have := h.1; omega)) (vs (by have := h.2; omega))
  | set r v => exact three (by decide +kernel) (by decide) (vs (by have := h.1; omega)) (vf h.2)
  | times r s v => exact .tup (fun d hd => by
      simp only [List.mem_cons, List.not_mem_nil, or_false] at hd
      rcases hd with rfl | rfl | rfl | rfl
      · exact .str (by decide +kernel) (by decide)
      · exact vs (by have := h.1; omega)
      · exact vs (by have := h.2.1; omega)
      · exact vf h.2.2) (by simp)
  | add r s => exact three (by decide +kernel) (by decide) (vs (by have := h.1; omega)) (vs (by have := h.2; omega))
  | bend r => exact two (by decide +kernel) (by decide) (vs (by have : r < nr := h; omega))
  | give r => exact two (by decide +kernel) (by decide) (vs (by have : r < nr := h; omega))
theorem spoilt_w {n : Nat} (hn : 2 ≤ n) {p rr B k : Nat} {w : Int} {ni nr : Nat} {ds : List D} (hw : 2 ≤ w ∧ w ≤ 200) (hi : ni ≤ 10) (hr : nr ≤ 10) (hk : 1 ≤ k) (hds : ∀ d ∈ ds, Pz B k d) (hne : ds ≠ []) (hl : ds.length ≤ B) (hB1 : 3 ≤ B) (hB : B ≤ 10) {S : Sto} (hs : Stm p S) (hrr : rr < S.length) {Q : D → Sto → Prop} {E : XE}
    (hq : ∀ e S', RowAt p rr (B + 1) (k + 2) S' e → Stm p S' → Chg p S S' → Q e S') : wR ((W T n).fn "_law_spoilt" [.ref p, .tup ds, .int w, .int ni, .int nr] S) Q E := by
  refine w_fn tab__law_spoilt (Nat.le_trans (by decide) hn) fun m hm => ?_
  unfold code__law_spoilt
  have hw0 : 0 ≤ w - 1 ∧ w - 1 ≤ 1000000 := by omega
  have hlf := half_lt hw.2
  have hpl := hs.lt
  have hdl : 0 < ds.length := List.length_pos_iff.mpr hne
  unfold half at hlf
  row_cond qq
  refine w_ok (o_shl1 hw0 _) ?_
  generalize (2 : Int) ^ (w - 1).toNat = hf at hlf ⊢
  row_cond qq
  refine take_ok (by omega) hs (by omega) (lt2_mono (show lt2 (ds.length : Int) 10 by unfold lt2; omega) (by decide)) fun a S1 a0 a1 hs1 x1 => ?_
  obtain ⟨a, rfl⟩ := Int.eq_ofNat_of_zero_le a0
  have a2 : a < ds.length := by omega
  row_cond qq
  have hs2 := hs1.app [Ob.lst true [D.non, D.bl true, D.int (-1), D.int ni, D.int nr, D.int hf, D.int (-hf - 1), D.int (hf - 1), D.str "add", D.str "jump", D.tup [D.int 0], D.int 0, D.int 1, D.bl false, D.str "set"]]
  refine take_ok (by omega) hs2 (by decide) (lt2_mono (lt2_lit (by decide)) (by decide)) fun b S3 b0 b1 hs3 x3 => ?_
  have x3' : Chg p S S3 := x1.trans ((Chg.of hs1.lt (S' := S1 ++ _) ⟨_, rfl⟩).trans x3)
  row_cond qq
  refine w_pick (x3.new hs1.lt rfl) b0 (by simpa using b1) fun e he => ?_
  have pi : ∀ {i : Int} {j : Nat}, lt2 i 300 → Pz (B + 1) (j + 1) (.int i) := fun h => .int h
  have pe : Pz (B + 1) (k + 1) e := by
    have ls : ∀ {i : Nat}, i ≤ 10 → lt2 (i : Int) 300 := fun {i} h => lt2_mono (show lt2 (i : Int) 10 by unfold lt2; omega) (by decide)
    simp only [List.mem_cons, List.not_mem_nil, or_false] at he
    rcases he with rfl | rfl | rfl | rfl | rfl | rfl | rfl | rfl | rfl | rfl | rfl | rfl | rfl | rfl | rfl
    · exact .non
    · exact .bl _
    · exact .int (by decide)
    · exact .int (ls hi)
    · exact .int (ls hr)
    · exact .int (lt2_mono hlf (by decide))
    · exact .int (lt2_mono (lt2_sub (lt2_neg hlf) (show lt2 1 2 by decide)) (by decide))
    · exact .int (lt2_mono (lt2_sub hlf (show lt2 1 2 by decide)) (by decide))
    · exact .str (by decide +kernel) (by decide)
    · exact .str (by decide +kernel) (by decide)
    · obtain ⟨j, rfl⟩ := Nat.exists_eq_add_of_le' hk
      exact .tup (fun d hd => by rw [List.mem_singleton.mp hd]; exact .int (by decide)) (by simp)
    · exact .int (by decide)
    · exact .int (by decide)
    · exact .bl _
    · exact .str (by decide +kernel) (by decide)
  have hex := pe.x
  have hmz : ∀ d ∈ ds, Pz (B + 1) (k + 1) d := fun d hd => (hds d hd).mono (by omega) (by omega)
  have catL : ∀ {xs : List D}, (∀ d ∈ xs, Pz (B + 1) (k + 1) d) → xs.length ≤ B + 1 → ∀ S', RowAt p rr (B + 1) (k + 2) S' (.tup xs) := fun h hl S' => .inl (.tup h hl)
  have c1 : Kq.cutD ds none (some (a : Int)) = ds.take a := cut_to a
  have c2 : Kq.cutD ds (some ((a : Int) + 1)) none = ds.drop (a + 1) := cut_from (a + 1)
  have tm : ∀ d ∈ ds.take a, Pz (B + 1) (k + 1) d := fun d hd => hmz d (List.mem_of_mem_take hd)
  have dm : ∀ d ∈ ds.drop (a + 1), Pz (B + 1) (k + 1) d := fun d hd => hmz d (List.mem_of_mem_drop hd)
  have tl : (ds.take a).length = a := by rw [List.length_take]; omega
  have dl : (ds.drop (a + 1)).length = ds.length - (a + 1) := List.length_drop
  have app : ∀ {x y : List D}, (∀ d ∈ x, Pz (B + 1) (k + 1) d) → (∀ d ∈ y, Pz (B + 1) (k + 1) d) → ∀ d ∈ x ++ y, Pz (B + 1) (k + 1) d := fun h1 h2 d hd => (List.mem_append.mp hd).elim (h1 d) (h2 d)
  have oneE : ∀ d ∈ [e], Pz (B + 1) (k + 1) d := fun d hd => by rw [List.mem_singleton.mp hd]; exact pe
  have addT : ∀ (x y : List D) S', x.length + y.length ≤ 1000 → binD .add (.tup x) (.tup y) S' = .ok (.tup (x ++ y)) S' := fun x y S' h => o_addT (by omega)
  row_cond qq
  refine take_ok (by omega) hs3 (by decide) (lt2_mono (lt2_lit (by decide)) (by decide)) fun md S4 m0 m1 hs4 x4 => ?_
  row_cond qq
  refine ifd (fun _ => ?_) fun h1 => ?_
  · row_cond qq
    rw [c1, c2]
    refine w_ok (addT _ _ _ (by omega)) ?_
    exact hq _ _ (catL (app tm dm) (by rw [List.length_append]; omega) _) hs4 (x3'.trans x4)
  row_cond qq
  refine ifd (fun _ => ?_) fun h2 => ?_
  · row_cond qq
    refine wLoc_z hex ?_
    row_cond qq
    exact hq _ _ (catL (app hmz oneE) (by rw [List.length_append]; simp only [List.length_cons, List.length_nil]; omega) _) hs4 (x3'.trans x4)
  row_cond qq
  refine ifd (fun _ => ?_) fun h3 => ?_
  · row_cond qq
    obtain ⟨x0, hx0⟩ : ∃ x0, ds[0]? = some x0 := ⟨ds[0], List.getElem?_eq_getElem hdl⟩
    have px0 : Pz (B + 1) (k + 1) x0 := hmz x0 (List.mem_of_getElem? hx0)
    have hx0x := px0.x
    refine w_ok (o_idx (n := 0) rfl (d := x0) hx0) ?_
    row_cond qq
    have hs5 := (hs4.app [Ob.lst true ds]).app [Ob.lst true [D.ref S4.length, D.non, D.tup [], x0, D.tup [D.tup ds], D.tup [D.str "times", D.int 0, D.int 0]]]
    refine take_ok (by omega) hs5 (by decide) (lt2_mono (lt2_lit (by decide)) (by decide)) fun c S6 c0 c1' hs6 x6 => ?_
    have x7 : Chg p S4 S6 := (Chg.of hs4.lt (S' := S4 ++ [Ob.lst true ds] ++ [Ob.lst true [D.ref S4.length, D.non, D.tup [], x0, D.tup [D.tup ds], D.tup [D.str "times", D.int 0, D.int 0]]]) ⟨[Ob.lst true ds] ++ [Ob.lst true [D.ref S4.length, D.non, D.tup [], x0, D.tup [D.tup ds], D.tup [D.str "times", D.int 0, D.int 0]]], by simp⟩).trans x6
    have hlst : S6[S4.length]? = some (.lst true ds) := x6.get (o_old o_new) (by have := hs4.lt; omega)
    have hll : S.length ≤ S4.length := (x3'.trans x4).len
    row_cond qq
    refine w_pick (x6.get o_new (by have := hs4.lt; simp; omega)) c0 (by simpa using c1') fun z hz => ?_
    have fin : RowAt p rr (B + 1) (k + 2) S6 z → Q z S6 := fun h => hq z S6 h hs6 ((x3'.trans x4).trans x7)
    simp only [List.mem_cons, List.not_mem_nil, or_false] at hz
    rcases hz with rfl | rfl | rfl | rfl | rfl | rfl
    · exact fin (.inr ⟨_, _, _, rfl, by have := hs4.lt; omega, by omega, hlst, fun x hx => (hmz x hx).up, by omega⟩)
    · exact fin (.inl .non)
    · exact fin (.inl (.tup (fun _ h => nomatch h) (by simp)))
    · exact fin (.inl px0.up)
    · exact fin (.inl (.tup (fun d hd => by rw [List.mem_singleton.mp hd]; exact .tup (fun d hd => by
        obtain ⟨j, rfl⟩ := Nat.exists_eq_add_of_le' hk
        exact (hds d hd).mono (by omega) (by omega)) (by omega)) (by simp)))
    · exact fin (.inl (.tup (fun d hd => by
        simp only [List.mem_cons, List.not_mem_nil, or_false] at hd
        rcases hd with rfl | rfl | rfl
        · exact .str (by decide +kernel) (by decide)
        · exact .int (by decide)
        · exact .int (by decide)) (by simp; omega)))
  · row_cond qq
    rw [c1]
    refine wLoc_z hex ?_
    row_cond qq
    rw [c2]
    refine w_ok (addT (ds.take a ++ [e]) (ds.drop (a + 1)) _ (by rw [List.length_append]; simp only [List.length_cons, List.length_nil]; omega)) ?_
    exact hq _ _ (catL (app (app tm oneE) dm) (by rw [List.length_append, List.length_append]; simp only [List.length_cons, List.length_nil]; omega) _) hs4 (x3'.trans x4)
end Kl
set_option Elab.async false
set_option linter.all false
set_option maxRecDepth 100000
set_option maxHeartbeats 4000000
set_option autoImplicit false
set_option exponentiation.threshold 200000
namespace Kl
open PySem PySem.Spec PyProof.Rows L2 Kq
local macro_rules
  | `(tactic| row_cond qb) => `(tactic| first
    | with_reducible assumption
    | ((with_reducible apply lt2_lit); decide)
    | (with_reducible exact tenp_lt _)
    | ((with_reducible apply szQ.num); assumption)
    | ((with_reducible apply szQ.den); assumption)
    | ((with_reducible apply lt2_mul) <;> row_cond qb)
    | ((with_reducible apply lt2_add) <;> row_cond qb)
    | ((with_reducible apply lt2_sub) <;> row_cond qb)
    | ((with_reducible apply lt2_neg) <;> row_cond qb)
    | ((with_reducible apply lt2_abs) <;> row_cond qb)
    | ((with_reducible apply lt2_ediv) <;> row_cond qb))
  | `(tactic| row_cond qg) => `(tactic| first
    | assumption
    | exact o_new
    | exact o_mid
    | exact Ext.get (by assumption) (by assumption)
    | ((with_reducible refine o_old ?_); row_cond qg)
    | (refine Ext.get ?_ (by assumption); row_cond qx))
  | `(tactic| row_cond qx) => `(tactic| first
    | (with_reducible assumption)
    | (with_reducible exact Ext.refl)
    | ((with_reducible apply Ext.app); row_cond qx)
    | (with_reducible exact Ext.trans (by assumption) (by assumption))
    | ((with_reducible refine Ext.trans ?_ (by with_reducible assumption)); row_cond qx))
  | `(tactic| row_cond qm) => `(tactic| first
    | assumption
    | exact mul_ok (by row_cond qb) (by row_cond qb) (by first | omega | simp | decide))
  | `(tactic| row_cond qd) => `(tactic| first
    | assumption
    | exact div_ok (by row_cond qb) (by first | omega | decide) (by first | assumption | omega | exact den_ne _))
  | `(tactic| row_cond qo) => `(tactic| first
    | (with_reducible exact ev_add ..)
    | (with_reducible exact ev_sub ..)
    | ((with_reducible refine ev_mul ?_); row_cond qm)
    | ((with_reducible refine o_divP _ ?_ ?_) <;> first | omega | row_cond qd)
    | ((with_reducible refine o_modP _ ?_); omega)
    | ((with_reducible refine ev_fdiv ?_); row_cond qd)
    | ((with_reducible refine ev_mod ?_); first | assumption | omega | exact den_ne _)
    | (with_reducible exact ev_neg ..)
    | ((with_reducible refine o_pow10 _ ?_); decide)
    | (with_reducible exact o_q0 ..)
    | (with_reducible exact o_q1 ..)
    | (with_reducible exact idx_tup0 ..)
    | (with_reducible exact idx_tup1 ..)
    | (with_reducible exact idx_tup2 ..)
    | (with_reducible exact idx_tup3 ..)
    | (with_reducible exact idx_tup4 ..)
    | (with_reducible exact ev_eq ..)
    | (with_reducible exact ev_ne ..)
    | (with_reducible exact ev_lt ..)
    | (with_reducible exact ev_le ..)
    | (with_reducible exact ev_gt ..)
    | (with_reducible exact ev_ge ..)
    | (with_reducible exact o_eqb ..)
    | (with_reducible exact o_eqQ ..)
    | (with_reducible exact o_neQ ..)
    | (with_reducible exact o_eqV ..)
    | (with_reducible exact o_neV ..)
    | (with_reducible exact o_neb ..)
    | (with_reducible exact tru_bl ..)
    | (with_reducible exact tru_int ..)
    | (with_reducible exact tru_non ..)
    | (with_reducible exact bi_int ..)
    | (with_reducible exact o_intb ..)
    | (with_reducible exact bi_abs ..)
    | (with_reducible exact bi_gcd ..)
    | (with_reducible exact o_max ..)
    | (with_reducible exact o_min ..)
    | (with_reducible exact bi_len_tup ..)
    | ((with_reducible apply o_lenr); row_cond qg)
    | (with_reducible exact o_tt ..)
    | (with_reducible exact o_ii ..)
    | (with_reducible exact o_ib ..)
    | (with_reducible exact o_bb ..)
    | (with_reducible exact o_bi ..)
    | (with_reducible exact o_itemsT ..)
    | ((with_reducible apply o_items); row_cond qg)
    | (with_reducible exact tru_tup ..)
    | (with_reducible exact o_itemsV ..)
    | (with_reducible exact o_itemsM ..)
    | (with_reducible exact o_itemsQ ..)
    | ((with_reducible refine o_addQT _ ?_); simp only [List.length_cons, List.length_nil]; omega)
    | ((with_reducible apply o_addL) <;> first | row_cond qg | (simp only [List.length_cons, List.length_nil, List.length_map]; omega))
    | ((with_reducible refine o_addT0 ?_ _); first | omega | (simp only [List.length_cons, List.length_nil, List.length_map]; omega))
    | ((with_reducible refine o_addT ?_); (try simp only [List.length_cons, List.length_nil, List.length_map, List.length_append]); omega)
    | (with_reducible exact o_lenV ..)
    | (with_reducible exact o_lenM ..)
    | (with_reducible exact o_lenQ ..)
    | (with_reducible exact o_tV ..)
    | (with_reducible exact o_tM ..)
    | (with_reducible exact o_tQ ..)
    | (with_reducible exact o_slV ..)
    | (with_reducible exact o_slM ..)
    | ((with_reducible refine o_repM ?_); omega)
    | (with_reducible exact o_tupV ..)
    | (with_reducible exact o_tupM ..)
    | (with_reducible exact o_tupL ..)
    | (with_reducible exact o_lstL ..)
    | (with_reducible exact o_allL ..)
    | (with_reducible exact o_anyL ..)
    | ((with_reducible refine o_eqS ?_ ?_ _) <;> first | assumption | decide +kernel)
    | ((with_reducible refine o_neS ?_ ?_ _) <;> first | assumption | decide +kernel)
    | ((with_reducible refine o_addS0 ?_ _); first | assumption | decide +kernel)
    | ((with_reducible apply v_tup); assumption)
    | ((with_reducible apply v_str); assumption)
    | ((with_reducible apply v_int); assumption)
    | ((with_reducible apply v_bool); assumption)
    | ((with_reducible apply v_is); assumption)
    | ((with_reducible apply v_isn); assumption)
    | (with_reducible exact o_st ..)
    | (with_reducible exact o_sn ..)
    | (with_reducible exact o_tn ..)
    | (with_reducible exact o_sI ..)
    | (with_reducible exact o_tb ..)
    | (with_reducible exact o_sb ..)
    | (with_reducible exact o_ss ..)
    | (with_reducible exact o_ts ..)
    | (with_reducible exact o_isB ..)
    | (with_reducible exact o_isS ..)
    | (with_reducible exact o_isI ..)
    | (with_reducible exact o_isnI ..)
    | (with_reducible exact o_isN ..)
    | (with_reducible exact o_isnN ..)
    | (with_reducible exact o_isbb ..)
    | (with_reducible exact o_isnb0 ..)
    | (with_reducible exact o_isnnb0 ..)
    | (with_reducible exact o_isnbb ..)
    | (with_reducible exact o_isT ..)
    | (with_reducible exact o_isnT ..)
    | (with_reducible exact o_part0 ..)
    | (with_reducible exact o_part1 ..)
    | (with_reducible exact o_slT ..)
    | (with_reducible exact o_rev ..)
    | ((with_reducible apply o_revL); row_cond qg)
    | ((with_reducible apply o_fld); (focus row_cond qg); (focus rfl); row_cond qj)
    | ((with_reducible apply o_slr); row_cond qg)
    | ((with_reducible refine o_rep ?_); omega)
    | ((with_reducible refine o_lrg1 _ ?_); omega)
    | ((with_reducible refine o_trg1 _ ?_); omega)
    | ((with_reducible refine o_trg2 _ ?_); omega)
    | (with_reducible assumption)
    | ((with_reducible refine gFn ?_); assumption))
  | `(tactic| row_cond qp) => `(tactic| first
    | ((with_reducible refine o_rng ?_); omega)
    | ((with_reducible refine o_rng2 ?_); omega)
    | (with_reducible exact o_itV ..)
    | (with_reducible exact o_itM ..)
    | (with_reducible exact o_zipV ..)
    | (with_reducible exact o_zipVM ..)
    | (with_reducible exact o_itT ..)
    | ((with_reducible apply o_it); row_cond qg)
    | (with_reducible exact o_zip ..)
    | (with_reducible exact o_zip3 ..)
    | (with_reducible exact o_enmT ..)
    | ((with_reducible apply o_enm); row_cond qg)
    | (with_reducible assumption))
  | `(tactic| row_cond qj) => `(tactic| first
    | exact FlR.hit
    | (apply FlR.miss; (focus rfl); row_cond qj))
  | `(tactic| row_cond qu) => `(tactic| first
    | exact PuR.hit
    | exact PuR.nil
    | (apply PuR.miss; (focus rfl); row_cond qu))
  | `(tactic| row_cond qn) => `(tactic| first
    | exact NthR.z
    | (apply NthR.s; row_cond qn))
  | `(tactic| row_cond qk) => `(tactic| first
    | exact PkR.nil
    | (apply PkR.cons; (focus row_cond qn); row_cond qk))
  | `(tactic| row_cond qE) => `(tactic| first
    | refine w_loc ?_
    | (with_reducible refine w_con0 ?_)
    | (with_reducible refine w_con1 ?_)
    | (with_reducible refine w_conh ?_)
    | refine w_con ?_
    | refine w_bin ?_
    | refine w_cmp ?_
    | refine w_idx ?_
    | refine w_call ?_
    | refine w_bi ?_
    | (with_reducible refine w_tup0 ?_)
    | (with_reducible refine w_tup1 ?_)
    | (with_reducible refine w_tupm ?_)
    | refine w_tup ?_
    | refine w_lst ?_
    | refine w_isi ?_
    | refine w_neg ?_
    | refine w_nt ?_
    | refine w_ands ?_
    | refine w_ors ?_
    | refine w_ite ?_
    | refine w_chn ?_
    | refine w_sl ?_
    | refine w_bl ?_
    | refine w_lc ?_
    | refine w_bm ?_
    | refine w_cal ?_
    | refine w_eis ?_
    | refine w_efl ?_
    | refine w_fld ?_
    | refine w_mth ?_
    | refine w_mk ?_
    | refine w_lrg ?_
    | refine w_rep ?_
    | refine w_dgt ?_)
  | `(tactic| row_cond qT) => `(tactic| first
    | refine w_tnt ?_
    | refine w_tand ?_
    | refine w_tor ?_
    | refine w_tite ?_
    | refine w_tof rfl ?_
    | refine w_tlst ?_)
  | `(tactic| row_cond qS) => `(tactic| first
    | refine w_asg ?_
    | refine w_if ?_
    | refine w_ret ?_
    | refine w_ex ?_
    | refine w_for ?_
    | refine w_pass ?_
    | refine w_cont ?_
    | refine w_brk ?_
    | refine w_retN ?_
    | refine w_rse ?_
    | refine w_try ?_
    | refine w_par ?_
    | refine w_sub ?_
    | refine w_fst ?_
    | refine w_aug rfl ?_)
  | `(tactic| row_cond qL) => `(tactic| first
    | refine w_llst ?_
    | refine w_llc ?_
    | refine w_lite ?_
    | refine w_lof rfl ?_)
  | `(tactic| row_cond qI) => `(tactic| first
    | refine w_iex ?_
    | refine w_itmp ?_
    | refine w_irng ?_
    | refine w_izip ?_
    | refine w_izip3 ?_
    | refine w_ienm ?_)
  | `(tactic| row_cond qF) => `(tactic| first
    | refine ift ?_
    | refine iff' ?_
    | refine ift' (decide_eq_true (by first | assumption | omega)) ?_
    | refine iff'' (decide_eq_false (by first | assumption | omega)) ?_
    | refine ift' (by first | (simp only [decide_eq_true_eq, Bool.not_eq_true', decide_eq_false_iff_not, bne_iff_ne, ne_eq, Bool.not_true, Bool.not_false, not_true_eq_false, List.length_map, List.length_cons, List.length_nil]; done) | ((try simp only [decide_eq_true_eq, Bool.not_eq_true', decide_eq_false_iff_not, bne_iff_ne, ne_eq, Bool.not_true, Bool.not_false, not_true_eq_false, List.length_map, List.length_cons, List.length_nil]); first | assumption | omega)) ?_
    | refine iff'' (by first | (simp only [decide_eq_false_iff_not, Bool.not_eq_false', decide_eq_true_eq, bne_eq_false_iff_eq, Bool.not_true, Bool.not_false, not_true_eq_false, List.length_map, List.length_cons, List.length_nil]; done) | ((try simp only [decide_eq_false_iff_not, Bool.not_eq_false', decide_eq_true_eq, bne_eq_false_iff_eq, Bool.not_true, Bool.not_false, not_true_eq_false, List.length_map, List.length_cons, List.length_nil]); first | assumption | omega)) ?_
    | refine ift' (by decide +kernel) ?_
    | refine iff'' (by decide +kernel) ?_)
  | `(tactic| row_cond q0) => `(tactic| first
    | ((with_reducible refine gE ?_); row_cond qE)
    | (with_reducible refine wLoc_s ?_)
    | (with_reducible refine wLoc_z rfl ?_)
    | (with_reducible refine wLoc_v (by assumption) ?_)
    | ((with_reducible refine gR ?_); first | (refine w_ok (by row_cond qo) ?_) | ((with_reducible apply w_pk); (focus row_cond qk)))
    | ((with_reducible refine gP ?_); (refine w_okp (by row_cond qp) ?_))
    | (with_reducible refine w_acons ?_)
    | (with_reducible refine w_anil ?_)
    | ((with_reducible refine gS ?_); row_cond qS)
    | (with_reducible refine wTg_nm ?_)
    | (with_reducible refine wSet_s ?_)
    | (with_reducible refine wSet_z ?_)
    | (with_reducible refine w_nil ?_)
    | ((with_reducible refine gT ?_); row_cond qT)
    | ((with_reducible refine gIf ?_); row_cond qF)
    | ((with_reducible refine gL ?_); row_cond qL)
    | ((with_reducible refine gI ?_); row_cond qI)
    | (with_reducible refine and_bl ?_)
    | (with_reducible refine not_bl ?_)
    | (with_reducible refine wTg_2 ?_)
    | (with_reducible refine wTg_q ?_)
    | (with_reducible refine wTg_3 ?_)
    | (with_reducible refine wTg_5 ?_)
    | (with_reducible refine wWp_cons ?_)
    | (with_reducible refine wWp_nil ?_)
    | (with_reducible refine st_cons ?_)
    | (with_reducible refine st_pad ?_)
    | (with_reducible refine st_z ?_)
    | ((with_reducible apply o_fst); (focus row_cond qg); (focus rfl); (focus (simp only [List.length_cons, List.length_nil]; omega)); (focus row_cond qu))
    | ((with_reducible apply o_mth); (focus row_cond qg); (focus rfl); (focus rfl)))
  | `(tactic| row_cond q1) => `(tactic| first
    | row_cond q0
    | (with_reducible refine w_cons ?_))
  | `(tactic| row_cond qq) => `(tactic| repeat row_cond q1)
  | `(tactic| row_cond qs) => `(tactic| ((with_reducible refine w_cons ?_); repeat row_cond q0))
  | `(tactic| row_cond pk) => `(tactic| first
    | refine peekR ?_ ?_
    | refine peekP ?_ ?_
    | refine peekE ?_ ?_
    | refine peekS ?_ ?_
    | refine peekC ?_ ?_
    | refine peekL ?_ ?_
    | refine peekI ?_ ?_)
/-! ### try -/
theorem w_tryX {F : Wd} {σ : Sl} {S : Sto} {nx : Sl → Sto → Prop} {rt : D → Sto → Prop} {er : XS} {bk ct : Sl → Sto → Prop} {b : Cms} {hs : Hds} (P : XS) (h : wSs F b σ S nx rt P bk ct) (k : ∀ x fs σ1 S1, P x fs σ1 S1 → wH F hs x fs σ1 S1 nx rt er bk ct) : wS F (.try_ b hs) σ S nx rt er bk ct := by
  refine w_try ?_
  rw [wSs_iff] at h ⊢
  exact RS.wp_mono h (fun _ _ => id) (fun _ _ => id) (fun x fs σ1 S1 z => k x fs σ1 S1 z) (fun _ _ => id) fun _ _ => id
/-! ### k66: where the code is wrong -/
theorem mapO_len {f : D → Option PyData} : ∀ {ds : List D} {ps : List PyData}, mapO f ds = some ps → ps.length = ds.length
  | [], _, h => by cases h; rfl
  | d :: r, ps, h => by
    unfold mapO at h
    split at h
    · rename_i y s e3 e4
      cases h
      simp [mapO_len e4]
    · cases h
theorem v_neL0 {S : Sto} {k a b : Nat} {mu mv : Bool} {ds : List D} (ha : S[a]? = some (.lst mu ds)) (hb : S[b]? = some (.lst mv [])) (hv : ∀ d ∈ ds, Val S k d) (hl : ds.length ≤ 100000) (hk : k ≤ 11) : cmpD .ne (.ref a) (.ref b) S = .ok (.bl (!ds.isEmpty)) S := by
  have hV : Val S (k + 1) (.ref a) := .ref ha hv hl
  have key : ∀ ps : List PyData, ps.length = ds.length → PyData.eqv (.list ps) (.list []) = ds.isEmpty := fun ps hl => by
    cases ps with
    | nil => cases ds with
      | nil => simp [PyData.eqv, PyData.eqvAll]
      | cons => simp at hl
    | cons => cases ds with
      | nil => simp at hl
      | cons => simp [PyData.eqv, PyData.eqvAll]
  have s0 : SeqAt.shaped (.list []) = true := by decide
  have t0 : toPS S (.ref b) = some (.list []) := by unfold toPS; simp only [hb]; rfl
  have at' : ∀ j, k + 1 ≤ j → ∃ ps, toPk S j (.ref a) = some (.list ps) ∧ ps.length = ds.length ∧ SeqAt.shaped (.list ps) = true := fun j hj => by
    obtain ⟨i, rfl⟩ : ∃ i, j = i + 1 := ⟨j - 1, by omega⟩
    obtain ⟨p, e1, c1, c2⟩ := v_data hV (i + 1) hj
    have e2 := e1
    unfold toPk at e2
    simp only [ha] at e2
    split at e2
    · rename_i ps e3
      cases e2
      exact ⟨ps, e1, mapO_len e3, shaped_of c1 c2 (by omega)⟩
    · cases e2
  have e : eqD S (.ref a) (.ref b) = some ds.isEmpty := by
    unfold eqD
    cases e1 : toPS S (.ref a) with
    | some p =>
      unfold toPS at e1
      simp only [ha] at e1
      rw [Option.map_eq_some_iff] at e1
      obtain ⟨ps, e2, rfl⟩ := e1
      have e3 := toPs_k (S := S) ds hv e2
      obtain ⟨qs, e4, e5, e6⟩ := at' (k + 1) (Nat.le_refl _)
      unfold toPk at e4
      simp only [ha, e3] at e4
      cases e4
      simp only [t0]
      rw [if_pos ⟨e6, s0⟩, key _ e5]
    | none =>
      obtain ⟨ps, e4, e5, e6⟩ := at' 12 (by omega)
      have e7 : toPk S 12 (.ref b) = some (.list []) := by unfold toPk; simp only [hb]; rfl
      simp only [e4, e7]
      unfold eqP
      simp only
      rw [if_pos ⟨e6, s0⟩, key _ e5]
  unfold cmpD
  simp only [e]
/-- the first wrong row of the first n, or -2 -/
def dk (b : Nat → Bool) : Nat → Int
  | 0 => -2
  | n + 1 => if dk b n = -2 ∧ b n = false then n else dk b n
theorem dk_all {b : Nat → Bool} : ∀ {n : Nat}, (∀ i, i < n → b i = true) → dk b n = -2
  | 0, _ => rfl
  | n + 1, h => by
    unfold dk
    rw [if_neg (fun z => by rw [h n (by omega)] at z; cases z.2)]
    exact dk_all fun i hi => h i (by omega)
theorem dk_first {b : Nat → Bool} {j : Nat} (hj : b j = false) (ha : ∀ i, i < j → b i = true) : ∀ {n : Nat}, j < n → dk b n = j
  | 0, h => absurd h (by omega)
  | n + 1, h => by
    unfold dk
    by_cases e : j = n
    · subst e
      rw [if_pos ⟨dk_all ha, hj⟩]
    · have := dk_first hj ha (n := n) (by omega)
      rw [if_neg (fun z => by rw [this] at z; omega), this]
theorem kin_cc : T.kin "BadCode" "BadCode" = true := by kernel_rfl
theorem kin_ck : T.kin "BadCode" "KinkError" = true := by kernel_rfl
theorem fld_c : T.fld "BadCode" = (["place"] : List Str) := by kernel_rfl
theorem place_w {n : Nat} (hn : 5 ≤ n) {k q : Nat} {w ni nr d : D} {S : Sto} (hc : S[q]? = some (codeO w ni nr d)) (vw : Val S k w) (vi : Val S k ni) (vr : Val S k nr) (vd : Val S (k + 1) d) {Q : D → Sto → Prop} {E : XE} (j : Int)
    (hj : ((numB w 2 200 && (numB ni 1 10000 && numB nr 1 10000) && tupB d) = false ∧ j = -1) ∨ ∃ w' ni' nr' ds, w = .int w' ∧ ni = .int ni' ∧ nr = .int nr' ∧ d = .tup ds ∧ numB w 2 200 = true ∧ numB ni 1 10000 = true ∧ numB nr 1 10000 = true ∧ j = dk (fun i => insB w' ni' nr' (ds.getD i .non)) ds.length)
    (hq : Q (.int j) S) : wR ((W T n).fn "_law_place" [.ref q] S) Q E := by
  refine w_fn tab__law_place (Nat.le_trans (by decide) hn) fun m hm => ?_
  unfold code__law_place
  repeat row_cond q0
  refine w_cons ?_
  have hg : ∀ {ds : List D} {i : Nat} (h : i < ds.length), ds.getD i .non = ds[i] := fun h => by rw [List.getD_eq_getElem?_getD, List.getElem?_eq_getElem h]; rfl
  refine w_tryX (fun x fs σ1 S1 => x = "BadCode" ∧ fs = [.int j] ∧ σ1 = [some (.ref q), none, none] ∧ S1 = S) ?_ ?_
  · row_cond qq
    refine check_code_w (by omega) hc vw vi vr vd (fun h => ?_) (fun w' ni' nr' ds e1 e2 e3 e4 g1 g2 g3 i hi hb hall => ?_) fun w' ni' nr' ds e1 e2 e3 e4 g1 g2 g3 hall => ?_
    · rcases hj with ⟨_, rfl⟩ | ⟨w', ni', nr', ds, rfl, rfl, rfl, rfl, g1, g2, g3, _⟩
      · exact ⟨rfl, rfl, rfl, rfl⟩
      · rw [g1, g2, g3] at h; cases h
    · subst e1; subst e2; subst e3; subst e4
      rcases hj with ⟨h, rfl⟩ | ⟨w', ni', nr', ds, e1, e2, e3, e4, _, _, _, rfl⟩
      · rw [g1, g2, g3] at h; cases h
      · cases e1; cases e2; cases e3; cases e4
        have := dk_first (b := fun i => insB w' ni' nr' (ds.getD i .non)) (j := i) (by simp only [hg hi]; exact hb) (fun i' hi' => by simp only [hg (show i' < ds.length by omega)]; exact hall i' hi') hi
        rw [this]
        exact ⟨rfl, rfl, rfl, rfl⟩
    · subst e1; subst e2; subst e3; subst e4
      rcases hj with ⟨h, rfl⟩ | ⟨w', ni', nr', ds, e1, e2, e3, e4, _, _, _, rfl⟩
      · rw [g1, g2, g3] at h; cases h
      · cases e1; cases e2; cases e3; cases e4
        have := dk_all (b := fun i => insB w' ni' nr' (ds.getD i .non)) (n := ds.length) fun i hi => by simp only [hg hi]; exact hall _ (List.getElem_mem hi)
        rw [this] at hq
        row_cond qq
        exact hq
  · rintro _ _ _ _ ⟨rfl, rfl, rfl, rfl⟩
    refine w_hcatch (kin_W kin_cc) ?_
    row_cond qq
    refine w_ok (o_eis rfl (kin_W kin_ck) _) ?_
    row_cond qq
    refine w_ok (o_efl rfl (fld_W fld_c) (d := .int j) (by rfl) _) ?_
    row_cond qq
    refine w_ok (o_efl rfl (fld_W fld_c) (d := .int j) (by rfl) _) ?_
    row_cond qq
    refine w_ok (o_efl rfl (fld_W fld_c) (d := .int j) (by rfl) _) ?_
    row_cond qq
    exact hq
end Kl
set_option Elab.async false
set_option linter.all false
set_option maxRecDepth 100000
set_option maxHeartbeats 4000000
set_option autoImplicit false
set_option exponentiation.threshold 200000
namespace Kl
open PySem PySem.Spec PyProof.Rows L2 Kq
local macro_rules
  | `(tactic| row_cond qb) => `(tactic| first
    | with_reducible assumption
    | ((with_reducible apply lt2_lit); decide)
    | (with_reducible exact tenp_lt _)
    | ((with_reducible apply szQ.num); assumption)
    | ((with_reducible apply szQ.den); assumption)
    | ((with_reducible apply lt2_mul) <;> row_cond qb)
    | ((with_reducible apply lt2_add) <;> row_cond qb)
    | ((with_reducible apply lt2_sub) <;> row_cond qb)
    | ((with_reducible apply lt2_neg) <;> row_cond qb)
    | ((with_reducible apply lt2_abs) <;> row_cond qb)
    | ((with_reducible apply lt2_ediv) <;> row_cond qb))
  | `(tactic| row_cond qg) => `(tactic| first
    | assumption
    | exact o_new
    | exact o_mid
    | exact Ext.get (by assumption) (by assumption)
    | ((with_reducible refine o_old ?_); row_cond qg)
    | (refine Ext.get ?_ (by assumption); row_cond qx))
  | `(tactic| row_cond qx) => `(tactic| first
    | (with_reducible assumption)
    | (with_reducible exact Ext.refl)
    | ((with_reducible apply Ext.app); row_cond qx)
    | (with_reducible exact Ext.trans (by assumption) (by assumption))
    | ((with_reducible refine Ext.trans ?_ (by with_reducible assumption)); row_cond qx))
  | `(tactic| row_cond qm) => `(tactic| first
    | assumption
    | exact mul_ok (by row_cond qb) (by row_cond qb) (by first | omega | simp | decide))
  | `(tactic| row_cond qd) => `(tactic| first
    | assumption
    | exact div_ok (by row_cond qb) (by first | omega | decide) (by first | assumption | omega | exact den_ne _))
  | `(tactic| row_cond qo) => `(tactic| first
    | (with_reducible exact ev_add ..)
    | (with_reducible exact ev_sub ..)
    | ((with_reducible refine ev_mul ?_); row_cond qm)
    | ((with_reducible refine o_divP _ ?_ ?_) <;> first | omega | row_cond qd)
    | ((with_reducible refine o_modP _ ?_); omega)
    | ((with_reducible refine ev_fdiv ?_); row_cond qd)
    | ((with_reducible refine ev_mod ?_); first | assumption | omega | exact den_ne _)
    | (with_reducible exact ev_neg ..)
    | ((with_reducible refine o_pow10 _ ?_); decide)
    | (with_reducible exact o_q0 ..)
    | (with_reducible exact o_q1 ..)
    | (with_reducible exact idx_tup0 ..)
    | (with_reducible exact idx_tup1 ..)
    | (with_reducible exact idx_tup2 ..)
    | (with_reducible exact idx_tup3 ..)
    | (with_reducible exact idx_tup4 ..)
    | (with_reducible exact ev_eq ..)
    | (with_reducible exact ev_ne ..)
    | (with_reducible exact ev_lt ..)
    | (with_reducible exact ev_le ..)
    | (with_reducible exact ev_gt ..)
    | (with_reducible exact ev_ge ..)
    | (with_reducible exact o_eqb ..)
    | (with_reducible exact o_eqQ ..)
    | (with_reducible exact o_neQ ..)
    | (with_reducible exact o_eqV ..)
    | (with_reducible exact o_neV ..)
    | (with_reducible exact o_neb ..)
    | (with_reducible exact tru_bl ..)
    | (with_reducible exact tru_int ..)
    | (with_reducible exact tru_non ..)
    | (with_reducible exact bi_int ..)
    | (with_reducible exact o_intb ..)
    | (with_reducible exact bi_abs ..)
    | (with_reducible exact bi_gcd ..)
    | (with_reducible exact o_max ..)
    | (with_reducible exact o_min ..)
    | (with_reducible exact bi_len_tup ..)
    | ((with_reducible apply o_lenr); row_cond qg)
    | (with_reducible exact o_tt ..)
    | (with_reducible exact o_ii ..)
    | (with_reducible exact o_ib ..)
    | (with_reducible exact o_bb ..)
    | (with_reducible exact o_bi ..)
    | (with_reducible exact o_itemsT ..)
    | ((with_reducible apply o_items); row_cond qg)
    | (with_reducible exact tru_tup ..)
    | (with_reducible exact o_itemsV ..)
    | (with_reducible exact o_itemsM ..)
    | (with_reducible exact o_itemsQ ..)
    | ((with_reducible refine o_addQT _ ?_); simp only [List.length_cons, List.length_nil]; omega)
    | ((with_reducible apply o_addL) <;> first | row_cond qg | (simp only [List.length_cons, List.length_nil, List.length_map]; omega))
    | ((with_reducible refine o_addT0 ?_ _); first | omega | (simp only [List.length_cons, List.length_nil, List.length_map]; omega))
    | ((with_reducible refine o_addT ?_); (try simp only [List.length_cons, List.length_nil, List.length_map, List.length_append]); omega)
    | (with_reducible exact o_lenV ..)
    | (with_reducible exact o_lenM ..)
    | (with_reducible exact o_lenQ ..)
    | (with_reducible exact o_tV ..)
    | (with_reducible exact o_tM ..)
    | (with_reducible exact o_tQ ..)
    | (with_reducible exact o_slV ..)
    | (with_reducible exact o_slM ..)
    | ((with_reducible refine o_repM ?_); omega)
    | (with_reducible exact o_tupV ..)
    | (with_reducible exact o_tupM ..)
    | (with_reducible exact o_tupL ..)
    | (with_reducible exact o_lstL ..)
    | (with_reducible exact o_allL ..)
    | (with_reducible exact o_anyL ..)
    | ((with_reducible refine o_eqS ?_ ?_ _) <;> first | assumption | decide +kernel)
    | ((with_reducible refine o_neS ?_ ?_ _) <;> first | assumption | decide +kernel)
    | ((with_reducible refine o_addS0 ?_ _); first | assumption | decide +kernel)
    | ((with_reducible apply v_tup); assumption)
    | ((with_reducible apply v_str); assumption)
    | ((with_reducible apply v_int); assumption)
    | ((with_reducible apply v_bool); assumption)
    | ((with_reducible apply v_is); assumption)
    | ((with_reducible apply v_isn); assumption)
    | (with_reducible exact o_st ..)
    | (with_reducible exact o_sn ..)
    | (with_reducible exact o_tn ..)
    | (with_reducible exact o_sI ..)
    | (with_reducible exact o_tb ..)
    | (with_reducible exact o_sb ..)
    | (with_reducible exact o_ss ..)
    | (with_reducible exact o_ts ..)
    | (with_reducible exact o_isB ..)
    | (with_reducible exact o_isS ..)
    | (with_reducible exact o_isI ..)
    | (with_reducible exact o_isnI ..)
    | (with_reducible exact o_isN ..)
    | (with_reducible exact o_isnN ..)
    | (with_reducible exact o_isbb ..)
    | (with_reducible exact o_isnb0 ..)
    | (with_reducible exact o_isnnb0 ..)
    | (with_reducible exact o_isnbb ..)
    | (with_reducible exact o_isT ..)
    | (with_reducible exact o_isnT ..)
    | (with_reducible exact o_part0 ..)
    | (with_reducible exact o_part1 ..)
    | (with_reducible exact o_slT ..)
    | (with_reducible exact o_rev ..)
    | ((with_reducible apply o_revL); row_cond qg)
    | ((with_reducible apply o_fld); (focus row_cond qg); (focus rfl); row_cond qj)
    | ((with_reducible apply o_slr); row_cond qg)
    | ((with_reducible refine o_rep ?_); omega)
    | ((with_reducible refine o_lrg1 _ ?_); omega)
    | ((with_reducible refine o_trg1 _ ?_); omega)
    | ((with_reducible refine o_trg2 _ ?_); omega)
    | (with_reducible assumption)
    | ((with_reducible refine gFn ?_); assumption))
  | `(tactic| row_cond qp) => `(tactic| first
    | ((with_reducible refine o_rng ?_); omega)
    | ((with_reducible refine o_rng2 ?_); omega)
    | (with_reducible exact o_itV ..)
    | (with_reducible exact o_itM ..)
    | (with_reducible exact o_zipV ..)
    | (with_reducible exact o_zipVM ..)
    | (with_reducible exact o_itT ..)
    | ((with_reducible apply o_it); row_cond qg)
    | (with_reducible exact o_zip ..)
    | (with_reducible exact o_zip3 ..)
    | (with_reducible exact o_enmT ..)
    | ((with_reducible apply o_enm); row_cond qg)
    | (with_reducible assumption))
  | `(tactic| row_cond qj) => `(tactic| first
    | exact FlR.hit
    | (apply FlR.miss; (focus rfl); row_cond qj))
  | `(tactic| row_cond qu) => `(tactic| first
    | exact PuR.hit
    | exact PuR.nil
    | (apply PuR.miss; (focus rfl); row_cond qu))
  | `(tactic| row_cond qn) => `(tactic| first
    | exact NthR.z
    | (apply NthR.s; row_cond qn))
  | `(tactic| row_cond qk) => `(tactic| first
    | exact PkR.nil
    | (apply PkR.cons; (focus row_cond qn); row_cond qk))
  | `(tactic| row_cond qE) => `(tactic| first
    | refine w_loc ?_
    | (with_reducible refine w_con0 ?_)
    | (with_reducible refine w_con1 ?_)
    | (with_reducible refine w_conh ?_)
    | refine w_con ?_
    | refine w_bin ?_
    | refine w_cmp ?_
    | refine w_idx ?_
    | refine w_call ?_
    | refine w_bi ?_
    | (with_reducible refine w_tup0 ?_)
    | (with_reducible refine w_tup1 ?_)
    | (with_reducible refine w_tupm ?_)
    | refine w_tup ?_
    | refine w_lst ?_
    | refine w_isi ?_
    | refine w_neg ?_
    | refine w_nt ?_
    | refine w_ands ?_
    | refine w_ors ?_
    | refine w_ite ?_
    | refine w_chn ?_
    | refine w_sl ?_
    | refine w_bl ?_
    | refine w_lc ?_
    | refine w_bm ?_
    | refine w_cal ?_
    | refine w_eis ?_
    | refine w_efl ?_
    | refine w_fld ?_
    | refine w_mth ?_
    | refine w_mk ?_
    | refine w_lrg ?_
    | refine w_rep ?_
    | refine w_dgt ?_)
  | `(tactic| row_cond qT) => `(tactic| first
    | refine w_tnt ?_
    | refine w_tand ?_
    | refine w_tor ?_
    | refine w_tite ?_
    | refine w_tof rfl ?_
    | refine w_tlst ?_)
  | `(tactic| row_cond qS) => `(tactic| first
    | refine w_asg ?_
    | refine w_if ?_
    | refine w_ret ?_
    | refine w_ex ?_
    | refine w_for ?_
    | refine w_pass ?_
    | refine w_cont ?_
    | refine w_brk ?_
    | refine w_retN ?_
    | refine w_rse ?_
    | refine w_try ?_
    | refine w_par ?_
    | refine w_sub ?_
    | refine w_fst ?_
    | refine w_aug rfl ?_)
  | `(tactic| row_cond qL) => `(tactic| first
    | refine w_llst ?_
    | refine w_llc ?_
    | refine w_lite ?_
    | refine w_lof rfl ?_)
  | `(tactic| row_cond qI) => `(tactic| first
    | refine w_iex ?_
    | refine w_itmp ?_
    | refine w_irng ?_
    | refine w_izip ?_
    | refine w_izip3 ?_
    | refine w_ienm ?_)
  | `(tactic| row_cond qF) => `(tactic| first
    | refine ift ?_
    | refine iff' ?_
    | refine ift' (decide_eq_true (by first | assumption | omega)) ?_
    | refine iff'' (decide_eq_false (by first | assumption | omega)) ?_
    | refine ift' (by first | (simp only [decide_eq_true_eq, Bool.not_eq_true', decide_eq_false_iff_not, bne_iff_ne, ne_eq, Bool.not_true, Bool.not_false, not_true_eq_false, List.length_map, List.length_cons, List.length_nil]; done) | ((try simp only [decide_eq_true_eq, Bool.not_eq_true', decide_eq_false_iff_not, bne_iff_ne, ne_eq, Bool.not_true, Bool.not_false, not_true_eq_false, List.length_map, List.length_cons, List.length_nil]); first | assumption | omega)) ?_
    | refine iff'' (by first | (simp only [decide_eq_false_iff_not, Bool.not_eq_false', decide_eq_true_eq, bne_eq_false_iff_eq, Bool.not_true, Bool.not_false, not_true_eq_false, List.length_map, List.length_cons, List.length_nil]; done) | ((try simp only [decide_eq_false_iff_not, Bool.not_eq_false', decide_eq_true_eq, bne_eq_false_iff_eq, Bool.not_true, Bool.not_false, not_true_eq_false, List.length_map, List.length_cons, List.length_nil]); first | assumption | omega)) ?_
    | refine ift' (by decide +kernel) ?_
    | refine iff'' (by decide +kernel) ?_)
  | `(tactic| row_cond q0) => `(tactic| first
    | ((with_reducible refine gE ?_); row_cond qE)
    | (with_reducible refine wLoc_s ?_)
    | (with_reducible refine wLoc_z rfl ?_)
    | (with_reducible refine wLoc_v (by assumption) ?_)
    | ((with_reducible refine gR ?_); first | (refine w_ok (by row_cond qo) ?_) | ((with_reducible apply w_pk); (focus row_cond qk)))
    | ((with_reducible refine gP ?_); (refine w_okp (by row_cond qp) ?_))
    | (with_reducible refine w_acons ?_)
    | (with_reducible refine w_anil ?_)
    | ((with_reducible refine gS ?_); row_cond qS)
    | (with_reducible refine wTg_nm ?_)
    | (with_reducible refine wSet_s ?_)
    | (with_reducible refine wSet_z ?_)
    | (with_reducible refine w_nil ?_)
    | ((with_reducible refine gT ?_); row_cond qT)
    | ((with_reducible refine gIf ?_); row_cond qF)
    | ((with_reducible refine gL ?_); row_cond qL)
    | ((with_reducible refine gI ?_); row_cond qI)
    | (with_reducible refine and_bl ?_)
    | (with_reducible refine not_bl ?_)
    | (with_reducible refine wTg_2 ?_)
    | (with_reducible refine wTg_q ?_)
    | (with_reducible refine wTg_3 ?_)
    | (with_reducible refine wTg_5 ?_)
    | (with_reducible refine wWp_cons ?_)
    | (with_reducible refine wWp_nil ?_)
    | (with_reducible refine st_cons ?_)
    | (with_reducible refine st_pad ?_)
    | (with_reducible refine st_z ?_)
    | ((with_reducible apply o_fst); (focus row_cond qg); (focus rfl); (focus (simp only [List.length_cons, List.length_nil]; omega)); (focus row_cond qu))
    | ((with_reducible apply o_mth); (focus row_cond qg); (focus rfl); (focus rfl)))
  | `(tactic| row_cond q1) => `(tactic| first
    | row_cond q0
    | (with_reducible refine w_cons ?_))
  | `(tactic| row_cond qq) => `(tactic| repeat row_cond q1)
  | `(tactic| row_cond qs) => `(tactic| ((with_reducible refine w_cons ?_); repeat row_cond q0))
  | `(tactic| row_cond pk) => `(tactic| first
    | refine peekR ?_ ?_
    | refine peekP ?_ ?_
    | refine peekE ?_ ?_
    | refine peekS ?_ ?_
    | refine peekC ?_ ?_
    | refine peekL ?_ ?_
    | refine peekI ?_ ?_)
/-! ### k66: the law -/
theorem Stm.new {p : Nat} {S S' : Sto} (h : Stm p S) (x : Ext S S') : Stm p S' := h.ext x
theorem getD_map {ds : List D} {i : Nat} (h : i < ds.length) : ds.getD i .non = ds[i] := by rw [List.getD_eq_getElem?_getD, List.getElem?_eq_getElem h]; rfl
theorem law_true : ∀ ns : List Int, ns.length ≤ 63 → (∀ z ∈ ns, Builtin.Int.intBits z ≤ 1048576) → ∃ S', (W T 100).fn "law" [.ref 0] [.lst false (ns.map D.int)] = .ok (.bl true) S' := law_fin fun ns S0 h0 => by
  refine w_fn tab_law (by decide) fun m hm => ?_
  have hm' : m = 99 := by omega
  unfold code_law
  have hl := h0.len
  have hA := h0.at0
  row_cond qq
  refine w_ok (cell_at (n := m) (by omega) h0 0) ?_
  row_cond qq
  refine stream_ok (by omega) (lt2_mono (cell_lt h0 0) (by decide)) fun S1 hs1 x1 => ?_
  have hpn : S0.length ≠ 0 := by have := (List.getElem?_eq_some_iff.mp hA).1; omega
  generalize hp : S0.length = p at hs1 hpn ⊢
  have hb1 : S0.length ≤ p := by omega
  row_cond qq
  refine width_w (by omega) hs1 fun w S2 w2 w200 hs2 x2 => ?_
  row_cond qq
  refine take_ok (by omega) hs2 (by decide) (lt2_mono (lt2_lit (by decide)) (by decide)) fun a S3 a0 a1 hs3 x3 => ?_
  obtain ⟨ni, hni⟩ := Int.eq_ofNat_of_zero_le (show 0 ≤ 1 + a by omega)
  row_cond qq
  rw [show 1 + a = (ni : Int) from hni]
  have i1 : 1 ≤ ni := by omega
  have i4 : ni ≤ 4 := by omega
  row_cond qq
  refine take_ok (by omega) hs3 (by decide) (lt2_mono (lt2_lit (by decide)) (by decide)) fun b S4 b0 b1 hs4 x4 => ?_
  obtain ⟨nr, hnr⟩ := Int.eq_ofNat_of_zero_le (show 0 ≤ 1 + b by omega)
  row_cond qq
  rw [show 1 + b = (nr : Int) from hnr]
  have r1 : 1 ≤ nr := by omega
  have r6 : nr ≤ 6 := by omega
  have y4 : Chg p S1 S4 := (x2.trans x3).trans x4
  have z4 : Ext S0 S4 := y4.pre x1 hb1
  have hA4 := z4.get hA
  row_cond qq
  have hr6 : (S4 ++ [Ob.lst true []] ++ [Ob.lst true (Kq.cutD (ns.map D.int) (some 1) (some 31))])[S4.length]? = some (.lst true []) := o_old o_new
  have hs6 : (S4 ++ [Ob.lst true []] ++ [Ob.lst true (Kq.cutD (ns.map D.int) (some 1) (some 31))])[(S4 ++ [Ob.lst true []]).length]? = some (.lst true (Kq.cutD (ns.map D.int) (some 1) (some 31))) := o_new
  have hne : S4.length ≠ (S4 ++ [Ob.lst true []]).length := by simp
  have hp6 : Stm p (S4 ++ [Ob.lst true []] ++ [Ob.lst true (Kq.cutD (ns.map D.int) (some 1) (some 31))]) := (hs4.app _).app _
  have hprr : p < S4.length := hs4.lt
  generalize (S4 ++ [Ob.lst true []]).length = sl at hs6 hne ⊢
  generalize S4 ++ [Ob.lst true []] ++ [Ob.lst true (Kq.cutD (ns.map D.int) (some 1) (some 31))] = S6 at hr6 hs6 hp6 ⊢
  generalize S4.length = rr at hr6 hne hprr ⊢
  rw [cut_map] at hs6 ⊢
  have hcut : (Kq.cutD ns (some 1) (some 31)).length ≤ 30 ∧ ∀ z ∈ Kq.cutD ns (some 1) (some 31), lt2 z 1048576 := by
    have e : Kq.cutD ns (some 1) (some 31) = (ns.drop 1).take 30 := cut_mn 1 31
    rw [e]
    exact ⟨by rw [List.length_take]; omega, fun z hz => h0.sz z (List.mem_of_mem_drop (List.mem_of_mem_take hz))⟩
  generalize Kq.cutD ns (some 1) (some 31) = cs at hs6 hcut ⊢
  refine w_forG cs (fun k σ S' => ∃ (ys : List Ins) (z6 : Option D), σ = [some (.ref 0), some (.ref p), some (.int w), some (.int ni), some (.int nr), some (.ref rr), z6, none, none, none, none, none, none, none] ∧ S'[rr]? = some (.lst true (ys.map Ins.d)) ∧ S'[sl]? = some (.lst true (cs.map D.int)) ∧ Stm p S' ∧ (∀ y ∈ ys, y.ok w ni nr) ∧ ys.length ≤ k) ?_ ?_ ?_ ?_
  · exact ⟨[], none, rfl, hr6, hs6, hp6, (by intro y hy; cases hy), Nat.zero_le _⟩
  · rintro k _ S' ⟨_, _, _, _, x, _⟩
    exact stands_one x
  · rintro k hk _ S7 ⟨ys, z6, rfl, b1, b3, b2, b4, b5⟩
    have hz := hcut.2 _ (List.getElem_mem hk)
    generalize cs[k] = c at hz ⊢
    row_cond qq
    refine ⟨o_appC b1, ?_⟩
    row_cond qq
    refine stream_ok (by omega) (lt2_mono hz (by decide)) fun S8 hs8 x8 => ?_
    row_cond qq
    refine row_w (by omega) ⟨w2, w200⟩ ⟨i1, by omega⟩ ⟨r1, by omega⟩ hs8 fun y S9 hy hs9 x9 => ?_
    have x10 : Ext S7 S9 := x9.pre x8 (Nat.le_refl _)
    row_cond qq
    refine w_ok (o_app (x10.get b1) (by rw [List.length_map]; show _ < 1000000; omega)) ?_
    row_cond qq
    refine ⟨ys ++ [y], _, rfl, by rw [o_setget (x10.get b1), List.map_append]; rfl, o_setne (x10.get b3) hne, (b2.ext x10).set hprr _, fun u hu => ?_, by simp; omega⟩
    rcases List.mem_append.mp hu with hu | hu
    · exact b4 u hu
    · rw [List.mem_singleton.mp hu]; exact hy
  · rintro _ S7 ⟨ys, z6, rfl, b1, b3, b2, b4, b5⟩
    row_cond qq
    refine take_ok (by omega) b2 (by decide) (lt2_mono (lt2_lit (by decide)) (by decide)) fun t S8 t0 t1 hs8 x8 => ?_
    obtain ⟨t, rfl⟩ := Int.eq_ofNat_of_zero_le t0
    have hw' : 2 ≤ w ∧ w ≤ 200 := ⟨w2, w200⟩
    row_cond qq
    refine w_forR (fun k σ S' => ∃ (ds : List D) (z7 z8 z9 : Option D), σ = [some (.ref 0), some (.ref p), some (.int w), some (.int ni), some (.int nr), some (.ref rr), z6, z7, z8, z9, none, none, none, none] ∧ S'[rr]? = some (.lst true ds) ∧ Stm p S' ∧ (∀ d ∈ ds, RowAt p rr (4 + k) (2 + 2 * k) S' d) ∧ ds.length ≤ 30) ?_ ?_ ?_
    · refine ⟨ys.map Ins.d, _, _, _, rfl, x8.get b1 (by omega), hs8, fun d hd => ?_, by rw [List.length_map]; have := hcut.1; omega⟩
      obtain ⟨y, hy, rfl⟩ := List.mem_map.mp hd
      exact .inl (ins_pz w200 (by omega) (by omega) (b4 y hy))
    · rintro k hk _ S9 ⟨ds, z7, z8, z9, rfl, c1, c2, c3, c4⟩
      have hk3 : k ≤ 1 := by omega
      have go : ∀ {S' : Sto}, (∀ n mu es, n ≠ p → n ≠ rr → S9[n]? = some (.lst mu es) → S'[n]? = some (.lst mu es)) → ∀ d ∈ ds, RowAt p rr (4 + (k + 1)) (2 + 2 * (k + 1)) S' d := fun f d hd => ((c3 d hd).keep f).mono (by omega) (by omega)
      have hcn : (S9 ++ [Ob.lst true []])[rr]? = some (.lst true ds) := o_old c1
      row_cond qq
      refine w_ok (v_neL0 (k := 2 + 2 * k + 1) hcn o_new (fun d hd => ((c3 d hd).val (by omega)).app _) (by omega) (by omega)) ?_
      row_cond qq
      by_cases hde : ds = []
      · subst hde
        row_cond qq
        exact ⟨[], _, _, _, rfl, hcn, c2.app _, (by intro y hy; cases hy), Nat.zero_le _⟩
      · have hdl : 0 < ds.length := List.length_pos_iff.mpr hde
        rw [show ds.isEmpty = false by cases ds with
          | nil => exact absurd rfl hde
          | cons _ _ => rfl]
        row_cond qq
        refine take_ok (by omega) (c2.app _) (by omega) (lt2_mono (show lt2 (ds.length : Int) 10 by unfold lt2; omega) (by decide)) fun v S10 v0 v1 hs10 x10 => ?_
        obtain ⟨v, rfl⟩ := Int.eq_ofNat_of_zero_le v0
        have hv : v < ds.length := by omega
        have c5 : S10[rr]? = some (.lst true ds) := x10.get hcn (by omega)
        have x11 : Chg p S9 S10 := (Chg.of c2.lt (S' := S9 ++ _) ⟨_, rfl⟩).trans x10
        have f11 : ∀ n mu es, n ≠ p → n ≠ rr → S9[n]? = some (.lst mu es) → S10[n]? = some (.lst mu es) := fun n mu es h1 _ h => x11.get h (fun e => h1 e.symm)
        have cr := c3 _ (List.getElem_mem hv)
        have vx := (cr.keep f11).val (by omega)
        have hxx := v_isX vx
        row_cond qq
        refine w_ok (o_idxr c5 (n := v) rfl (d := ds[v]) (List.getElem?_eq_getElem hv)) ?_
        have stay : ∀ (z8 z9 : Option D), ∃ (ds' : List D) (z7' z8' z9' : Option D), [some (D.ref 0), some (.ref p), some (.int w), some (.int ni), some (.int nr), some (.ref rr), z6, some (.int k), z8, z9, none, none, none, none] = [some (.ref 0), some (.ref p), some (.int w), some (.int ni), some (.int nr), some (.ref rr), z6, z7', z8', z9', none, none, none, none] ∧ S10[rr]? = some (.lst true ds') ∧ Stm p S10 ∧ (∀ d ∈ ds', RowAt p rr (4 + (k + 1)) (2 + 2 * (k + 1)) S10 d) ∧ ds'.length ≤ 30 := fun z8 z9 => ⟨ds, _, _, _, rfl, c5, hs10, go f11, c4⟩
        generalize ds[v] = row at cr vx hxx ⊢
        row_cond qq
        rcases cr with hz | ⟨nn, mu, es, rfl, _⟩
        · have hz : Pz (4 + k) (1 + 2 * k + 1) row := hz.mono (by omega) (Nat.le_refl _)
          cases hz with
          | @tup k' es hes hel =>
            row_cond qq
            refine ifd (fun hpos => ?_) fun hpos => ?_
            · row_cond qq
              refine spoilt_w (rr := rr) (B := 4 + k) (k := 1 + 2 * k) (by omega) hw' (by omega) (by omega) (by omega) hes (fun z => by rw [z] at hpos; simp at hpos) hel (by omega) (by omega) hs10 (by have := (List.getElem?_eq_some_iff.mp c5).1; omega) fun e S11 he hs11 x11' => ?_
              have c6 : S11[rr]? = some (.lst true ds) := x11'.get c5 (by omega)
              have hex : isX e = false := v_isX (he.val (by omega))
              row_cond qq
              refine w_some (o_setD c6 (i := v) rfl hv) ?_
              row_cond qq
              have f12 : ∀ n mu es, n ≠ p → n ≠ rr → S9[n]? = some (.lst mu es) → (S11.set rr (.lst true (ds.set v e)))[n]? = some (.lst mu es) := fun n mu es h1 h2 h => o_setne (x11'.get (f11 n mu es h1 h2 h) (fun e => h1 e.symm)) (fun e => h2 e.symm)
              refine ⟨ds.set v e, _, _, _, rfl, o_setget c6, hs11.set hprr _, fun d hd => ?_, by rw [List.length_set]; exact c4⟩
              rcases List.mem_or_eq_of_mem_set hd with hd | rfl
              · exact go f12 d hd
              · exact (he.keep fun n mu es h1 h2 h => o_setne h (fun e => h2 e.symm)).mono (by omega) (by omega)
            · row_cond qq
              exact stay _ _
          | _ => row_cond qq; exact stay _ _
        · row_cond qq
          exact stay _ _
    · rintro _ S9 ⟨ds, z7, z8, z9, rfl, c1, c2, c3, c4⟩
      rw [Int.toNat_natCast] at c3
      have ht : t ≤ 2 := by omega
      have c3 : ∀ {S' : Sto}, Chg p S9 S' → ∀ d ∈ ds, RowAt p rr 6 6 S' d := fun x d hd => ((c3 d hd).keep fun n mu es h1 _ h => x.get h (fun e => h1 e.symm)).mono (by omega) (by omega)
      have vds : ∀ {S' : Sto}, Chg p S9 S' → Val S' 8 (.tup ds) := fun x => .tup (fun d hd => (c3 x d hd).val (by omega)) (by omega)
      row_cond qq
      refine w_forR (fun k σ S' => ∃ (z7 : Option D), σ = [some (.ref 0), some (.ref p), some (.int w), some (.int ni), some (.int nr), some (.ref rr), z6, z7, z8, z9, some (.int (dk (fun i => insB w ni nr (ds.getD i .non)) k)), none, none, none] ∧ S' = S9) ⟨_, rfl, rfl⟩ ?_ ?_
      · rintro k hk _ S9' ⟨z7, rfl, e9⟩
        rw [e9]
        have hk' : k < ds.length := by omega
        have hv := (c3 Chg.refl _ (List.getElem_mem hk')).val (by omega)
        have hfst : ∀ x r, ds[k] = .tup (x :: r) → Pv 20 x := fun x r e => by
          have := c3 Chg.refl _ (List.getElem_mem hk')
          rw [e] at this
          exact ((RowAt.fst (k := 5) this).pq (by omega)).1.mono (by omega)
        have hx := v_isX hv
        have edk : dk (fun i => insB w ni nr (ds.getD i .non)) (k + 1) = if dk (fun i => insB w ni nr (ds.getD i .non)) k = -2 ∧ insB w ni nr ds[k] = false then (k : Int) else dk (fun i => insB w ni nr (ds.getD i .non)) k := by
          show (if _ ∧ insB w ni nr (ds.getD k .non) = false then _ else _) = _
          simp only [getD_map hk']
        rw [edk]
        generalize dk (fun i => insB w ni nr (ds.getD i .non)) k = due
        row_cond qq
        refine ifd (fun hd => ?_) fun hd => ?_
        · row_cond qq
          refine w_ok (o_idxr c1 (n := k) rfl (d := ds[k]) (List.getElem?_eq_getElem hk')) ?_
          row_cond qq
          refine w_ok (lgood_ok (n := m) (by omega) ⟨by omega, w200⟩ hv hfst) ?_
          cases hb : insB w ni nr ds[k] with
          | true =>
            row_cond qq
            refine ⟨some (.int k), ?_, rfl⟩
            rw [if_neg (fun z => by cases z.2)]
          | false =>
            row_cond qq
            refine ⟨some (.int k), ?_, rfl⟩
            rw [if_pos ⟨hd, rfl⟩]
        · row_cond qq
          exact ⟨some (.int k), by rw [if_neg fun z => hd z.1], rfl⟩
      · rintro _ S9' ⟨z7, rfl, e9⟩
        rw [e9, Int.toNat_natCast]
        clear e9
        have vint : ∀ {S : Sto} {i : Int} {k : Nat}, lt2 i 300 → Val S (k + 1) (.int i) := fun h => .int (lt2_mono h (by decide))
        have lw : lt2 w 300 := lt2_mono (show lt2 w 10 by unfold lt2; omega) (by decide)
        have li : lt2 (ni : Int) 300 := lt2_mono (show lt2 (ni : Int) 10 by unfold lt2; omega) (by decide)
        have lr : lt2 (nr : Int) 300 := lt2_mono (show lt2 (nr : Int) 10 by unfold lt2; omega) (by decide)
        have hn1 : numB (.int w) 2 200 = true := decide_eq_true ⟨w2, w200⟩
        have hn2 : numB (.int ni) 1 10000 = true := decide_eq_true (by omega)
        have hn3 : numB (.int nr) 1 10000 = true := decide_eq_true (by omega)
        have hpr : p ≠ rr := by omega
        row_cond qq
        refine code_init_w (by omega) rfl rfl rfl rfl ⟨rfl, ?_⟩
        row_cond qq
        refine place_w (k := 7) (by omega) o_new (vint lw) (vint li) (vint lr) (vds (Chg.of c2.lt ⟨_, rfl⟩)) (dk (fun i => insB w ni nr (ds.getD i .non)) ds.length) (.inr ⟨w, ni, nr, ds, rfl, rfl, rfl, rfl, hn1, hn2, hn3, rfl⟩) ?_
        row_cond qq
        refine take_ok (by omega) ((c2.app _).app _) (by decide) (lt2_mono (lt2_lit (by decide)) (by decide)) fun v S10 v0 v1 hs10 x10 => ?_
        have y10 : Chg p S9 S10 := Chg.trans (Chg.of c2.lt (S' := S9 ++ [_] ++ [_]) ⟨[_] ++ [_], by simp; exact ⟨rfl, rfl⟩⟩) x10
        row_cond qq
        refine w_pick (x10.get o_new (by have := c2.lt; simp; omega)) v0 (by simpa using v1) fun bad hbad => ?_
        have pb : isX bad = false ∧ (∀ S, Val S 3 bad) ∧ numB bad 1 10000 = false := by
          simp only [List.mem_cons, List.not_mem_nil, or_false] at hbad
          rcases hbad with rfl | rfl | rfl | rfl | rfl | rfl | rfl
          · exact ⟨rfl, fun S => vint (by decide), by decide⟩
          · exact ⟨rfl, fun S => vint (by decide), by decide⟩
          · exact ⟨rfl, fun S => vint (by decide), by decide⟩
          · exact ⟨rfl, fun S => .non, rfl⟩
          · exact ⟨rfl, fun S => .bl true, rfl⟩
          · exact ⟨rfl, fun S => .str (by decide +kernel) (by decide), rfl⟩
          · exact ⟨rfl, fun S => .tup (fun d hd => by rw [List.mem_singleton.mp hd]; exact vint (by decide)) (by simp), rfl⟩
        obtain ⟨bx, bv, bn⟩ := pb
        row_cond qq
        refine take_ok (by omega) (hs10.app _) (by decide) (lt2_mono (lt2_lit (by decide)) (by decide)) fun u S11 u0 u1 hs11 x11 => ?_
        have y11 : Chg p S9 S11 := (y10.app hs10 _).trans x11
        row_cond qq
        refine w_pick (x11.get o_new (by have := hs10.lt; omega)) u0 (by simpa using u1) fun wide hwide => ?_
        have pw : isX wide = false ∧ (∀ S, Val S 3 wide) ∧ numB wide 2 200 = false := by
          simp only [List.mem_cons, List.not_mem_nil, or_false] at hwide
          rcases hwide with rfl | rfl | rfl | rfl | rfl | rfl | rfl | rfl
          · exact ⟨rfl, fun S => vint (by decide), by decide⟩
          · exact ⟨rfl, fun S => vint (by decide), by decide⟩
          · exact ⟨rfl, fun S => vint (by decide), by decide⟩
          · exact ⟨rfl, fun S => vint (by decide), by decide⟩
          · exact ⟨rfl, fun S => .non, rfl⟩
          · exact ⟨rfl, fun S => .bl true, rfl⟩
          · exact ⟨rfl, fun S => .str (by decide +kernel) (by decide), rfl⟩
          · exact ⟨rfl, fun S => .tup (fun d hd => by rw [List.mem_singleton.mp hd]; exact vint (by decide)) (by simp), rfl⟩
        obtain ⟨wx, wv, wn⟩ := pw
        have d1 : S11[rr]? = some (.lst true ds) := y11.get c1 hpr
        row_cond qq
        refine wLoc_z wx ?_
        row_cond qq
        refine code_init_w (by omega) wx rfl rfl rfl ⟨rfl, ?_⟩
        row_cond qq
        refine wLoc_z bx ?_
        row_cond qq
        refine code_init_w (by omega) rfl bx rfl rfl ⟨rfl, ?_⟩
        row_cond qq
        refine w_forC ?_
        row_cond qq
        refine place_w (k := 7) (by omega) (o_old o_new) ((wv _).mono (by decide)) (vint li) (vint lr) (vds ((y11.app hs11 _).app (hs11.app _) _)) (-1) (.inl ⟨by rw [wn]; rfl, rfl⟩) ?_
        row_cond qq
        refine w_forC ?_
        row_cond qq
        refine place_w (k := 7) (by omega) o_new (vint lw) ((bv _).mono (by decide)) (vint lr) (vds ((y11.app hs11 _).app (hs11.app _) _)) (-1) (.inl ⟨by rw [hn1, bn]; rfl, rfl⟩) ?_
        row_cond qq
        refine w_forN ?_
        have y12 := (y11.app hs11 [codeO wide (.int ni) (.int nr) (.tup ds)]).app (hs11.app _) [codeO (.int w) bad (.int nr) (.tup ds)]
        have hs12 := (hs11.app [codeO wide (.int ni) (.int nr) (.tup ds)]).app [codeO (.int w) bad (.int nr) (.tup ds)]
        have d12 := y12.get c1 hpr
        generalize S11 ++ [codeO wide (.int ni) (.int nr) (.tup ds)] ++ [codeO (.int w) bad (.int nr) (.tup ds)] = S12 at y12 hs12 d12 ⊢
        row_cond qq
        refine wLoc_z bx ?_
        row_cond qq
        refine code_init_w (by omega) rfl rfl bx rfl ⟨rfl, ?_⟩
        row_cond qq
        refine place_w (k := 7) (by omega) o_new (vint lw) (vint li) ((bv _).mono (by decide)) (vds (y12.app hs12 _)) (-1) (.inl ⟨by rw [hn1, hn2, bn]; rfl, rfl⟩) ?_
        have y13 := y12.app hs12 [codeO (.int w) (.int ni) bad (.tup ds)]
        have hs13 := hs12.app [codeO (.int w) (.int ni) bad (.tup ds)]
        have d13 := y13.get c1 hpr
        generalize S12 ++ [codeO (.int w) (.int ni) bad (.tup ds)] = S13 at y13 hs13 d13 ⊢
        row_cond qq
        refine code_init_w (by omega) rfl rfl rfl rfl ⟨rfl, ?_⟩
        row_cond qq
        refine place_w (k := 7) (by omega) o_new (vint lw) (vint li) (vint lr) (.ref (o_old o_new) (fun d hd => (c3 ((y13.app hs13 _).app (hs13.app _) _) d hd).val (by omega)) (by omega)) (-1) (.inl ⟨by rw [hn1, hn2, hn3]; rfl, rfl⟩) ?_
        row_cond qq
        refine code_init_w (by omega) rfl rfl rfl rfl ⟨rfl, ?_⟩
        row_cond qq
        refine place_w (k := 7) (by omega) o_new (vint lw) (vint (by decide)) (vint (by decide)) .non (-1) (.inl ⟨by rw [hn1]; rfl, rfl⟩) ?_
        row_cond qq
        refine code_init_w (by omega) rfl rfl rfl rfl ⟨rfl, ?_⟩
        row_cond qq
        have hlast : insB 200 10000 10000 (.tup [.str "load", .int 9999, .int 9999]) = true := by rw [insB_eq, show opOf "load" = .load from by kernel_rfl]; decide
        have vl1 : ∀ S, Val S 7 (.tup [.str "load", .int 9999, .int 9999]) := fun S => .tup (fun d hd => by
          simp only [List.mem_cons, List.not_mem_nil, or_false] at hd
          rcases hd with rfl | rfl | rfl
          · exact .str (by decide +kernel) (by decide)
          · exact vint (by decide)
          · exact vint (by decide)) (by simp)
        have vlast : ∀ S, Val S 8 (.tup [.tup [.str "load", .int 9999, .int 9999]]) := fun S => .tup (fun d hd => by rw [List.mem_singleton.mp hd]; exact vl1 S) (by simp)
        refine place_w (k := 7) (by omega) o_new (vint (by decide)) (vint (by decide)) (vint (by decide)) (vlast _) (-2) (.inr ⟨200, 10000, 10000, [.tup [.str "load", .int 9999, .int 9999]], rfl, rfl, rfl, rfl, by decide, by decide, by decide, by
            show -2 = dk _ 1
            rw [dk_all fun i hi => by
              have : i = 0 := by omega
              subst this
              exact hlast]⟩) ?_
        row_cond qq
        simp
end Kl
set_option Elab.async false
set_option linter.all false
set_option maxRecDepth 100000
set_option maxHeartbeats 0
set_option autoImplicit false
namespace Kl
open PySem PySem.Spec PyProof.Rows L2 Kq
end Kl
theorem PySem.Challenge.cw_kinkmeasure_k66_code_is_checked_holds : PySem.Challenge.rw_kinkmeasure_k66_code_is_checked.Holds := by
  exact Kl.holds_of Kl.law_true
