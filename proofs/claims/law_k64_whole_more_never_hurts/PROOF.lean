import PyProof.Rows.All
import Wide.All
import OpenK.AllK
import Wide.FinOn
import HandS.ForMost
import HandS.Defaults
import HandS.Wide
import HandS.TupAny
import HandS.IsInst
import HandS.SortInts
import HandS.Head0
import HandS.Head1
import HandS.Head2
import HandS.HeadEnd
import HandS.HeadHook1
import HandS.HeadHook2
import PySem.Challenge.RW_stoke_k64_whole_more_never_hurts
import KE.KDictKeyed
import KE.KEqDict
import HandS.SetFor
set_option Elab.async false
set_option linter.all false
set_option maxRecDepth 100000
set_option maxHeartbeats 4000000
/-! Pure data over the abstract heap: values as trees (D), what is seen (H) beside what stands (H1), lists that a def owns. -/
namespace SK
open PySem L2 PyProof.Rows

inductive D where
  | non | bl (b : Bool) | int (i : Int) | tup (ds : List D) | lst (ds : List D) | seq (ds : List D) | ins (C : Addr) (fs : List (Str × D)) | adr (a : Addr)

mutual
inductive Rep (K : PySem.W.Frag) (H : Hp) : D → V → Prop
  | non : Rep K H .non .non
  | bl {b : Bool} : Rep K H (.bl b) (.bl b)
  | int {i : Int} : Rep K H (.int i) (.int i)
  | tup {p : Addr} {vs : List V} {ds : List D} : SqT K H p vs → Reps K H ds vs → Rep K H (.tup ds) (.ref p)
  | lst {p : Addr} {vs : List V} {ds : List D} : H p = some (.lst vs) → Reps K H ds vs → Rep K H (.lst ds) (.ref p)
  | seq {p : Addr} {vs : List V} {ds : List D} : SqL K H p vs → Reps K H ds vs → Rep K H (.seq ds) (.ref p)
  | ins {p C dx : Addr} {vs : List (Str × V)} {fs : List (Str × D)} : H p = some (.ins C dx vs) → RepF K H fs vs → Rep K H (.ins C fs) (.ref p)
  | adr {a : Addr} : Rep K H (.adr a) (.ref a)
inductive Reps (K : PySem.W.Frag) (H : Hp) : List D → List V → Prop
  | nil : Reps K H [] []
  | cons {d : D} {v : V} {ds : List D} {vs : List V} : Rep K H d v → Reps K H ds vs → Reps K H (d :: ds) (v :: vs)
inductive RepF (K : PySem.W.Frag) (H : Hp) : List (Str × D) → List (Str × V) → Prop
  | nil : RepF K H [] []
  | cons {f : Str} {d : D} {v : V} {ds : List (Str × D)} {vs : List (Str × V)} : Rep K H d v → RepF K H ds vs → RepF K H ((f, d) :: ds) ((f, v) :: vs)
end

theorem same_rd {H H' : Hp} {a : Addr} {u : HO} (e : Same H H') (h : Rd H a u) : Rd H' a u := by
  rcases h with h | ⟨o, h⟩
  · exact Or.inl (e a _ h)
  · exact Or.inr ⟨o, e a _ h⟩
theorem same_l {K : PySem.W.Frag} {H H' : Hp} {a : Addr} {xs : List V} (e : Same H H') (h : SqL K H a xs) : SqL K H' a xs := e.seq h
theorem same_t {K : PySem.W.Frag} {H H' : Hp} {a : Addr} {xs : List V} (e : Same H H') (h : SqT K H a xs) : SqT K H' a xs := by
  rcases h with h | h
  · exact Or.inl (same_rd e h)
  · exact Or.inr h
mutual
theorem Rep.mono {K : PySem.W.Frag} {H H' : Hp} (e : Same H H') : ∀ {d : D} {v : V}, Rep K H d v → Rep K H' d v
  | _, _, .non => .non
  | _, _, .bl => .bl
  | _, _, .int => .int
  | _, _, .tup h r => .tup (same_t e h) (Reps.mono e r)
  | _, _, .lst h r => .lst (e _ _ h) (Reps.mono e r)
  | _, _, .seq h r => .seq (same_l e h) (Reps.mono e r)
  | _, _, .ins h r => .ins (e _ _ h) (RepF.mono e r)
  | _, _, .adr => .adr
theorem Reps.mono {K : PySem.W.Frag} {H H' : Hp} (e : Same H H') : ∀ {d : List D} {v : List V}, Reps K H d v → Reps K H' d v
  | _, _, .nil => .nil
  | _, _, .cons h r => .cons (Rep.mono e h) (Reps.mono e r)
theorem RepF.mono {K : PySem.W.Frag} {H H' : Hp} (e : Same H H') : ∀ {d : List (Str × D)} {v : List (Str × V)}, RepF K H d v → RepF K H' d v
  | _, _, .nil => .nil
  | _, _, .cons h r => .cons (Rep.mono e h) (RepF.mono e r)
end
section
variable {K : PySem.W.Frag} {H : Hp}
theorem Reps.length : ∀ {ds : List D} {vs : List V}, Reps K H ds vs → ds.length = vs.length
  | _, _, .nil => rfl
  | _, _, .cons _ r => congrArg Nat.succ r.length
theorem Reps.get : ∀ {ds : List D} {vs : List V} {i : Nat} {d : D}, Reps K H ds vs → ds[i]? = some d → ∃ v, vs[i]? = some v ∧ Rep K H d v
  | _, _, _, _, .nil, e => by simp at e
  | _, _, 0, _, .cons h _, e => by
    have e2 := Option.some.inj (by simpa using e)
    subst e2
    exact ⟨_, rfl, h⟩
  | _, _, i + 1, _, .cons _ r, e => by
    obtain ⟨v, h1, h2⟩ := Reps.get (i := i) r (by simpa using e)
    exact ⟨v, by simpa using h1, h2⟩
theorem Reps.back : ∀ {ds : List D} {vs : List V} {i : Nat} {v : V}, Reps K H ds vs → vs[i]? = some v → ∃ d, ds[i]? = some d ∧ Rep K H d v
  | _, _, _, _, .nil, e => by simp at e
  | _, _, 0, _, .cons h _, e => by
    have e2 := Option.some.inj (by simpa using e)
    subst e2
    exact ⟨_, rfl, h⟩
  | _, _, i + 1, _, .cons _ r, e => by
    obtain ⟨v, h1, h2⟩ := Reps.back (i := i) r (by simpa using e)
    exact ⟨v, by simpa using h1, h2⟩
theorem Reps.append : ∀ {ds ds' : List D} {vs vs' : List V}, Reps K H ds vs → Reps K H ds' vs' → Reps K H (ds ++ ds') (vs ++ vs')
  | _, _, _, _, .nil, s => s
  | _, _, _, _, .cons h r, s => .cons h (r.append s)
theorem Reps.snoc {ds : List D} {vs : List V} {d : D} {v : V} (r : Reps K H ds vs) (h : Rep K H d v) : Reps K H (ds ++ [d]) (vs ++ [v]) := r.append (.cons h .nil)
theorem Reps.set : ∀ {ds : List D} {vs : List V} (i : Nat) {d : D} {v : V}, Reps K H ds vs → Rep K H d v → Reps K H (ds.set i d) (vs.set i v)
  | _, _, _, _, _, .nil, _ => .nil
  | _, _, 0, _, _, .cons _ r, h => .cons h r
  | _, _, i + 1, _, _, .cons q r, h => .cons q (r.set i h)
theorem Reps.take : ∀ {ds : List D} {vs : List V} (n : Nat), Reps K H ds vs → Reps K H (ds.take n) (vs.take n)
  | _, _, 0, _ => .nil
  | _, _, _ + 1, .nil => .nil
  | _, _, n + 1, .cons q r => .cons q (r.take n)
theorem Reps.drop : ∀ {ds : List D} {vs : List V} (n : Nat), Reps K H ds vs → Reps K H (ds.drop n) (vs.drop n)
  | _, _, 0, r => r
  | _, _, _ + 1, .nil => .nil
  | _, _, n + 1, .cons _ r => r.drop n
theorem Reps.rep {ds : List D} {vs : List V} (r : Reps K H ds vs) : ∀ k : Nat, Reps K H (List.replicate k ds).flatten (List.replicate k vs).flatten
  | 0 => .nil
  | k + 1 => by
    rw [List.replicate_succ, List.replicate_succ, List.flatten_cons, List.flatten_cons]
    exact r.append (r.rep k)
theorem Reps.atI {ds : List D} {vs : List V} {i : Int} {d : D} (r : Reps K H ds vs) (e : L2.atI ds i = some d) : ∃ v, L2.atI vs i = some v ∧ Rep K H d v := by
  unfold L2.atI at e ⊢
  rw [← r.length]
  cases h : ixN ds.length i with
  | none =>
    rw [h] at e
    cases e
  | some j =>
    rw [h] at e
    obtain ⟨v, e1, e2⟩ := r.get (i := j) e
    exact ⟨v, e1, e2⟩
theorem Reps.ints : ∀ (ns : List Int), Reps K H (ns.map D.int) (ns.map V.int)
  | [] => .nil
  | n :: ns => .cons .int (Reps.ints ns)
theorem Reps.of_ints : ∀ {ns : List Int} {vs : List V}, Reps K H (ns.map D.int) vs → vs = ns.map V.int
  | [], _, .nil => rfl
  | n :: ns, _, .cons h r => by
    cases h
    rw [Reps.of_ints r]
    rfl
theorem RepF.look : ∀ {fs : List (Str × D)} {vs : List (Str × V)} {f : Str} {d : D}, RepF K H fs vs → fs.lookup f = some d → ∃ v, vs.lookup f = some v ∧ Rep K H d v
  | _, _, _, _, .nil, e => by simp at e
  | (g, d') :: fs, _, f, d, .cons h r, e => by
    rw [List.lookup_cons] at e ⊢
    cases q : (f == g) with
    | true =>
      rw [q] at e
      have e2 := Option.some.inj e
      subst e2
      exact ⟨_, rfl, h⟩
    | false =>
      rw [q] at e
      exact RepF.look r e
theorem RepF.look0 : ∀ {fs : List (Str × D)} {vs : List (Str × V)} {f : Str}, RepF K H fs vs → fs.lookup f = none → vs.lookup f = none
  | _, _, _, .nil, e => rfl
  | (g, d') :: fs, _, f, .cons h r, e => by
    rw [List.lookup_cons] at e ⊢
    cases q : (f == g) with
    | true =>
      rw [q] at e
      cases e
    | false =>
      rw [q] at e
      exact RepF.look0 r e
end

/-! ### what is seen beside what stands -/
/-- a step: the seen heap H grows to G, the standing one H1 to H2; what comes in sight was seen or is new -/
structure Step (H H1 G H2 : Hp) : Prop where
  s1 : Same H G
  s2 : Same G H2
  s3 : Same H1 H2
  nw : ∀ a o, G a = some o → H a = some o ∨ H1 a = none
theorem Step.refl {H H1 : Hp} (e : Same H H1) : Step H H1 H H1 := ⟨Same.refl _, e, Same.refl _, fun _ _ h => .inl h⟩
theorem Step.trans {H H1 G H2 G' H3 : Hp} (a : Step H H1 G H2) (b : Step G H2 G' H3) : Step H H1 G' H3 :=
  ⟨a.s1.trans b.s1, b.s2, a.s3.trans b.s3, fun x o h => (b.nw x o h).elim (fun q => a.nw x o q) fun q => .inr (a.s3.free q)⟩
theorem Same.new {H : Hp} {p : Addr} {o : HO} (h : H p = none) : Same H (upd H p o) := fun a u e => by
  rw [upd_ne (ne_of_none e h)]
  exact e
theorem Same.upds {H H1 : Hp} {p : Addr} {o : HO} (e : Same H H1) : Same (upd H p o) (upd H1 p o) := fun a u q => by
  by_cases h : a = p
  · subst h
    rw [upd_same] at q ⊢
    exact q
  · rw [upd_ne h] at q ⊢
    exact e a u q
theorem Step.new {H H1 : Hp} {p : Addr} {o : HO} (e : Same H H1) (h : H1 p = none) : Step H H1 (upd H p o) (upd H1 p o) :=
  ⟨Same.new (e.free h), Same.upds e, Same.new h, fun a u q => by
    by_cases x : a = p
    · subst x
      exact .inr h
    · rw [upd_ne x] at q
      exact .inl q⟩
/-- a list that is new and not seen yet is seen -/
theorem Step.see {H H1 G H2 : Hp} {p : Addr} {o : HO} (a : Step H H1 G H2) (h : H1 p = none) (hg : G p = none) (h2 : H2 p = some o) : Step H H1 (upd G p o) H2 :=
  ⟨a.s1.trans (Same.new hg), fun x u q => by
    by_cases z : x = p
    · subst z
      rw [upd_same] at q
      exact h2.trans q
    · rw [upd_ne z] at q
      exact a.s2 x u q, a.s3, fun x u q => by
    by_cases z : x = p
    · subst z
      exact .inr h
    · rw [upd_ne z] at q
      exact a.nw x u q⟩

structure Lt (A B H H1 : Hp) : Prop where
  up : Same H H1
  an : Same A H
  bn : Same B H1
  nw : ∀ a o, H a = some o → A a = some o ∨ B a = none
theorem Lt.step {A B H H1 G H2 : Hp} (t : Lt A B H H1) (s : Step H H1 G H2) : Lt A B G H2 :=
  ⟨s.s2, t.an.trans s.s1, t.bn.trans s.s3, fun a o h => (s.nw a o h).elim (fun q => t.nw a o q) fun q => .inr (t.bn.free q)⟩
theorem Lt.start {H H1 : Hp} (e : Same H H1) : Lt H H1 H H1 := ⟨e, Same.refl _, Same.refl _, fun _ _ h => .inl h⟩
theorem Lt.toStep {A B H H1 : Hp} (t : Lt A B H H1) : Step A B H H1 := ⟨t.an, t.up, t.bn, t.nw⟩

/-- an object that is changed by its own methods: what is true of it by the anchor B, what is seen and what stands -/
structure Memo where
  ok : Hp → Hp → Hp → Addr → Prop
  step : ∀ {B H H1 G H2 : Hp} {a : Addr}, ok B H H1 a → Step H H1 G H2 → ok B G H2 a
  /-- jealous: no slot may own a list beside it -/
  jl : Bool
  put : ∀ {B H H1 : Hp} {a p : Addr} {vs vs' : List V}, jl = false → ok B H H1 a → H1 p = some (.lst vs) → ok B H (upd H1 p (.lst vs')) a
  see : ∀ {B H H1 : Hp} {a p : Addr} {vs : List V}, jl = false → ok B H H1 a → H1 p = some (.lst vs) → H p = none → ok B (upd H p (.lst vs)) H1 a
inductive Bd where
  | val (d : D) | own (ds : List D) | mem (M : Memo)
abbrev Rho := List (Option Bd)
def calmB : Option Bd → Bool
  | some (.mem M) => !M.jl
  | _ => true
def freeB_ : Option Bd → Bool
  | some (.own _) => false
  | _ => true
def noJel (ρ : Rho) : Bool := ρ.all calmB
def noOwn (ρ : Rho) : Bool := ρ.all freeB_
theorem all_set {α : Type} {p : α → Bool} : ∀ {l : List α} {i : Nat} {b : α}, l.all p = true → p b = true → (l.set i b).all p = true
  | [], _, _, _, _ => rfl
  | a :: l, 0, b, h, hb => by
    rw [List.all_cons, Bool.and_eq_true] at h
    show (b :: l).all p = true
    rw [List.all_cons, hb, h.2]
    rfl
  | a :: l, i + 1, b, h, hb => by
    rw [List.all_cons, Bool.and_eq_true] at h
    show (a :: l.set i b).all p = true
    rw [List.all_cons, h.1, all_set h.2 hb]
    rfl
theorem all_at {α : Type} {p : α → Bool} {l : List α} {i : Nat} {a : α} (h : l.all p = true) (hi : l[i]? = some a) : p a = true := List.all_eq_true.mp h _ (List.mem_of_getElem? hi)
structure At (K : PySem.W.Frag) (A B : Hp) (ρ : Rho) (σ : L2.St) (H H1 : Hp) : Prop extends Lt A B H H1 where
  sl : ∀ (i : Nat) (d : D), ρ[i]? = some (some (.val d)) → ∃ v, σ[i]? = some (some v) ∧ Rep K H d v
  ow : ∀ (i : Nat) (ds : List D), ρ[i]? = some (some (.own ds)) → ∃ p vs, σ[i]? = some (some (.ref p)) ∧ H1 p = some (.lst vs) ∧ H p = none ∧ B p = none ∧ Reps K H ds vs
  me : ∀ (i : Nat) (M : Memo), ρ[i]? = some (some (.mem M)) → ∃ a, σ[i]? = some (some (.ref a)) ∧ M.ok B H H1 a
  ne : ∀ (i j : Nat) (ds ds' : List D), i ≠ j → ρ[i]? = some (some (.own ds)) → ρ[j]? = some (some (.own ds')) → σ[i]? ≠ σ[j]?
  jo : noJel ρ = true ∨ noOwn ρ = true
  ln : σ.length = ρ.length
section
variable {K : PySem.W.Frag} {A B : Hp} {ρ : Rho} {σ : L2.St} {H H1 G H2 : Hp}
theorem At.jset (t : At K A B ρ σ H H1) (i : Nat) {b : Option Bd} (h1 : calmB b = true) (h2 : freeB_ b = true) : noJel (ρ.set i b) = true ∨ noOwn (ρ.set i b) = true :=
  t.jo.imp (fun h => all_set h h1) fun h => all_set h h2
theorem At.calm (t : At K A B ρ σ H H1) {i : Nat} {ds : List D} (hi : ρ[i]? = some (some (.own ds))) : noJel ρ = true := t.jo.elim id fun h => by
  have := all_at h hi
  cases this
theorem At.step (t : At K A B ρ σ H H1) (s : Step H H1 G H2) : At K A B ρ σ G H2 where
  toLt := t.toLt.step s
  sl := fun i d h => let ⟨v, e, r⟩ := t.sl i d h; ⟨v, e, r.mono s.s1⟩
  ow := fun i ds h => by
    obtain ⟨p, vs, e, h1, h0, hb, r⟩ := t.ow i ds h
    refine ⟨p, vs, e, s.s3 _ _ h1, ?_, hb, r.mono s.s1⟩
    cases q : G p with
    | none => rfl
    | some o =>
      rcases s.nw p o q with z | z
      · rw [h0] at z; cases z
      · rw [h1] at z; cases z
  me := fun i M h => let ⟨a, e, o⟩ := t.me i M h; ⟨a, e, M.step o s⟩
  ne := t.ne
  jo := t.jo
  ln := t.ln
theorem rho_set {ρ : Rho} {i j : Nat} {b : Option Bd} {x : Bd} (h : (ρ.set i b)[j]? = some (some x)) : (i = j ∧ b = some x ∧ i < ρ.length) ∨ (i ≠ j ∧ ρ[j]? = some (some x)) := by
  rw [List.getElem?_set] at h
  by_cases e : i = j
  · rw [if_pos e] at h
    by_cases l : i < ρ.length
    · rw [if_pos l] at h
      exact .inl ⟨e, Option.some.inj h, l⟩
    · rw [if_neg l] at h
      cases h
  · rw [if_neg e] at h
    exact .inr ⟨e, h⟩
theorem At.set (t : At K A B ρ σ H H1) (i : Nat) {d : D} {v : V} (r : Rep K H d v) : At K A B (ρ.set i (some (.val d))) (σ.set i (some v)) H H1 where
  toLt := t.toLt
  sl := fun j d' h => by
    rcases rho_set h with ⟨e, e2, l⟩ | ⟨e, e2⟩
    · subst e
      cases e2
      exact ⟨v, List.getElem?_set_self (by rw [t.ln]; exact l), r⟩
    · obtain ⟨v', e3, r'⟩ := t.sl j d' e2
      exact ⟨v', by rw [List.getElem?_set_ne e]; exact e3, r'⟩
  ow := fun j ds h => by
    rcases rho_set h with ⟨e, e2, l⟩ | ⟨e, e2⟩
    · cases e2
    · obtain ⟨p, vs, e3, r'⟩ := t.ow j ds e2
      exact ⟨p, vs, by rw [List.getElem?_set_ne e]; exact e3, r'⟩
  me := fun j M h => by
    rcases rho_set h with ⟨e, e2, l⟩ | ⟨e, e2⟩
    · cases e2
    · obtain ⟨a, e3, o⟩ := t.me j M e2
      exact ⟨a, by rw [List.getElem?_set_ne e]; exact e3, o⟩
  ne := fun a b ds ds' ab ha hb => by
    rcases rho_set ha with ⟨_, e2, _⟩ | ⟨e, e2⟩
    · cases e2
    · rcases rho_set hb with ⟨_, e4, _⟩ | ⟨e3, e4⟩
      · cases e4
      · rw [List.getElem?_set_ne e, List.getElem?_set_ne e3]
        exact t.ne a b ds ds' ab e2 e4
  jo := t.jset i rfl rfl
  ln := by rw [List.length_set, List.length_set]; exact t.ln
/-- a slot is forgotten -/
theorem At.drop (t : At K A B ρ σ H H1) (i : Nat) (v : Option V) : At K A B (ρ.set i none) (σ.set i v) H H1 where
  toLt := t.toLt
  sl := fun j d' h => by
    rcases rho_set h with ⟨e, e2, l⟩ | ⟨e, e2⟩
    · cases e2
    · obtain ⟨v', e3, r'⟩ := t.sl j d' e2
      exact ⟨v', by rw [List.getElem?_set_ne e]; exact e3, r'⟩
  ow := fun j ds h => by
    rcases rho_set h with ⟨e, e2, l⟩ | ⟨e, e2⟩
    · cases e2
    · obtain ⟨p, vs, e3, r'⟩ := t.ow j ds e2
      exact ⟨p, vs, by rw [List.getElem?_set_ne e]; exact e3, r'⟩
  me := fun j M h => by
    rcases rho_set h with ⟨e, e2, l⟩ | ⟨e, e2⟩
    · cases e2
    · obtain ⟨a, e3, o⟩ := t.me j M e2
      exact ⟨a, by rw [List.getElem?_set_ne e]; exact e3, o⟩
  ne := fun a b ds ds' ab ha hb => by
    rcases rho_set ha with ⟨_, e2, _⟩ | ⟨e, e2⟩
    · cases e2
    · rcases rho_set hb with ⟨_, e4, _⟩ | ⟨e3, e4⟩
      · cases e4
      · rw [List.getElem?_set_ne e, List.getElem?_set_ne e3]
        exact t.ne a b ds ds' ab e2 e4
  jo := t.jset i rfl rfl
  ln := by rw [List.length_set, List.length_set]; exact t.ln
/-- a slot owns a list that no other slot owns -/
theorem At.own (t : At K A B ρ σ H H1) (i : Nat) {ds : List D} {p : Addr} {vs : List V} (h1 : H1 p = some (.lst vs)) (h0 : H p = none) (hb : B p = none) (r : Reps K H ds vs)
    (hn : ∀ (j : Nat) (ds' : List D), i ≠ j → ρ[j]? = some (some (.own ds')) → σ[j]? ≠ some (some (.ref p))) (hj : noJel ρ = true) : At K A B (ρ.set i (some (.own ds))) (σ.set i (some (.ref p))) H H1 where
  toLt := t.toLt
  sl := fun j d' h => by
    rcases rho_set h with ⟨e, e2, l⟩ | ⟨e, e2⟩
    · cases e2
    · obtain ⟨v', e3, r'⟩ := t.sl j d' e2
      exact ⟨v', by rw [List.getElem?_set_ne e]; exact e3, r'⟩
  ow := fun j ds' h => by
    rcases rho_set h with ⟨e, e2, l⟩ | ⟨e, e2⟩
    · subst e
      cases e2
      exact ⟨p, vs, List.getElem?_set_self (by rw [t.ln]; exact l), h1, h0, hb, r⟩
    · obtain ⟨p, vs, e3, r'⟩ := t.ow j ds' e2
      exact ⟨p, vs, by rw [List.getElem?_set_ne e]; exact e3, r'⟩
  me := fun j M h => by
    rcases rho_set h with ⟨e, e2, l⟩ | ⟨e, e2⟩
    · cases e2
    · obtain ⟨a, e3, o⟩ := t.me j M e2
      exact ⟨a, by rw [List.getElem?_set_ne e]; exact e3, o⟩
  ne := fun a b es es' ab ha hb => by
    rcases rho_set ha with ⟨e1, _, l⟩ | ⟨e, e2⟩
    · rcases rho_set hb with ⟨e3, _, _⟩ | ⟨e3, e4⟩
      · exact absurd (e1.symm.trans e3) ab
      · subst e1
        rw [List.getElem?_set_self (by rw [t.ln]; exact l), List.getElem?_set_ne e3]
        exact fun z => hn b es' e3 e4 z.symm
    · rcases rho_set hb with ⟨e3, _, l⟩ | ⟨e3, e4⟩
      · subst e3
        rw [List.getElem?_set_self (by rw [t.ln]; exact l), List.getElem?_set_ne e]
        exact hn a es e e2
      · rw [List.getElem?_set_ne e, List.getElem?_set_ne e3]
        exact t.ne a b es es' ab e2 e4
  jo := .inl (all_set hj rfl)
  ln := by rw [List.length_set, List.length_set]; exact t.ln
/-- an owned list is written -/
theorem At.put (t : At K A B ρ σ H H1) {i : Nat} {ds ds' : List D} {p : Addr} {vs' : List V} (hi : ρ[i]? = some (some (.own ds))) (hs : σ[i]? = some (some (.ref p))) (r : Reps K H ds' vs') :
    At K A B (ρ.set i (some (.own ds'))) σ H (upd H1 p (.lst vs')) := by
  obtain ⟨p', vs, e, h1, h0, hb, r0⟩ := t.ow i ds hi
  obtain rfl : p' = p := by
    rw [hs] at e
    cases e
    rfl
  have hil : i < ρ.length := (List.getElem?_eq_some_iff.mp hi).1
  have up : Same H (upd H1 p' (.lst vs')) := fun a o q => by
    rw [upd_ne (ne_of_none q h0)]
    exact t.up a o q
  exact {
    up := up
    an := t.an
    bn := fun a o q => by
      rw [upd_ne (ne_of_none q hb)]
      exact t.bn a o q
    nw := t.nw
    sl := fun j d' h => by
      rcases rho_set h with ⟨e, e2, l⟩ | ⟨e, e2⟩
      · cases e2
      · exact t.sl j d' e2
    ow := fun j ds2 h => by
      rcases rho_set h with ⟨e2, e3, l⟩ | ⟨e2, e3⟩
      · subst e2
        cases e3
        exact ⟨p', vs', hs, upd_same, h0, hb, r⟩
      · obtain ⟨q, us, e4, g1, g0, gb, gr⟩ := t.ow j ds2 e3
        have nq : q ≠ p' := fun z => t.ne i j ds ds2 e2 hi e3 (by rw [hs, e4, z])
        exact ⟨q, us, e4, by rw [upd_ne nq]; exact g1, g0, gb, gr⟩
    me := fun j M h => by
      rcases rho_set h with ⟨e, e2, l⟩ | ⟨e, e2⟩
      · cases e2
      · obtain ⟨a, e3, o⟩ := t.me j M e2
        have hM : M.jl = false := by
          have := all_at (t.calm hi) e2
          simpa [calmB] using this
        exact ⟨a, e3, M.put hM o h1⟩
    ne := fun a b es es' ab ha hb2 => by
      have f : ∀ (c : Nat) (ys : List D), (ρ.set i (some (Bd.own ds')))[c]? = some (some (Bd.own ys)) → ∃ zs, ρ[c]? = some (some (Bd.own zs)) := fun c ys hc => by
        rcases rho_set hc with ⟨e2, _, _⟩ | ⟨_, e3⟩
        · subst e2; exact ⟨ds, hi⟩
        · exact ⟨ys, e3⟩
      obtain ⟨z1, y1⟩ := f a es ha
      obtain ⟨z2, y2⟩ := f b es' hb2
      exact t.ne a b z1 z2 ab y1 y2
    jo := .inl (all_set (t.calm hi) rfl)
    ln := by rw [List.length_set]; exact t.ln }
/-- an owned list is seen from now on -/
theorem At.freeze (t : At K A B ρ σ H H1) {i : Nat} {ds : List D} (hi : ρ[i]? = some (some (.own ds))) : ∃ G, Same H G ∧ At K A B (ρ.set i (some (.val (.lst ds)))) σ G H1 := by
  obtain ⟨p, vs, e, h1, h0, hb, r0⟩ := t.ow i ds hi
  have hil : i < ρ.length := (List.getElem?_eq_some_iff.mp hi).1
  have s1 : Same H (upd H p (.lst vs)) := Same.new h0
  refine ⟨upd H p (.lst vs), s1, ?_⟩
  exact {
    up := fun a o q => by
      by_cases z : a = p
      · subst z
        rw [upd_same] at q
        exact h1.trans q
      · rw [upd_ne z] at q
        exact t.up a o q
    an := t.an.trans s1
    bn := t.bn
    nw := fun a o q => by
      by_cases z : a = p
      · subst z
        exact .inr hb
      · rw [upd_ne z] at q
        exact t.nw a o q
    sl := fun j d' h => by
      rcases rho_set h with ⟨e2, e3, l⟩ | ⟨e2, e3⟩
      · subst e2
        cases e3
        exact ⟨_, e, .lst upd_same (r0.mono s1)⟩
      · obtain ⟨v, e4, r⟩ := t.sl j d' e3
        exact ⟨v, e4, r.mono s1⟩
    ow := fun j ds2 h => by
      rcases rho_set h with ⟨e2, e3, l⟩ | ⟨e2, e3⟩
      · cases e3
      · obtain ⟨q, us, e4, g1, g0, gb, gr⟩ := t.ow j ds2 e3
        have nq : q ≠ p := fun z => t.ne i j ds ds2 e2 hi e3 (by rw [e, e4, z])
        exact ⟨q, us, e4, g1, by rw [upd_ne nq]; exact g0, gb, gr.mono s1⟩
    me := fun j M h => by
      rcases rho_set h with ⟨e2, e3, l⟩ | ⟨e2, e3⟩
      · cases e3
      · obtain ⟨a, e4, o⟩ := t.me j M e3
        have hM : M.jl = false := by
          have := all_at (t.calm hi) e3
          simpa [calmB] using this
        exact ⟨a, e4, M.see hM o h1 h0⟩
    ne := fun a b es es' ab ha hb2 => by
      rcases rho_set ha with ⟨_, e3, _⟩ | ⟨_, y1⟩
      · cases e3
      · rcases rho_set hb2 with ⟨_, e3, _⟩ | ⟨_, y2⟩
        · cases e3
        · exact t.ne a b es es' ab y1 y2
    jo := t.jset i rfl rfl
    ln := by rw [List.length_set]; exact t.ln }
/-- the owned list of slot i moves to slot j -/
theorem At.move (t : At K A B ρ σ H H1) {i j : Nat} {ds : List D} (hi : ρ[i]? = some (some (.own ds))) (hij : i ≠ j) {v : V} (hv : σ[i]? = some (some v)) :
    At K A B ((ρ.set i none).set j (some (.own ds))) (σ.set j (some v)) H H1 := by
  obtain ⟨p, vs, e, h1, h0, hb, r0⟩ := t.ow i ds hi
  obtain rfl : v = .ref p := by
    rw [hv] at e
    cases e
    rfl
  have t2 := t.drop i (some (.ref p))
  have e2 : σ.set i (some (.ref p)) = σ := by
    refine List.ext_getElem? fun k => ?_
    rw [List.getElem?_set]
    by_cases z : i = k
    · subst z
      rw [if_pos rfl]
      have hl : i < σ.length := (List.getElem?_eq_some_iff.mp hv).1
      rw [if_pos hl]
      exact hv.symm
    · rw [if_neg z]
  rw [e2] at t2
  refine t2.own j h1 h0 hb r0 (fun k ds' jk hk => ?_) (all_set (t.calm hi) rfl)
  rcases rho_set hk with ⟨_, e3, _⟩ | ⟨e3, e4⟩
  · cases e3
  · exact fun z => t.ne i k ds ds' e3 hi e4 (hv.trans z.symm)
end

/-! ### the most general readings -/
section
variable {X : Cx}
def teOf (X : Cx) (e : Expr) : TE := fun σ H Q => ∀ (pins : List (Addr × Obj)) (s : Shared), Inv X pins σ H s → wpAny (model X.prog X.w) X.A (eval e X.env) (EP X pins σ Q) X.xe s
def ttOf (X : Cx) (e : Expr) : TT := fun σ H Q => ∀ (pins : List (Addr × Obj)) (s : Shared), Inv X pins σ H s → wpAny (model X.prog X.w) X.A (isTrue e X.env (eval e X.env)) (TP X pins σ Q) X.xe s
def twOf (X : Cx) (e : Expr) : TT := fun σ H Q => ∀ (whole : Sem Value) (pins : List (Addr × Obj)) (s : Shared), Inv X pins σ H s → wpAny (model X.prog X.w) X.A (isTrue e X.env whole) (TP X pins σ Q) X.xe s
def taOf (X : Cx) (es : List Expr) : TA := fun σ H Q => ∀ (pos : Pos) (pins : List (Addr × Obj)) (s : Shared), Inv X pins σ H s → wpAny (model X.prog X.w) X.A (spliced (backTo pos (starEach es X.env))) (AP X pins σ Q) X.xe s
def tsOf (X : Cx) (st : List Stmt) : TS := fun D σ H => ∀ (pins : List (Addr × Obj)) (s : Shared), Inv X pins σ H s → wpAny (model X.prog X.w) X.A (execs st X.env) (SP X pins D) X.xe s
def t1Of (X : Cx) (st : Stmt) : TS := fun D σ H => ∀ (pins : List (Addr × Obj)) (s : Shared), Inv X pins σ H s → wpAny (model X.prog X.w) X.A (exec st X.env) (SP X pins D) X.xe s
theorem pe_of {e : Expr} : PE X e (teOf X e) := ⟨fun pins s _ _ _ I h => h pins s I⟩
theorem pt_of {e : Expr} : PT X e (ttOf X e) := ⟨fun pins s _ _ _ I h => h pins s I⟩
theorem pw_of {e : Expr} : PW X e (twOf X e) := ⟨fun wh pins s _ _ _ I h => h wh pins s I⟩
theorem pa_of {es : List Expr} : PA X es (taOf X es) := ⟨fun pos pins s _ _ _ I h => h pos pins s I⟩
theorem pss_of {st : List Stmt} : PSs X st (tsOf X st) := ⟨fun pins s _ _ _ I h => h pins s I⟩
theorem ps_of {st : Stmt} : PS X st (t1Of X st) := ⟨fun pins s _ _ _ I h => h pins s I⟩
theorem te_run {e : Expr} {t : TE} (h : PE X e t) {σ : L2.St} {H : Hp} {Q : VK} (q : t σ H Q) : teOf X e σ H Q := fun pins s I => h.run pins s σ H Q I q
theorem tt_run {e : Expr} {t : TT} (h : PT X e t) {σ : L2.St} {H : Hp} {Q : Bool → Hp → Prop} (q : t σ H Q) : ttOf X e σ H Q := fun pins s I => h.run pins s σ H Q I q
theorem tw_run {e : Expr} {t : TT} (h : PW X e t) {σ : L2.St} {H : Hp} {Q : Bool → Hp → Prop} (q : t σ H Q) : twOf X e σ H Q := fun wh pins s I => h.run wh pins s σ H Q I q
theorem ta_run {es : List Expr} {t : TA} (h : PA X es t) {σ : L2.St} {H : Hp} {Q : List V → Hp → Prop} (q : t σ H Q) : taOf X es σ H Q := fun pos pins s I => h.run pos pins s σ H Q I q
theorem ts_run {st : List Stmt} {t : TS} (h : PSs X st t) {σ : L2.St} {H : Hp} {E : Ends} (q : t E σ H) : tsOf X st E σ H := fun pins s I => h.run pins s σ H E I q
theorem t1_run {st : Stmt} {t : TS} (h : PS X st t) {σ : L2.St} {H : Hp} {E : Ends} (q : t E σ H) : t1Of X st E σ H := fun pins s I => h.run pins s σ H E I q
theorem ts_cons {st : Stmt} {rest : List Stmt} {t : TS} (h : PS X st t) {σ : L2.St} {H : Hp} {E : Ends} (q : t { E with nx := fun σ' H' => tsOf X rest E σ' H' } σ H) : tsOf X (st :: rest) E σ H :=
  ts_run (pss_cons h pss_of) q
theorem ts_nil {σ : L2.St} {H : Hp} {E : Ends} (q : E.nx σ H) : tsOf X [] E σ H := ts_run pss_nil q
end

/-! ### what evaluates to what -/
def DE (X : Cx) (ρ : Rho) (e : Expr) (d : D) : Prop := ∀ (A B : Hp) (σ : L2.St) (H H1 : Hp) (Q : VK), At X.K A B ρ σ H H1 → (∀ v G H2, Step H H1 G H2 → Rep X.K G d v → Q v H2) → teOf X e σ H1 Q
/-- a new list, not seen yet -/
def DO (X : Cx) (ρ : Rho) (e : Expr) (ds : List D) : Prop := ∀ (A B : Hp) (σ : L2.St) (H H1 : Hp) (Q : VK), At X.K A B ρ σ H H1 →
  (∀ p vs G H2, Step H H1 G H2 → H1 p = none → G p = none → H2 p = some (.lst vs) → Reps X.K G ds vs → Q (.ref p) H2) → teOf X e σ H1 Q
def DT (X : Cx) (ρ : Rho) (e : Expr) (b : Bool) : Prop := ∀ (A B : Hp) (σ : L2.St) (H H1 : Hp) (Q : Bool → Hp → Prop), At X.K A B ρ σ H H1 → (∀ G H2, Step H H1 G H2 → Q b H2) → ttOf X e σ H1 Q
def DW (X : Cx) (ρ : Rho) (e : Expr) (b : Bool) : Prop := ∀ (A B : Hp) (σ : L2.St) (H H1 : Hp) (Q : Bool → Hp → Prop), At X.K A B ρ σ H H1 → (∀ G H2, Step H H1 G H2 → Q b H2) → twOf X e σ H1 Q
def DA (X : Cx) (ρ : Rho) (es : List Expr) (ds : List D) : Prop := ∀ (A B : Hp) (σ : L2.St) (H H1 : Hp) (Q : List V → Hp → Prop), At X.K A B ρ σ H H1 → (∀ vs G H2, Step H H1 G H2 → Reps X.K G ds vs → Q vs H2) → taOf X es σ H1 Q
/-- an operation on two values, on arguments -/
def DR (K : PySem.W.Frag) (r : R2) (da db d : D) : Prop := ∀ (H H1 : Hp) (v u : V) (Q : VK), Same H H1 → Rep K H da v → Rep K H db u → (∀ z G H2, Step H H1 G H2 → Rep K G d z → Q z H2) → r v u H1 Q
def DRo (K : PySem.W.Frag) (r : R2) (da db : D) (ds : List D) : Prop := ∀ (H H1 : Hp) (v u : V) (Q : VK), Same H H1 → Rep K H da v → Rep K H db u →
  (∀ p vs G H2, Step H H1 G H2 → H1 p = none → G p = none → H2 p = some (.lst vs) → Reps K G ds vs → Q (.ref p) H2) → r v u H1 Q
def DC (K : PySem.W.Frag) (r : List V → Hp → VK → Prop) (as : List D) (d : D) : Prop := ∀ (H H1 : Hp) (vs : List V) (Q : VK), Same H H1 → Reps K H as vs → (∀ z G H2, Step H H1 G H2 → Rep K G d z → Q z H2) → r vs H1 Q
def DCo (K : PySem.W.Frag) (r : List V → Hp → VK → Prop) (as : List D) (ds : List D) : Prop := ∀ (H H1 : Hp) (vs : List V) (Q : VK), Same H H1 → Reps K H as vs →
  (∀ p us G H2, Step H H1 G H2 → H1 p = none → G p = none → H2 p = some (.lst us) → Reps K G ds us → Q (.ref p) H2) → r vs H1 Q

section
variable {X : Cx} {ρ : Rho} {a b e o : Expr} {es : List Expr} {da db d : D} {ds : List D} {pos : Pos}
theorem DO.see (h : DO X ρ e ds) : DE X ρ e (.lst ds) := fun A B σ H H1 Q t k => h A B σ H H1 Q t fun p vs G H2 s n g h2 r =>
  k _ _ _ (s.see n g h2) (.lst upd_same (r.mono (Same.new g)))
theorem de_name {i : Nat} {x : Str} (h : ρ[i]? = some (some (.val d))) (hN : X.N[i]? = some x) (hv : Vis X.env.scope x) (hd : (x == ("__debug__" : Str)) = false := by decide) (hcd : (x == ("__classdict__" : Str)) = false := by decide) : DE X ρ (.Name x pos) d :=
  fun A B σ H H1 Q t k => te_run (pe_var hN hv hd hcd) (let ⟨v, e, r⟩ := t.sl i d h; ⟨v, e, k v H H1 (Step.refl t.up) r⟩)
theorem de_int {i : Int} {j} : DE X ρ (.Constant (.int i) j pos) (.int i) := fun A B σ H H1 Q t k => te_run pe_int (k _ _ _ (Step.refl t.up) .int)
theorem de_bl {c : Bool} {j} : DE X ρ (.Constant (.bool c) j pos) (.bl c) := fun A B σ H H1 Q t k => te_run pe_bl (k _ _ _ (Step.refl t.up) .bl)
theorem de_non {j} : DE X ρ (.Constant .none j pos) .non := fun A B σ H H1 Q t k => te_run pe_non (k _ _ _ (Step.refl t.up) .non)
/-- a module's constant -/
theorem de_glob {x : Str} {v : V} {u : Value} (hg : Gl X x) (hm : X.mg x = some u) (r : RelV v u) (h : ∀ H, Rep X.K H d v) (hd : (x == ("__debug__" : Str)) = false := by decide) : DE X ρ (.Name x pos) d :=
  fun A B σ H H1 Q t k => te_run (pe_glob hg hm r hd) (k _ _ _ (Step.refl t.up) (h _))
theorem de_op {op : Operator} {r : R2} (ho : OpR X (binaryOp op) r) (ha : DE X ρ a da) (hb : DE X ρ b db) (hr : DR X.K r da db d) : DE X ρ (.BinOp a op b pos) d :=
  fun A B σ H H1 Q t k => te_run (pe_op ho pe_of pe_of) (ha A B σ H H1 _ t fun v G H2 s1 r1 => hb A B σ G H2 _ (t.step s1) fun u G' H3 s2 r2 => hr G' H3 v u Q s2.s2 (r1.mono s2.s1) r2 fun z G2 H4 s3 r3 => k z G2 H4 ((s1.trans s2).trans s3) r3)
theorem do_op {op : Operator} {r : R2} (ho : OpR X (binaryOp op) r) (ha : DE X ρ a da) (hb : DE X ρ b db) (hr : DRo X.K r da db ds) : DO X ρ (.BinOp a op b pos) ds :=
  fun A B σ H H1 Q t k => te_run (pe_op ho pe_of pe_of) (ha A B σ H H1 _ t fun v G H2 s1 r1 => hb A B σ G H2 _ (t.step s1) fun u G' H3 s2 r2 => hr G' H3 v u Q s2.s2 (r1.mono s2.s1) r2 fun p vs G2 H4 s3 n g h2 r3 =>
    k p vs G2 H4 ((s1.trans s2).trans s3) ((s1.trans s2).s3.free n) g h2 r3)
theorem de_un {op : UnaryOp} {r : V → Hp → VK → Prop} (ho : UnR X (unaryOp op) r) (ha : DE X ρ a da) (hr : ∀ (H H1 : Hp) (v : V) (Q : VK), Same H H1 → Rep X.K H da v → (∀ z G H2, Step H H1 G H2 → Rep X.K G d z → Q z H2) → r v H1 Q) : DE X ρ (.UnaryOp op a pos) d :=
  fun A B σ H H1 Q t k => te_run (pe_un ho pe_of) (ha A B σ H H1 _ t fun v G H2 s1 r1 => hr G H2 v Q s1.s2 r1 fun z G2 H4 s3 r3 => k z G2 H4 (s1.trans s3) r3)
theorem de_neg {i : Int} (ha : DE X ρ a (.int i)) : DE X ρ (.UnaryOp .USub a pos) (.int (-i)) := de_un un_neg ha fun H H1 v Q e r k => by
  cases r
  exact ⟨i, rfl, k _ _ _ (Step.refl e) .int⟩
theorem de_cmp {op : CmpOp} {r : R2} (ho : OpR X (compareOp op) r) (ha : DE X ρ a da) (hb : DE X ρ b db) (hr : DR X.K r da db d) (hm : behindInMarks op b = false) : DE X ρ (.Compare a [op] [b] pos) d :=
  fun A B σ H H1 Q t k => te_run (pe_cmpR ho pe_of pe_of hm) (ha A B σ H H1 _ t fun v G H2 s1 r1 => hb A B σ G H2 _ (t.step s1) fun u G' H3 s2 r2 => hr G' H3 v u Q s2.s2 (r1.mono s2.s1) r2 fun z G2 H4 s3 r3 => k z G2 H4 ((s1.trans s2).trans s3) r3)
theorem dt_cmp {op : CmpOp} {r : R2} {c : Bool} (ho : OpR X (compareOp op) r) (ha : DE X ρ a da) (hb : DE X ρ b db) (hr : DR X.K r da db (.bl c)) (hm : behindInMarks op b = false) : DT X ρ (.Compare a [op] [b] pos) c :=
  fun A B σ H H1 Q t k => tt_run (pt_cmpR ho pe_of pe_of hm) (ha A B σ H H1 _ t fun v G H2 s1 r1 => hb A B σ G H2 _ (t.step s1) fun u G' H3 s2 r2 => hr G' H3 v u _ s2.s2 (r1.mono s2.s1) r2 fun z G2 H4 s3 r3 => by
    cases r3
    exact ⟨c, rfl, k G2 H4 ((s1.trans s2).trans s3)⟩)
/-- a comparison, and another one of its right side: a <= b <= c -/
theorem de_chain {op op' : CmpOp} {r r' : R2} {c : Expr} {dc : D} {k1 k2 : Bool} (ho : OpR X (compareOp op) r) (ho' : OpR X (compareOp op') r') (ha : DE X ρ a da) (hb : DE X ρ b db) (hc : DE X ρ c dc) (hr : DR X.K r da db (.bl k1)) (hr' : DR X.K r' db dc (.bl k2))
    (hch : ∀ {ta tb tc : TE}, PE X a ta → PE X b tb → PE X c tc → PE X (.Compare a [op, op'] [b, c] pos) (tChain r r' ta tb tc)) : DE X ρ (.Compare a [op, op'] [b, c] pos) (.bl (k1 && k2)) :=
  fun A B σ H H1 Q t k => te_run (hch pe_of pe_of pe_of) (ha A B σ H H1 _ t fun v G H2 s1 r1 => hb A B σ G H2 _ (t.step s1) fun u G' H3 s2 r2 => hr G' H3 v u _ s2.s2 (r1.mono s2.s1) r2 fun z G2 H4 s3 r3 => by
    cases r3
    refine ⟨k1, rfl, ?_⟩
    have s := (s1.trans s2).trans s3
    cases k1 with
    | false => exact k _ _ _ s .bl
    | true => exact hc A B σ G2 H4 _ (t.step s) fun z G3 H5 s4 r4 => hr' G3 H5 u z Q s4.s2 (r2.mono (s3.trans s4).s1) r4 fun z' G4 H6 s5 r5 => k z' G4 H6 ((s.trans s4).trans s5) r5)
theorem dt_val {c : Bool} (h : DE X ρ e (.bl c)) (he : ∀ whole, isTrue e X.env whole = (do let v ← whole; standAt e.pos; holding [v] (truthy v)) := by intro _; rfl) : DT X ρ e c :=
  fun A B σ H H1 Q t k => tt_run (pt_val pe_of he) (h A B σ H H1 _ t fun v G H2 s r => by
    cases r
    exact ⟨c, rfl, k G H2 s⟩)
theorem dt_not {c : Bool} (h : DT X ρ e c) : DT X ρ (.UnaryOp .Not e pos) (!c) := fun A B σ H H1 Q t k => tt_run (pt_not pt_of) (h A B σ H H1 _ t k)
theorem DW.dt {c : Bool} (h : DW X ρ e c) : DT X ρ e c := fun A B σ H H1 Q t k => tt_run (PW.pt pw_of) (h A B σ H H1 _ t k)
theorem dw_and1 {c : Bool} (h : DT X ρ e c) : DW X ρ (.BoolOp .And [e] pos) c := fun A B σ H H1 Q t k => tw_run (pw_and1 pt_of) (h A B σ H H1 _ t k)
theorem dw_or1 {c : Bool} (h : DT X ρ e c) : DW X ρ (.BoolOp .Or [e] pos) c := fun A B σ H H1 Q t k => tw_run (pw_or1 pt_of) (h A B σ H H1 _ t k)
theorem dw_and {c c' : Bool} (h : DT X ρ a c) (h' : c = true → DW X ρ (.BoolOp .And (b :: es) pos) c') : DW X ρ (.BoolOp .And (a :: b :: es) pos) (c && c') := fun A B σ H H1 Q t k => tw_run (pw_and pt_of pw_of) (h A B σ H H1 _ t fun G H2 s => by
  cases c with
  | true => exact h' rfl A B σ G H2 _ (t.step s) fun G' H3 s2 => k G' H3 (s.trans s2)
  | false => exact k G H2 s)
theorem dw_or {c c' : Bool} (h : DT X ρ a c) (h' : c = false → DW X ρ (.BoolOp .Or (b :: es) pos) c') : DW X ρ (.BoolOp .Or (a :: b :: es) pos) (c || c') := fun A B σ H H1 Q t k => tw_run (pw_or pt_of pw_of) (h A B σ H H1 _ t fun G H2 s => by
  cases c with
  | false => exact h' rfl A B σ G H2 _ (t.step s) fun G' H3 s2 => k G' H3 (s.trans s2)
  | true => exact k G H2 s)
theorem de_one {op} (h : DE X ρ a d) : DE X ρ (.BoolOp op [a] pos) d := fun A B σ H H1 Q t k => te_run (pe_one pe_of) (h A B σ H H1 _ t k)
theorem de_and {c c' : Bool} (h : DE X ρ a (.bl c)) (h' : c = true → DE X ρ (.BoolOp .And (b :: es) pos) (.bl c')) : DE X ρ (.BoolOp .And (a :: b :: es) pos) (.bl (c && c')) := fun A B σ H H1 Q t k => te_run (pe_and pe_of pe_of) (h A B σ H H1 _ t fun v G H2 s r => by
  cases r
  refine ⟨c, rfl, ?_⟩
  cases c with
  | true => exact h' rfl A B σ G H2 _ (t.step s) fun z G' H3 s2 r2 => k z G' H3 (s.trans s2) r2
  | false => exact k _ G H2 s .bl)
theorem de_or {c c' : Bool} (h : DE X ρ a (.bl c)) (h' : c = false → DE X ρ (.BoolOp .Or (b :: es) pos) (.bl c')) : DE X ρ (.BoolOp .Or (a :: b :: es) pos) (.bl (c || c')) := fun A B σ H H1 Q t k => te_run (pe_or pe_of pe_of) (h A B σ H H1 _ t fun v G H2 s r => by
  cases r
  refine ⟨c, rfl, ?_⟩
  cases c with
  | false => exact h' rfl A B σ G H2 _ (t.step s) fun z G' H3 s2 r2 => k z G' H3 (s.trans s2) r2
  | true => exact k _ G H2 s .bl)
theorem de_not {c : Bool} (h : DE X ρ a (.bl c)) : DE X ρ (.UnaryOp .Not a pos) (.bl (!c)) := fun A B σ H H1 Q t k => te_run (pe_not pe_of) (h A B σ H H1 _ t fun v G H2 s r => by
  cases r
  exact ⟨c, rfl, k _ G H2 s .bl⟩)
theorem de_if {c : Expr} {k : Bool} (hc : DT X ρ c k) (h1 : k = true → DE X ρ a d) (h2 : k = false → DE X ρ b d) : DE X ρ (.IfExp c a b pos) d := fun A B σ H H1 Q t q => te_run (pe_ifExp pt_of pe_of pe_of) (hc A B σ H H1 _ t fun G H2 s => by
  cases k with
  | true => exact h1 rfl A B σ G H2 _ (t.step s) fun z G' H3 s2 r2 => q z G' H3 (s.trans s2) r2
  | false => exact h2 rfl A B σ G H2 _ (t.step s) fun z G' H3 s2 r2 => q z G' H3 (s.trans s2) r2)
theorem de_is (h : DE X ρ e da) (q : da = d) : DE X ρ e d := q ▸ h
theorem dt_is {c c' : Bool} (h : DT X ρ e c) (q : c = c') : DT X ρ e c' := q ▸ h
theorem do_is {ds' : List D} (h : DO X ρ e ds) (q : ds = ds') : DO X ρ e ds' := q ▸ h
/-! arguments, displays -/
theorem da_nil : DA X ρ [] [] := fun A B σ H H1 Q t k => ta_run pa_nil (k _ _ _ (Step.refl t.up) .nil)
theorem da_cons (h : DE X ρ e d) (hr : DA X ρ es ds) (hs : starEach (e :: es) X.env = (false, eval e X.env) :: starEach es X.env := by rfl) : DA X ρ (e :: es) (d :: ds) :=
  fun A B σ H H1 Q t k => ta_run (pa_cons pe_of pa_of hs) (h A B σ H H1 _ t fun v G H2 s r => hr A B σ G H2 _ (t.step s) fun vs G' H3 s2 r2 => k (v :: vs) G' H3 (s.trans s2) (.cons (r.mono s2.s1) r2))
theorem de_tup {x1} (h : DA X ρ es ds) (hl : ds.length ≤ sizeLine := by exact Nat.le_of_lt (L2.small1000 (Nat.le_of_ble_eq_true rfl))) : DE X ρ (.Tuple es x1 pos) (.tup ds) :=
  fun A B σ H H1 Q t k => te_run (pe_tup pa_of) (h A B σ H H1 _ t fun vs G H2 s r => ⟨by rw [← r.length]; exact hl, fun p hp => k _ _ _ (s.trans (Step.new s.s2 hp)) (.tup (SqT.of upd_same) (r.mono (Same.new (s.s2.free hp))))⟩)
theorem do_lst (h : DA X ρ es ds) (hl : ds.length ≤ sizeLine := by exact Nat.le_of_lt (L2.small1000 (Nat.le_of_ble_eq_true rfl))) : DO X ρ (.List es pos) ds :=
  fun A B σ H H1 Q t k => te_run (pe_lst pa_of) (h A B σ H H1 _ t fun vs G H2 s r => ⟨by rw [← r.length]; exact hl, fun p hp => k p vs G _ ⟨s.s1, s.s2.trans (Same.new hp), s.s3.trans (Same.new hp), s.nw⟩ (s.s3.free hp) (s.s2.free hp) upd_same r⟩)
/-! attributes, subscripts -/
theorem de_fld {f : Str} {C : Addr} {fs : List (Str × D)} (h : DE X ρ o (.ins C fs)) (hc : Cls X.K C) (hn : NoAttr X.K C f) (hl : fs.lookup f = some d) (hb : attributeBase o f X.env (eval o X.env) = eval o X.env := by rfl) : DE X ρ (.Attribute o f pos) d :=
  fun A B σ H H1 Q t k => te_run (pe_fld pe_of hb) (h A B σ H H1 _ t fun v G H2 s r => by
    cases r with
    | ins hp rf =>
      obtain ⟨u, e, ru⟩ := rf.look hl
      exact ⟨_, C, _, _, u, rfl, s.s2 _ _ hp, hc, hn, e, k u G H2 s ru⟩)
theorem de_ix {r : R2} (hr : IxR X r) (ha : DE X ρ a da) (hb : DE X ρ b db) (h : DR X.K r da db d) (hs : PlainIx b := by intro _ _; rfl) : DE X ρ (.Subscript a b pos) d :=
  fun A B σ H H1 Q t k => te_run (pe_ix hr pe_of pe_of hs) (ha A B σ H H1 _ t fun v G H2 s1 r1 => hb A B σ G H2 _ (t.step s1) fun u G' H3 s2 r2 => h G' H3 v u Q s2.s2 (r1.mono s2.s1) r2 fun z G2 H4 s3 r3 => k z G2 H4 ((s1.trans s2).trans s3) r3)
theorem dr_ixL {K : PySem.W.Frag} {i : Int} (h : atI ds i = some d) : DR K (rIxL K) (.lst ds) (.int i) d := fun H H1 v u Q e r1 r2 k => by
  cases r1 with
  | lst hp rs =>
    cases r2
    obtain ⟨z, e1, rz⟩ := rs.atI h
    exact ⟨_, _, i, z, rfl, rfl, SqL.of (e _ _ hp), e1, k z H H1 (Step.refl e) rz⟩
theorem dr_ixS {K : PySem.W.Frag} {i : Int} (h : atI ds i = some d) : DR K (rIxL K) (.seq ds) (.int i) d := fun H H1 v u Q e r1 r2 k => by
  cases r1 with
  | seq hp rs =>
    cases r2
    obtain ⟨z, e1, rz⟩ := rs.atI h
    exact ⟨_, _, i, z, rfl, rfl, same_l e hp, e1, k z H H1 (Step.refl e) rz⟩
theorem dr_ixT {K : PySem.W.Frag} {i : Int} (h : atI ds i = some d) : DR K (rIxT K) (.tup ds) (.int i) d := fun H H1 v u Q e r1 r2 k => by
  cases r1 with
  | tup hp rs =>
    cases r2
    obtain ⟨z, e1, rz⟩ := rs.atI h
    exact ⟨_, _, i, z, rfl, rfl, same_t e hp, e1, k z H H1 (Step.refl e) rz⟩
theorem de_ixL {i : Int} (ha : DE X ρ a (.lst ds)) (hb : DE X ρ b (.int i)) (h : atI ds i = some d) (hs : PlainIx b := by intro _ _; rfl) : DE X ρ (.Subscript a b pos) d := de_ix ix_list ha hb (dr_ixL h) hs
theorem de_ixT {i : Int} (ha : DE X ρ a (.tup ds)) (hb : DE X ρ b (.int i)) (h : atI ds i = some d) (hs : PlainIx b := by intro _ _; rfl) : DE X ρ (.Subscript a b pos) d := de_ix ix_tup ha hb (dr_ixT h) hs
theorem de_ixS {i : Int} (ha : DE X ρ a (.seq ds)) (hb : DE X ρ b (.int i)) (h : atI ds i = some d) (hs : PlainIx b := by intro _ _; rfl) : DE X ρ (.Subscript a b pos) d := de_ix ix_list ha hb (dr_ixS h) hs
/-- an item of an owned list -/
theorem de_ixO {i : Nat} {x : Str} {pos' : Pos} {j : Int} (h : ρ[i]? = some (some (.own ds))) (hN : X.N[i]? = some x) (hv : Vis X.env.scope x) (hb : DE X ρ b (.int j)) (hj : atI ds j = some d) (hs : PlainIx b := by intro _ _; rfl)
    (hd : (x == ("__debug__" : Str)) = false := by decide) (hcd : (x == ("__classdict__" : Str)) = false := by decide) : DE X ρ (.Subscript (.Name x pos') b pos) d :=
  fun A B σ H H1 Q t k => te_run (pe_ix ix_list (pe_var hN hv hd hcd) pe_of hs) (by
    obtain ⟨p, vs, e, h1, h0, hb0, r0⟩ := t.ow i ds h
    refine ⟨_, e, hb A B σ H H1 _ t fun u G H2 s r => ?_⟩
    cases r
    obtain ⟨z, e1, rz⟩ := r0.atI hj
    exact ⟨p, vs, j, z, rfl, rfl, SqL.of (s.s3 _ _ h1), e1, k z G H2 s (rz.mono s.s1)⟩)
end
end SK
set_option maxRecDepth 100000
set_option maxHeartbeats 4000000
namespace SK
open PySem L2 PyProof.Rows

/-! ### operations by values -/
section
variable {K : PySem.W.Frag} {i j : Int} {d : D}
theorem dr_0 {g : Int → Int → V} (h : ∀ H, Rep K H d (g i j)) : DR K (rI0 g) (.int i) (.int j) d := fun H H1 v u Q e r1 r2 k => by
  cases r1
  cases r2
  exact ⟨i, j, rfl, rfl, k _ _ _ (Step.refl e) (h H)⟩
theorem dr_C {C : Int → Int → Prop} {g : Int → Int → V} (hc : C i j) (h : ∀ H, Rep K H d (g i j)) : DR K (rI C g) (.int i) (.int j) d := fun H H1 v u Q e r1 r2 k => by
  cases r1
  cases r2
  exact ⟨i, j, rfl, rfl, hc, k _ _ _ (Step.refl e) (h H)⟩
theorem dr_eqI : DR K rEq (.int i) (.int j) (.bl (decide (i = j))) := fun H H1 v u Q e r1 r2 k => by
  cases r1
  cases r2
  refine ⟨rfl, ?_⟩
  rw [show decide (V.int i = V.int j) = decide (i = j) from by rw [L2.dec_int, Bool.beq_eq_decide_eq]]
  exact k _ _ _ (Step.refl e) .bl
theorem dr_neI : DR K rNe (.int i) (.int j) (.bl (!decide (i = j))) := fun H H1 v u Q e r1 r2 k => by
  cases r1
  cases r2
  refine ⟨rfl, ?_⟩
  rw [show decide (V.int i = V.int j) = decide (i = j) from by rw [L2.dec_int, Bool.beq_eq_decide_eq]]
  exact k _ _ _ (Step.refl e) .bl
theorem dr_neB {b c : Bool} : DR K rNe (.bl b) (.bl c) (.bl (b != c)) := fun H H1 v u Q e r1 r2 k => by
  cases r1
  cases r2
  refine ⟨rfl, ?_⟩
  have e1 : (!decide (V.bl b = V.bl c)) = (b != c) := by cases b <;> cases c <;> rfl
  rw [e1]
  exact k _ _ _ (Step.refl e) .bl
def D.isN : D → Bool
  | .non => true
  | _ => false
theorem rep_isN {H : Hp} {v : V} (r : Rep K H d v) : decide (v = .non) = d.isN := by cases r <;> rfl
def rIsNo : R2 := fun x y H Q => y = .non ∧ Q (.bl (decide (x = .non))) H
def rNotNo : R2 := fun x y H Q => y = .non ∧ Q (.bl (!decide (x = .non))) H
theorem dr_isN : DR K rIsNo d .non (.bl d.isN) := fun H H1 v u Q e r1 r2 k => by
  cases r2
  refine ⟨rfl, ?_⟩
  rw [rep_isN r1]
  exact k _ _ _ (Step.refl e) .bl
theorem dr_notN : DR K rNotNo d .non (.bl (!d.isN)) := fun H H1 v u Q e r1 r2 k => by
  cases r2
  refine ⟨rfl, ?_⟩
  rw [rep_isN r1]
  exact k _ _ _ (Step.refl e) .bl
/-- t + u of tuples -/
theorem reps_nil {H : Hp} {vs : List V} {ds : List D} (r : Reps K H ds vs) : vs = [] ↔ ds = [] := by cases r <;> simp
theorem dr_catT {as bs : List D} (hl : as.length + bs.length ≤ sizeLine) : DR K (rCatA K) (.tup as) (.tup bs) (.tup (as ++ bs)) := fun H H1 v u Q e r1 r2 k => by
  cases r1 with
  | tup h1 s1 =>
    cases r2 with
    | tup h2 s2 =>
      refine ⟨_, _, _, _, rfl, rfl, same_t e h1, same_t e h2, by rw [← s1.length, ← s2.length]; exact hl, fun z => ?_, fun _ z => ?_, fun _ _ p hp => ?_⟩
      · have z2 := (reps_nil s1).mp z
        subst z2
        exact k _ _ _ (Step.refl e) (.tup h2 s2)
      · have z2 := (reps_nil s2).mp z
        subst z2
        rw [List.append_nil] at k
        exact k _ _ _ (Step.refl e) (.tup h1 s1)
      · exact k _ _ _ (Step.new e hp) (.tup (SqT.of upd_same) ((s1.append s2).mono (Same.new (e.free hp))))
/-- xs + ys of lists: a new list -/
theorem dr_catL {as bs : List D} (hl : as.length + bs.length ≤ sizeLine) : DRo K rCat (.lst as) (.lst bs) (as ++ bs) := fun H H1 v u Q e r1 r2 k => by
  cases r1 with
  | lst h1 s1 =>
    cases r2 with
    | lst h2 s2 =>
      refine ⟨_, _, _, _, rfl, rfl, e _ _ h1, e _ _ h2, by rw [← s1.length, ← s2.length]; exact hl, fun p hp => ?_⟩
      exact k p _ H _ ⟨Same.refl _, e.trans (Same.new hp), Same.new hp, fun _ _ z => .inl z⟩ hp (e.free hp) upd_same (s1.append s2)
theorem dr_rep {as : List D} (h0 : -(2 ^ 63) ≤ i) (h1 : i < 2 ^ 63) (hl : as.length * i.toNat ≤ sizeLine) : DRo K rRep (.lst as) (.int i) (List.replicate i.toNat as).flatten := fun H H1 v u Q e r1 r2 k => by
  cases r1 with
  | lst h1' s1 =>
    cases r2
    refine ⟨_, i, _, rfl, rfl, e _ _ h1', h0, h1, by rw [← s1.length]; exact hl, fun p hp => ?_⟩
    exact k p _ H _ ⟨Same.refl _, e.trans (Same.new hp), Same.new hp, fun _ _ z => .inl z⟩ hp (e.free hp) upd_same (s1.rep _)
end
section
variable {X : Cx} {ρ : Rho} {a b e o : Expr} {es : List Expr} {da db d : D} {ds : List D} {pos : Pos} {i j : Int}
theorem de_add (ha : DE X ρ a (.int i)) (hb : DE X ρ b (.int j)) : DE X ρ (.BinOp a .Add b pos) (.int (i + j)) := de_op op_add ha hb (dr_0 fun _ => .int)
theorem de_sub (ha : DE X ρ a (.int i)) (hb : DE X ρ b (.int j)) : DE X ρ (.BinOp a .Sub b pos) (.int (i - j)) := de_op op_sub ha hb (dr_0 fun _ => .int)
theorem de_mul (ha : DE X ρ a (.int i)) (hb : DE X ρ b (.int j)) (hc : CMulW i j) : DE X ρ (.BinOp a .Mult b pos) (.int (i * j)) := de_op op_mulW ha hb (dr_C hc fun _ => .int)
theorem de_div (ha : DE X ρ a (.int i)) (hb : DE X ρ b (.int j)) (hc : CDivW i j) : DE X ρ (.BinOp a .FloorDiv b pos) (.int (i / j)) := de_op op_fdivW ha hb (dr_C hc fun _ => .int)
theorem de_divN (ha : DE X ρ a (.int i)) (hb : DE X ρ b (.int j)) (hc : CDivN i j) : DE X ρ (.BinOp a .FloorDiv b pos) (.int (i.fdiv j)) := de_op op_fdivN ha hb (dr_C hc fun _ => .int)
theorem de_mod (ha : DE X ρ a (.int i)) (hb : DE X ρ b (.int j)) (hc : 0 < j) : DE X ρ (.BinOp a .Mod b pos) (.int (i % j)) := de_op op_mod ha hb (dr_C hc fun _ => .int)
theorem de_pow (ha : DE X ρ a (.int i)) (hb : DE X ρ b (.int j)) (hc : CPow i j) : DE X ρ (.BinOp a .Pow b pos) (.int (i ^ j.toNat)) := de_op op_pow ha hb (dr_C hc fun _ => .int)
theorem de_shl (ha : DE X ρ a (.int i)) (hb : DE X ρ b (.int j)) (hc : CPow i j) : DE X ρ (.BinOp a .LShift b pos) (.int (i * 2 ^ j.toNat)) := de_op op_shl ha hb (dr_C hc fun _ => .int)
theorem de_shr (ha : DE X ρ a (.int i)) (hb : DE X ρ b (.int j)) (hc : 0 ≤ j) : DE X ρ (.BinOp a .RShift b pos) (.int (i / 2 ^ j.toNat)) := de_op op_shr ha hb (dr_C (C := fun _ j => 0 ≤ j) hc fun _ => .int)
theorem de_bor (ha : DE X ρ a (.int i)) (hb : DE X ρ b (.int j)) : DE X ρ (.BinOp a .BitOr b pos) (.int (Builtin.bitOr i j)) := de_op op_or ha hb (dr_0 fun _ => .int)
theorem de_catT {as bs : List D} (ha : DE X ρ a (.tup as)) (hb : DE X ρ b (.tup bs)) (hl : as.length + bs.length ≤ sizeLine) : DE X ρ (.BinOp a .Add b pos) (.tup (as ++ bs)) := de_op op_catA ha hb (dr_catT hl)
theorem do_catL {as bs : List D} (ha : DE X ρ a (.lst as)) (hb : DE X ρ b (.lst bs)) (hl : as.length + bs.length ≤ sizeLine) : DO X ρ (.BinOp a .Add b pos) (as ++ bs) := do_op op_cat ha hb (dr_catL hl)
theorem do_rep {as : List D} (ha : DE X ρ a (.lst as)) (hb : DE X ρ b (.int i)) (h0 : 0 ≤ i) (h1 : i < 2 ^ 63) (hl : as.length * i.toNat ≤ sizeLine) : DO X ρ (.BinOp a .Mult b pos) (List.replicate i.toNat as).flatten := do_op op_rep ha hb (dr_rep (by omega) h1 hl)
theorem de_lt (ha : DE X ρ a (.int i)) (hb : DE X ρ b (.int j)) : DE X ρ (.Compare a [.Lt] [b] pos) (.bl (decide (i < j))) := de_cmp op_lt ha hb (dr_0 fun _ => .bl) (nomark _)
theorem de_le (ha : DE X ρ a (.int i)) (hb : DE X ρ b (.int j)) : DE X ρ (.Compare a [.LtE] [b] pos) (.bl (decide (i ≤ j))) := de_cmp op_le ha hb (dr_0 fun _ => .bl) (nomark _)
theorem de_gt (ha : DE X ρ a (.int i)) (hb : DE X ρ b (.int j)) : DE X ρ (.Compare a [.Gt] [b] pos) (.bl (decide (j < i))) := de_cmp op_gt ha hb (dr_0 fun _ => .bl) (nomark _)
theorem de_ge (ha : DE X ρ a (.int i)) (hb : DE X ρ b (.int j)) : DE X ρ (.Compare a [.GtE] [b] pos) (.bl (decide (j ≤ i))) := de_cmp op_ge ha hb (dr_0 fun _ => .bl) (nomark _)
theorem de_eq (ha : DE X ρ a (.int i)) (hb : DE X ρ b (.int j)) : DE X ρ (.Compare a [.Eq] [b] pos) (.bl (decide (i = j))) := de_cmp op_eq ha hb dr_eqI (nomark _)
theorem de_neI (ha : DE X ρ a (.int i)) (hb : DE X ρ b (.int j)) : DE X ρ (.Compare a [.NotEq] [b] pos) (.bl (!decide (i = j))) := de_cmp op_ne ha hb dr_neI (nomark _)
theorem de_isN (ha : DE X ρ a d) (hb : DE X ρ b .non) : DE X ρ (.Compare a [.Is] [b] pos) (.bl d.isN) := de_cmp (r := rIsNo) op_isN ha hb dr_isN (nomark _)
theorem de_notN (ha : DE X ρ a d) (hb : DE X ρ b .non) : DE X ρ (.Compare a [.IsNot] [b] pos) (.bl (!d.isN)) := de_cmp (r := rNotNo) op_notN ha hb dr_notN (nomark _)
theorem dt_lt (ha : DE X ρ a (.int i)) (hb : DE X ρ b (.int j)) : DT X ρ (.Compare a [.Lt] [b] pos) (decide (i < j)) := dt_cmp op_lt ha hb (dr_0 fun _ => .bl) (nomark _)
theorem dt_le (ha : DE X ρ a (.int i)) (hb : DE X ρ b (.int j)) : DT X ρ (.Compare a [.LtE] [b] pos) (decide (i ≤ j)) := dt_cmp op_le ha hb (dr_0 fun _ => .bl) (nomark _)
theorem dt_gt (ha : DE X ρ a (.int i)) (hb : DE X ρ b (.int j)) : DT X ρ (.Compare a [.Gt] [b] pos) (decide (j < i)) := dt_cmp op_gt ha hb (dr_0 fun _ => .bl) (nomark _)
theorem dt_ge (ha : DE X ρ a (.int i)) (hb : DE X ρ b (.int j)) : DT X ρ (.Compare a [.GtE] [b] pos) (decide (j ≤ i)) := dt_cmp op_ge ha hb (dr_0 fun _ => .bl) (nomark _)
theorem dt_eq (ha : DE X ρ a (.int i)) (hb : DE X ρ b (.int j)) : DT X ρ (.Compare a [.Eq] [b] pos) (decide (i = j)) := dt_cmp op_eq ha hb dr_eqI (nomark _)
theorem dt_ne (ha : DE X ρ a (.int i)) (hb : DE X ρ b (.int j)) : DT X ρ (.Compare a [.NotEq] [b] pos) (!decide (i = j)) := dt_cmp op_ne ha hb dr_neI (nomark _)
theorem dt_neB {c c' : Bool} (ha : DE X ρ a (.bl c)) (hb : DE X ρ b (.bl c')) : DT X ρ (.Compare a [.NotEq] [b] pos) (c != c') := dt_cmp op_ne ha hb dr_neB (nomark _)
theorem dt_isN (ha : DE X ρ a d) (hb : DE X ρ b .non) : DT X ρ (.Compare a [.Is] [b] pos) d.isN := dt_cmp (r := rIsNo) op_isN ha hb dr_isN (nomark _)
theorem dt_notN (ha : DE X ρ a d) (hb : DE X ρ b .non) : DT X ρ (.Compare a [.IsNot] [b] pos) (!d.isN) := dt_cmp (r := rNotNo) op_notN ha hb dr_notN (nomark _)
/-- t[:n] of a tuple, n written -/
theorem de_head {n : Nat} {as : List D} {p2 : Pos} {e : Expr} (ha : DE X ρ a (.tup as)) (he : DE X ρ e (.int (n : Int))) : DE X ρ (.Subscript a (.Slice none (some e) none p2) pos) (.tup (as.take n)) :=
  fun A B σ H H1 Q t k => te_run (pe_slice sl_tupA pe_of po_none (po_some pe_of)) (ha A B σ H H1 _ t fun v G H2 s r => he A B σ G H2 _ (t.step s) fun u G2 H3 s2 r2 => by
    cases r2
    cases r with
    | @tup p xs _ hp rs =>
      refine ⟨_, rfl, _, xs, rfl, same_t (s2.s1.trans s2.s2) hp, ?_⟩
      have c0 : HT.sIx xs.length 0 none = 0 := rfl
      have c1 : HT.sIx xs.length xs.length (some (n : Int)) = min n xs.length := HT.sIx_nat _ _ _
      rw [c0, c1]
      refine ⟨fun z => ?_, fun _ p' hp' => ?_⟩
      · have z2 : xs.length ≤ n := by omega
        have z3 : as.take n = as := List.take_of_length_le (by rw [rs.length]; exact z2)
        rw [z3] at k
        exact k _ _ _ (s.trans s2) ((Rep.tup hp rs).mono s2.s1)
      · have e1 : cutV xs none (some (n : Int)) = xs.take n := by
          unfold cutV
          rw [c0, c1, List.drop_zero, Nat.sub_zero]
          by_cases z : n ≤ xs.length
          · rw [Nat.min_eq_left z]
          · rw [Nat.min_eq_right (by omega), List.take_of_length_le (Nat.le_refl _), List.take_of_length_le (by omega)]
        rw [e1]
        exact k _ _ _ ((s.trans s2).trans (Step.new s2.s2 hp')) (.tup (SqT.of upd_same) ((rs.take n).mono (s2.s1.trans (Same.new (s2.s2.free hp'))))))
end

/-! ### calls -/
/-- the promise of a def over pure data -/
def spD (K : PySem.W.Frag) (S : List D → D → Prop) : Sp := fun vs H1 Q _ => ∃ ds d H, Same H H1 ∧ Reps K H ds vs ∧ S ds d ∧ ∀ v G H2, Step H H1 G H2 → Rep K G d v → Q v H2
structure Cal (P : Program) (w : World) (K : PySem.W.Frag) (mg : Str → Option Value) (base : Heap) (k : Nat) (x : Str) (ps : List Str) (dvs : List V) (sp : Sp) : Prop where
  ex : ∃ f fd ds, mg x = some (.ref f) ∧ PySem.W.keepIn K (.ref f) = true ∧ Binds K fd ps ds ∧ Vals dvs ds ∧ FnOk P w K mg base CX0 k f fd ps sp
structure Met (P : Program) (w : World) (K : PySem.W.Frag) (mg : Str → Option Value) (base : Heap) (k : Nat) (C : Addr) (m : Str) (ps : List Str) (dvs : List V) (sp : Sp) : Prop where
  ex : ∃ f fd ds, Meth K C m f ∧ Binds K fd ps ds ∧ Vals dvs ds ∧ FnOk P w K mg base CX0 k f fd ps sp
section
variable {X : Cx} {ρ : Rho} {a b e o : Expr} {es : List Expr} {da db d : D} {ds : List D} {pos p apos : Pos} {k : Nat} {x m : Str} {ps : List Str} {S : List D → D → Prop}
theorem de_call {dvs : List V} {dd : List D} (c : Cal X.prog X.w X.K X.mg X.base k x ps dvs (spD X.K S)) (hr : Room k X.A) (hg : Gl X x) (ha : DA X ρ (e :: es) ds) (hS : S (ds ++ dd) d) (hd : ∀ H, Reps X.K H dd dvs)
    (hdb : (x == ("__debug__" : Str)) = false := by decide) (he : starEach (e :: es) X.env = (false, eval e X.env) :: starEach es X.env := by rfl) (hpl : (backTo pos (starEach es X.env)).any (·.1) = false := by rfl) :
    DE X ρ (.Call (.Name x p) (e :: es) [] pos) d := by
  obtain ⟨f, fd, vds, hm, hk, hb, hv, F⟩ := c.ex
  exact fun A B σ H H1 Q t q => te_run (pe_call F hr hg hm hk hb hv pass0 pa_of hdb he hpl) (ha A B σ H H1 _ t fun vs G H2 s r => ⟨_, d, G, s.s2, r.append (hd G), hS, fun v G2 H3 s2 r2 => q v G2 H3 (s.trans s2) r2⟩)
theorem de_call' (c : Cal X.prog X.w X.K X.mg X.base k x ps [] (spD X.K S)) (hr : Room k X.A) (hg : Gl X x) (ha : DA X ρ (e :: es) ds) (hS : S ds d)
    (hdb : (x == ("__debug__" : Str)) = false := by decide) (he : starEach (e :: es) X.env = (false, eval e X.env) :: starEach es X.env := by rfl) (hpl : (backTo pos (starEach es X.env)).any (·.1) = false := by rfl) :
    DE X ρ (.Call (.Name x p) (e :: es) [] pos) d := de_call (dd := []) c hr hg ha (by rw [List.append_nil]; exact hS) (fun _ => .nil) hdb he hpl
theorem de_meth {C : Addr} {fs : List (Str × D)} {pl : Sem Bool} (h : DE X ρ o (.ins C fs)) (cl : Cls X.K C) (c : Met X.prog X.w X.K X.mg X.base k C m ps [] (spD X.K S)) (hr : Room k X.A) (hl : fs.lookup m = none) (ha : DA X ρ (e :: es) ds) (hS : S (.ins C fs :: ds) d)
    (hst : starEach (e :: es) X.env = (false, eval e X.env) :: starEach es X.env := by rfl) (hpl : (backTo pos (starEach es X.env)).any (·.1) = false := by rfl)
    (ht : eval (.Call (.Attribute o m apos) (e :: es) [] pos) X.env = (do
      let ov ← eval o X.env
      standAt apos.atName
      let (f, first) ← holding [ov] (getMethod ov m pl)
      callWith pos f first (backTo pos (starEach (e :: es) X.env)) (backToKw pos (keywordEach [] X.env))) := by rfl) : DE X ρ (.Call (.Attribute o m apos) (e :: es) [] pos) d := by
  obtain ⟨f, fd, vds, hm, hb, hv, F⟩ := c.ex
  exact fun A B σ H H1 Q t q => te_run (pe_meth pe_of cl hm F hr hb hv pass0 pa_of hst hpl ht) (h A B σ H H1 _ t fun v G H2 s r => by
    cases r with
    | ins hp rf =>
      refine ⟨_, _, _, rfl, s.s2 _ _ hp, rf.look0 hl, ha A B σ G H2 _ (t.step s) fun vs G2 H3 s2 r2 => ?_⟩
      refine ⟨_, d, G2, s2.s2, .cons ((Rep.ins hp rf).mono s2.s1) ?_, hS, fun v G3 H4 s3 r3 => q v G3 H4 ((s.trans s2).trans s3) r3⟩
      show Reps X.K G2 ds (vs ++ [])
      rw [List.append_nil]
      exact r2)
theorem de_meth0 {C : Addr} {fs : List (Str × D)} {pl : Sem Bool} (h : DE X ρ o (.ins C fs)) (cl : Cls X.K C) (c : Met X.prog X.w X.K X.mg X.base k C m ps [] (spD X.K S)) (hr : Room k X.A) (hl : fs.lookup m = none) (hS : S [.ins C fs] d)
    (ht : eval (.Call (.Attribute o m apos) [] [] pos) X.env = (do
      let ov ← eval o X.env
      standAt apos.atName
      let (f, first) ← holding [ov] (getMethod ov m pl)
      callWith pos f first (backTo pos (starEach [] X.env)) (backToKw pos (keywordEach [] X.env))) := by rfl) : DE X ρ (.Call (.Attribute o m apos) [] [] pos) d := by
  obtain ⟨f, fd, vds, hm, hb, hv, F⟩ := c.ex
  exact fun A B σ H H1 Q t q => te_run (pe_meth0 pe_of cl hm F hr hb hv pass0 ht) (h A B σ H H1 _ t fun v G H2 s r => by
    cases r with
    | ins hp rf => exact ⟨_, _, _, rfl, s.s2 _ _ hp, rf.look0 hl, _, d, G, s.s2, .cons (Rep.ins hp rf) .nil, hS, fun v G3 H4 s3 r3 => q v G3 H4 (s.trans s3) r3⟩)
/-! built-ins -/
theorem de_callB {id : String} {r : List V → Hp → VK → Prop} (hc : CallR X (.builtin id) r) (hg : Gl X x) (hm : X.mg x = none) (hv : bootBuiltins x = some (.builtin id)) (ha : DA X ρ (e :: es) ds) (hr : DC X.K r ds d) (hn : x ≠ "__name__" := by decide) (hdb : (x == ("__debug__" : Str)) = false := by decide)
    (he : starEach (e :: es) X.env = (false, eval e X.env) :: starEach es X.env := by rfl) (hpl : (backTo pos (starEach es X.env)).any (·.1) = false := by rfl) : DE X ρ (.Call (.Name x p) (e :: es) [] pos) d :=
  fun A B σ H H1 Q tt q => te_run (pe_callB hc hg hm hv pa_of hn hdb he hpl) (ha A B σ H H1 _ tt fun vs G H2 s r => hr G H2 vs Q s.s2 r fun z G2 H3 s2 r2 => q z G2 H3 (s.trans s2) r2)
theorem de_callTy {T : String} {r : List V → Hp → VK → Prop} (hc : CallR X (.type T) r) (hg : Gl X x) (hm : X.mg x = none) (hv : bootBuiltins x = some (.type T)) (ha : DA X ρ (e :: es) ds) (hr : DC X.K r ds d) (hn : x ≠ "__name__" := by decide) (hdb : (x == ("__debug__" : Str)) = false := by decide)
    (he : starEach (e :: es) X.env = (false, eval e X.env) :: starEach es X.env := by rfl) (hpl : (backTo pos (starEach es X.env)).any (·.1) = false := by rfl) : DE X ρ (.Call (.Name x p) (e :: es) [] pos) d :=
  fun A B σ H H1 Q tt q => te_run (pe_callTy hc hg hm hv pa_of hn hdb he hpl) (ha A B σ H H1 _ tt fun vs G H2 s r => hr G H2 vs Q s.s2 r fun z G2 H3 s2 r2 => q z G2 H3 (s.trans s2) r2)
end
section
variable {K : PySem.W.Frag} {i j : Int} {ds : List D}
def rLenA (K : PySem.W.Frag) : List V → Hp → VK → Prop := fun xs H Q => ∃ p ys, xs = [.ref p] ∧ (SqL K H p ys ∨ SqT K H p ys) ∧ Q (.int ys.length) H
theorem call_lenA {X : Cx} : CallR X (.builtin "len") (rLenA X.K) := call_len_seq
theorem dc_lenL : DC K (rLenA K) [.lst ds] (.int ds.length) := fun H H1 vs Q e r k => by
  cases r with
  | cons r0 r1 =>
    cases r1
    cases r0 with
    | lst h s => exact ⟨_, _, rfl, .inl (SqL.of (e _ _ h)), by rw [← s.length]; exact k _ _ _ (Step.refl e) .int⟩
theorem dc_lenS : DC K (rLenA K) [.seq ds] (.int ds.length) := fun H H1 vs Q e r k => by
  cases r with
  | cons r0 r1 =>
    cases r1
    cases r0 with
    | seq h s => exact ⟨_, _, rfl, .inl (same_l e h), by rw [← s.length]; exact k _ _ _ (Step.refl e) .int⟩
theorem dc_lenT : DC K (rLenA K) [.tup ds] (.int ds.length) := fun H H1 vs Q e r k => by
  cases r with
  | cons r0 r1 =>
    cases r1
    cases r0 with
    | tup h s => exact ⟨_, _, rfl, .inr (same_t e h), by rw [← s.length]; exact k _ _ _ (Step.refl e) .int⟩
def rAbs : List V → Hp → VK → Prop := fun xs H Q => ∃ i, xs = [.int i] ∧ Q (.int (if i < 0 then -i else i)) H
theorem call_absA {X : Cx} : CallR X (.builtin "abs") rAbs := call_abs
theorem dc_abs : DC K rAbs [.int i] (.int (if i < 0 then -i else i)) := fun H H1 vs Q e r k => by
  cases r with
  | cons r0 r1 =>
    cases r1
    cases r0
    exact ⟨i, rfl, k _ _ _ (Step.refl e) .int⟩
def rMx2 : List V → Hp → VK → Prop := fun xs H Q => ∃ i j, xs = [.int i, .int j] ∧ Q (.int (if j > i then j else i)) H
def rMn2 : List V → Hp → VK → Prop := fun xs H Q => ∃ i j, xs = [.int i, .int j] ∧ Q (.int (if j < i then j else i)) H
theorem call_maxA {X : Cx} (hc : X.calm = true) : CallR X (.builtin "max") rMx2 := call_max2 hc
theorem call_minA {X : Cx} (hc : X.calm = true) : CallR X (.builtin "min") rMn2 := call_min2 hc
theorem dc_max : DC K rMx2 [.int i, .int j] (.int (max i j)) := fun H H1 vs Q e r k => by
  cases r with
  | cons r0 r1 =>
    cases r1 with
    | cons r1 r2 =>
      cases r2
      cases r0
      cases r1
      refine ⟨i, j, rfl, ?_⟩
      rw [show (if j > i then j else i) = max i j by split <;> omega]
      exact k _ _ _ (Step.refl e) .int
theorem dc_min : DC K rMn2 [.int i, .int j] (.int (min i j)) := fun H H1 vs Q e r k => by
  cases r with
  | cons r0 r1 =>
    cases r1 with
    | cons r1 r2 =>
      cases r2
      cases r0
      cases r1
      refine ⟨i, j, rfl, ?_⟩
      rw [show (if j < i then j else i) = min i j by split <;> omega]
      exact k _ _ _ (Step.refl e) .int
def rInt1 : List V → Hp → VK → Prop := fun xs H Q => (∃ i, xs = [.int i] ∧ Q (.int i) H) ∨ ∃ k, xs = [.bl k] ∧ Q (.int (if k then 1 else 0)) H
theorem call_intA {X : Cx} : CallR X (.type "int") rInt1 := call_int1
theorem dc_intB {b : Bool} : DC K rInt1 [.bl b] (.int (if b then 1 else 0)) := fun H H1 vs Q e r k => by
  cases r with
  | cons r0 r1 =>
    cases r1
    cases r0
    exact .inr ⟨b, rfl, k _ _ _ (Step.refl e) .int⟩
def rListA (K : PySem.W.Frag) : List V → Hp → VK → Prop := fun xs H Q => ∃ p ys, xs = [.ref p] ∧ (SqL K H p ys ∨ SqT K H p ys) ∧ ∀ l, H l = none → Q (.ref l) (upd H l (.lst ys))
theorem call_listA {X : Cx} : CallR X (.type "list") (rListA X.K) := call_list_of
theorem dc_list : DC K (rListA K) [.lst ds] (.lst ds) := fun H H1 vs Q e r k => by
  cases r with
  | cons r0 r1 =>
    cases r1
    cases r0 with
    | lst h s => exact ⟨_, _, rfl, .inl (SqL.of (e _ _ h)), fun l hl => k _ _ _ (Step.new e hl) (.lst upd_same (s.mono (Same.new (e.free hl))))⟩
def rTupA (K : PySem.W.Frag) : List V → Hp → VK → Prop := fun xs H Q => ∃ p ys, xs = [.ref p] ∧ ((SqL K H p ys ∧ ∀ l, H l = none → Q (.ref l) (upd H l (.tup ys))) ∨ (SqT K H p ys ∧ Q (.ref p) H))
theorem call_tupA {X : Cx} : CallR X (.type "tuple") (rTupA X.K) := call_tuple_of
theorem dc_tupL : DC K (rTupA K) [.lst ds] (.tup ds) := fun H H1 vs Q e r k => by
  cases r with
  | cons r0 r1 =>
    cases r1
    cases r0 with
    | lst h s => exact ⟨_, _, rfl, .inl ⟨SqL.of (e _ _ h), fun l hl => k _ _ _ (Step.new e hl) (.tup (SqT.of upd_same) (s.mono (Same.new (e.free hl))))⟩⟩
/-- sorted of whole numbers -/
def Sorts (ns ms : List Int) : Prop := ms.Perm ns ∧ ms.Pairwise (· ≤ ·)
theorem Sorts.uniq : ∀ {ns ms ms' : List Int}, Sorts ns ms → Sorts ns ms' → ms = ms' := fun {ns ms ms'} a b =>
  (a.1.trans b.1.symm).eq_of_pairwise (fun x y _ _ h1 h2 => Int.le_antisymm h1 h2) a.2 b.2
theorem dc_sorted {ns ms : List Int} (h : Sorts ns ms) : DC K (rSortedI K) [.lst (ns.map D.int)] (.lst (ms.map D.int)) := fun H H1 vs Q e r k => by
  cases r with
  | cons r0 r1 =>
    cases r1
    cases r0 with
    | lst h0 s =>
      obtain rfl := s.of_ints
      refine ⟨_, ns, rfl, SqL.of (e _ _ h0), fun ns' p h1 h2 hp => ?_⟩
      obtain rfl := Sorts.uniq (ms := ns') ⟨h1, h2⟩ h
      exact k _ _ _ (Step.new e hp) (.lst upd_same (Reps.ints _))
end
section
variable {X : Cx} {ρ : Rho} {e : Expr} {d : D} {ds : List D} {pos p : Pos}
theorem da_one (h : DE X ρ e d) (hs : starEach [e] X.env = (false, eval e X.env) :: starEach [] X.env := by rfl) : DA X ρ [e] [d] := da_cons h da_nil hs
/-- len(x), tuple(x) of an owned list -/
theorem de_lenO {i : Nat} {x : Str} {p' : Pos} (h : ρ[i]? = some (some (.own ds))) (hN : X.N[i]? = some x) (hv : Vis X.env.scope x) (hg : Gl X "len") (hm : X.mg "len" = none)
    (hs : starEach [.Name x p'] X.env = (false, eval (.Name x p') X.env) :: starEach [] X.env := by rfl) (hd : (x == ("__debug__" : Str)) = false := by decide) (hcd : (x == ("__classdict__" : Str)) = false := by decide)
    (hpl : (backTo pos (starEach [] X.env)).any (·.1) = false := by rfl) : DE X ρ (.Call (.Name "len" p) [.Name x p'] [] pos) (.int ds.length) :=
  fun A B σ H H1 Q t q => te_run (pe_callB call_lenA hg hm boot_len (pa_cons (pe_var hN hv hd hcd) pa_nil hs)) (by
    obtain ⟨a, vs, e1, h1, h0, hb0, r0⟩ := t.ow i ds h
    exact ⟨_, e1, a, vs, rfl, .inl (SqL.of h1), by rw [← r0.length]; exact q _ _ _ (Step.refl t.up) .int⟩)
theorem de_tupO {i : Nat} {x : Str} {p' : Pos} (h : ρ[i]? = some (some (.own ds))) (hN : X.N[i]? = some x) (hv : Vis X.env.scope x) (hg : Gl X "tuple") (hm : X.mg "tuple" = none) (hb : bootBuiltins "tuple" = some (.type "tuple"))
    (hs : starEach [.Name x p'] X.env = (false, eval (.Name x p') X.env) :: starEach [] X.env := by rfl) (hd : (x == ("__debug__" : Str)) = false := by decide) (hcd : (x == ("__classdict__" : Str)) = false := by decide)
    : DE X ρ (.Call (.Name "tuple" p) [.Name x p'] [] pos) (.tup ds) :=
  fun A B σ H H1 Q t q => te_run (pe_callTy call_tupA hg hm hb (pa_cons (pe_var hN hv hd hcd) pa_nil hs)) (by
    obtain ⟨a, vs, e1, h1, h0, hb0, r0⟩ := t.ow i ds h
    exact ⟨_, e1, a, vs, rfl, .inl ⟨SqL.of h1, fun l hl => q _ _ _ (Step.new t.up hl) (.tup (SqT.of upd_same) (r0.mono (Same.new (t.up.free hl))))⟩⟩)
end
end SK
set_option maxRecDepth 100000
set_option maxHeartbeats 4000000
namespace SK
open PySem L2 PyProof.Rows

/-! ### list comprehensions -/
def tqOf (X : Cx) (ifs : List Expr) : TT := fun σ H Q => ∀ (pins : List (Addr × Obj)) (s : Shared), Inv X pins σ H s →
  wpAny (model X.prog X.w) X.A (forIn ifs true fun c r => if r = true then do let ok ← isTrue c X.env (eval c X.env); pure (ForInStep.yield ok) else pure (ForInStep.yield r)) (TP X pins σ Q) X.xe s
theorem pts_of {X : Cx} {ifs : List Expr} : PTs X ifs (tqOf X ifs) := ⟨fun pins s _ _ _ I h => h pins s I⟩
theorem tq_run {X : Cx} {ifs : List Expr} {t : TT} (h : PTs X ifs t) {σ : L2.St} {H : Hp} {Q : Bool → Hp → Prop} (q : t σ H Q) : tqOf X ifs σ H Q := fun pins s I => h.run pins s σ H Q I q
def DQ (X : Cx) (ρ : Rho) (ifs : List Expr) (b : Bool) : Prop := ∀ (A B : Hp) (σ : L2.St) (H H1 : Hp) (Q : Bool → Hp → Prop), At X.K A B ρ σ H H1 → (∀ G H2, Step H H1 G H2 → Q b H2) → tqOf X ifs σ H1 Q
theorem dq_nil {X : Cx} {ρ : Rho} : DQ X ρ [] true := fun A B σ H H1 Q t k => tq_run pts_nil (k _ _ (Step.refl t.up))
theorem dq_one {X : Cx} {ρ : Rho} {c : Expr} {b : Bool} (h : DT X ρ c b) : DQ X ρ [c] b := fun A B σ H H1 Q t k => tq_run (pts_one pt_of) (h A B σ H H1 _ t k)

/-- the block's context -/
abbrev bk (X : Cx) (scope : Scope) (s : Shared) (H : Hp) (C : Addr) (cl : List (Str × Addr)) (fp : List Addr) : Cx := X.blk s H scope (compEnvC scope cl C X.env) fp
def teB (X : Cx) (scope : Scope) (elt : Expr) : TE := fun σ H Q => ∀ s0 H0 C cl fp, teOf (bk X scope s0 H0 C cl fp) elt σ H Q
def ttB (X : Cx) (scope : Scope) (ifs : List Expr) : TT := fun σ H Q => ∀ s0 H0 C cl fp, tqOf (bk X scope s0 H0 C cl fp) ifs σ H Q
/-- what is shown of the tests and the element, for an item d -/
def LcOk (X : Cx) (scope : Scope) (ρ : Rho) (j : Nat) (ifs : List Expr) (elt : Expr) (d : D) (b : Bool) (r : D) : Prop :=
  ∀ s0 H0 C cl fp, DQ (bk X scope s0 H0 C cl fp) (ρ.set j (some (.val d))) ifs b ∧ (b = true → DE (bk X scope s0 H0 C cl fp) (ρ.set j (some (.val d))) elt r)
def LcP (K : PySem.W.Frag) (G H2 : Hp) (Dl : Addr) (acc : List D) (H' : Hp) : Prop := ∃ G' us, Step G H2 G' H' ∧ G' Dl = none ∧ H' Dl = some (.lst us) ∧ Reps K G' acc us
section
variable {X : Cx} {ρ : Rho} {A B : Hp} {σ : L2.St} {H H1 G H2 H' : Hp} {Q : VK} {iter elt : Expr} {ifs : List Expr} {scope : Scope} {j : Nat} {ds : List D} {Dl : Addr}
theorem set2 {α : Type} {l : List α} {i : Nat} {a b : α} : (l.set i a).set i b = l.set i b := List.set_set ..
theorem lc_turn {acc : List D} {d : D} {x : V} {b : Bool} {r : D} {Nx : Hp → Prop} (t : At X.K A B ρ σ G H2) (hD : H2 Dl = none) (p : LcP X.K G H2 Dl acc H') (hx : ∀ G', Same G G' → Rep X.K G' d x) (hb : LcOk X scope ρ j ifs elt d b r) (hz : acc.length < sizeLine)
    (hn : ∀ H'', LcP X.K G H2 Dl (if b = true then acc ++ [r] else acc) H'' → Nx H'') :
    gName j x (wipe σ [j]) H' fun σ2 H2 => wipe σ2 [j] = wipe σ [j] ∧ ttB X scope ifs σ2 H2 fun b H3 => if b = true then teB X scope elt σ2 H3 fun y H4 => ∃ acc, H4 Dl = some (.lst acc) ∧ acc.length < sizeLine ∧ Nx (upd H4 Dl (.lst (acc ++ [y]))) else Nx H3 := by
  obtain ⟨G', us, s, g0, h1, rs⟩ := p
  have e1 : wipe σ [j] = σ.set j none := rfl
  show wipe ((wipe σ [j]).set j (some x)) [j] = wipe σ [j] ∧ _
  rw [e1, set2]
  refine ⟨?_, fun s0 H0 C cl fp => ?_⟩
  · show (σ.set j (some x)).set j none = σ.set j none
    rw [set2]
  · have t1 : At X.K A B (ρ.set j (some (.val d))) (σ.set j (some x)) G' H' := (t.step s).set j (hx G' s.s1)
    refine (hb s0 H0 C cl fp).1 A B _ G' H' _ t1 fun G2 H3 s2 => ?_
    have gfree : ∀ {G3 H5 : Hp}, Step G' H' G3 H5 → G3 Dl = none := fun {G3 H5} st => by
      cases q : G3 Dl with
      | none => rfl
      | some o =>
        rcases st.nw _ _ q with z | z
        · rw [g0] at z; cases z
        · rw [h1] at z; cases z
    cases b with
    | false =>
      rw [if_neg Bool.false_ne_true]
      exact hn H3 ⟨G2, us, s.trans s2, gfree s2, s2.s3 _ _ h1, rs.mono s2.s1⟩
    | true =>
      rw [if_pos rfl]
      intro s0' H0' C' cl' fp'
      refine (hb s0' H0' C' cl' fp').2 rfl A B _ G2 H3 _ (t1.step s2) fun y G3 H4 s3 ry => ?_
      have s23 := s2.trans s3
      refine ⟨us, s23.s3 _ _ h1, by rw [← rs.length]; exact hz, hn _ ?_⟩
      have st := s.trans s23
      refine ⟨G3, us ++ [y], ⟨st.s1, fun a o q => ?_, fun a o q => ?_, st.nw⟩, gfree s23, upd_same, (rs.mono s23.s1).snoc ry⟩
      · rw [upd_ne (ne_of_none q (gfree s23))]
        exact st.s2 a o q
      · rw [upd_ne (ne_of_none q hD)]
        exact st.s3 a o q
theorem lc_start (t : At X.K A B ρ σ G H2) (hD : H2 Dl = none) : LcP X.K G H2 Dl [] (upd H2 Dl (.lst [])) :=
  ⟨G, [], ⟨Same.refl _, t.up.trans (Same.new hD), Same.new hD, fun _ _ z => .inl z⟩, t.up.free hD, upd_same, .nil⟩
theorem take_next {α : Type} {l : List α} {i : Nat} {a : α} (h : l[i]? = some a) : l.take (i + 1) = l.take i ++ [a] := by
  rw [List.take_add_one, h]
  rfl
theorem fm_next {α β : Type} (fb : α → Bool) (fe : α → β) {l : List α} {i : Nat} {a : α} (h : l[i]? = some a) : ((l.take (i + 1)).filter fb).map fe = if fb a = true then ((l.take i).filter fb).map fe ++ [fe a] else ((l.take i).filter fb).map fe := by
  rw [take_next h, List.filter_append, List.map_append]
  by_cases q : fb a = true
  · rw [if_pos q, List.filter_cons, if_pos q]
    rfl
  · rw [if_neg q, List.filter_cons, if_neg q]
    show _ ++ [] = _
    rw [List.append_nil]
theorem fm_len {α β : Type} (fb : α → Bool) (fe : α → β) (l : List α) (i : Nat) : (((l.take i).filter fb).map fe).length ≤ l.length := by
  rw [List.length_map]
  refine Nat.le_trans (List.length_filter_le _ _) ?_
  rw [List.length_take]
  omega
theorem lcL {α : Type} (t : At X.K A B ρ σ H H1) (l : List α) (g : α → D) (he : DE X ρ iter (.lst (l.map g))) (fb : α → Bool) (fe : α → D) (hb : ∀ a, a ∈ l → LcOk X scope ρ j ifs elt (g a) (fb a) (fe a)) (hz : l.length < sizeLine)
    (k : ∀ p vs G H2, Step H H1 G H2 → H1 p = none → G p = none → H2 p = some (.lst vs) → Reps X.K G ((l.filter fb).map fe) vs → Q (.ref p) H2) : tLc (iList X.K (teOf X iter)) (gName j) (ttB X scope ifs) (teB X scope elt) [j] σ H1 Q :=
  he A B σ H H1 _ t fun v G H2 s r => by
    cases r with
    | @lst a xs _ hp rs =>
      have t2 := t.step s
      refine ⟨a, rfl, ⟨xs, SqL.of (s.s2 _ _ hp)⟩, fun Dl hD => lc_list (xs := xs) (fun i H' => LcP X.K G H2 Dl (((l.take i).filter fb).map fe) H') (lc_start t2 hD) (fun i H' _ ⟨_, _, st, _⟩ => SqL.of (st.s3 _ _ (s.s2 _ _ hp))) (fun i x H' hi p => ?_) fun H' p => ?_⟩
      · obtain ⟨d, hd, rd⟩ := rs.back hi
        rw [List.getElem?_map] at hd
        obtain ⟨a0, ha, rfl⟩ := Option.map_eq_some_iff.mp hd
        refine lc_turn t2 hD p (fun G' e => rd.mono e) (hb a0 (List.mem_of_getElem? ha)) (Nat.lt_of_le_of_lt (fm_len fb fe l i) hz) fun H'' q => ?_
        rw [fm_next fb fe ha]
        exact q
      · obtain ⟨G', us, st, g0, h1, r2⟩ := p
        rw [← rs.length, List.length_map, List.take_length] at r2
        exact k Dl us G' H' (s.trans st) (s.s3.free hD) g0 h1 r2
theorem lcR {n : Int} {te : TE} (t : At X.K A B ρ σ H H1) (he : DE X ρ iter (.int n)) (hn : -(2 ^ 62) ≤ n ∧ n < 2 ^ 62) (fb : Nat → Bool) (fe : Nat → D) (hb : ∀ i, i < n.toNat → LcOk X scope ρ j ifs elt (.int (i : Int)) (fb i) (fe i)) (hz : n.toNat < sizeLine)
    (k : ∀ p vs G H2, Step H H1 G H2 → H1 p = none → G p = none → H2 p = some (.lst vs) → Reps X.K G (((List.range n.toNat).filter fb).map fe) vs → Q (.ref p) H2) : tLc (iRng1 (tCons (teOf X iter) tNil)) (gName j) (ttB X scope ifs) (teB X scope elt) [j] σ H1 Q :=
  he A B σ H H1 _ t fun v G H2 s r => by
    cases r
    have t2 := t.step s
    refine ⟨n, rfl, hn.1, hn.2, fun Dl hD => lc_range (lo := 0) (n := n.toNat) (fun i H' => LcP X.K G H2 Dl ((((List.range n.toNat).take i).filter fb).map fe) H') (lc_start t2 hD) (fun i H' hi p => ?_) fun H' p => ?_⟩
    · rw [Int.zero_add]
      have hr : (List.range n.toNat)[i]? = some i := by rw [List.getElem?_range hi]
      refine lc_turn t2 hD p (fun G' e => .int) (hb i hi) (Nat.lt_of_le_of_lt (fm_len fb fe _ i) (by rw [List.length_range]; exact hz)) fun H'' q => ?_
      rw [fm_next fb fe hr]
      exact q
    · obtain ⟨G', us, st, g0, h1, r2⟩ := p
      rw [List.take_of_length_le (by rw [List.length_range]; exact Nat.le_refl _)] at r2
      exact k Dl us G' H' (s.trans st) (s.s3.free hD) g0 h1 r2
end
section
variable {X : Cx} {ρ : Rho} {iter elt : Expr} {ifs : List Expr} {scope : Scope} {j : Nat} {ds : List D} {x : Str} {pos px p : Pos}
theorem do_lc {α : Type} (l : List α) (g : α → D) (hc : X.calm = true) (hN : X.N.Nodup) (ok : BlkOk X.N X.env.scope scope [(x, j)]) (hg : ∀ (s : Shared) (H : Hp) (C : Addr) (cl : List (Str × Addr)) (fp : List Addr), PG (bk X scope s H C cl fp) (.Name x px) (gName j))
    (he : DE X ρ iter (.lst (l.map g))) (fb : α → Bool) (fe : α → D) (hb : ∀ a, a ∈ l → LcOk X scope ρ j ifs elt (g a) (fb a) (fe a)) (hz : l.length < sizeLine) (hs : ∀ x, foldedSetIterable iter X.env x = pure x := by intro _; rfl) :
    DO X ρ (.ListComp elt [⟨.Name x px, iter, ifs, 0⟩] scope pos) ((l.filter fb).map fe) := fun A B σ H H1 Q t k =>
  te_run (pe_lc (own := [(x, j)]) hc hN (pi_list pe_of) ok hg (fun s H C cl fp => ⟨fun pins s' σ H' Q I h => h s H C cl fp pins s' I⟩) (fun s H C cl fp => ⟨fun pins s' σ H' Q I h => h s H C cl fp pins s' I⟩) hs)
    (lcL t l g he fb fe hb hz k)
theorem do_lcR {n : Int} (hc : X.calm = true) (hN : X.N.Nodup) (hgr : Gl X "range") (hmr : X.mg "range" = none) (ok : BlkOk X.N X.env.scope scope [(x, j)]) (hg : ∀ (s : Shared) (H : Hp) (C : Addr) (cl : List (Str × Addr)) (fp : List Addr), PG (bk X scope s H C cl fp) (.Name x px) (gName j))
    (he : DE X ρ iter (.int n)) (hn : -(2 ^ 62) ≤ n ∧ n < 2 ^ 62) (fb : Nat → Bool) (fe : Nat → D) (hb : ∀ i, i < n.toNat → LcOk X scope ρ j ifs elt (.int (i : Int)) (fb i) (fe i)) (hz : n.toNat < sizeLine) {rp rpos : Pos}
    (hs1 : starEach [iter] X.env = [(false, eval iter X.env)] := by rfl) (hs : ∀ x, foldedSetIterable (.Call (.Name "range" rp) [iter] [] rpos) X.env x = pure x := by intro _; rfl) :
    DO X ρ (.ListComp elt [⟨.Name x px, .Call (.Name "range" rp) [iter] [] rpos, ifs, 0⟩] scope pos) (((List.range n.toNat).filter fb).map fe) := fun A B σ H H1 Q t k =>
  te_run (pe_lc (own := [(x, j)]) hc hN (pi_range1 hgr hmr (pa_cons pe_of pa_nil hs1) hs1) ok hg (fun s H C cl fp => ⟨fun pins s' σ H' Q I h => h s H C cl fp pins s' I⟩) (fun s H C cl fp => ⟨fun pins s' σ H' Q I h => h s H C cl fp pins s' I⟩) hs)
    (lcR (te := teB X scope elt) t he hn fb fe hb hz k)
end

/-! ### statements -/
structure Fin where
  nx : Rho → Prop
  rt : D → Prop
  at_ : Rho → Prop
structure Fits (K : PySem.W.Frag) (A B : Hp) (M : Fin) (E : Ends) (H : Hp) : Prop where
  nx : ∀ ρ σ G H2, M.nx ρ → At K A B ρ σ G H2 → Same H G → E.nx σ H2
  rt : ∀ d v ρ σ G H2, M.rt d → M.at_ ρ → At K A B ρ σ G H2 → Same H G → Rep K G d v → E.rt v H2
theorem Fits.mono {K : PySem.W.Frag} {A B : Hp} {M : Fin} {E : Ends} {H H' : Hp} (f : Fits K A B M E H) (e : Same H H') : Fits K A B M E H' :=
  ⟨fun ρ σ G H2 a b c => f.nx ρ σ G H2 a b (e.trans c), fun d v ρ σ G H2 a m b c => f.rt d v ρ σ G H2 a m b (e.trans c)⟩
def DS (X : Cx) (ρ : Rho) (st : List Stmt) (M : Fin) : Prop := ∀ (A B : Hp) (σ : L2.St) (H H1 : Hp) (E : Ends), At X.K A B ρ σ H H1 → Fits X.K A B M E H → tsOf X st E σ H1
section
variable {X : Cx} {ρ : Rho} {M : Fin} {e : Expr} {d : D} {ds : List D} {st body th el : List Stmt} {pos p : Pos} {x : Str} {i j : Nat}
theorem ds_nil (h : M.nx ρ) : DS X ρ [] M := fun A B σ H H1 E t f => ts_nil (f.nx ρ σ H H1 h t (Same.refl _))
theorem ds_asg (i : Nat) (he : DE X ρ e d) (rest : DS X (ρ.set i (some (.val d))) st M) (hN : X.N.Nodup) (hi : X.N[i]? = some x) (hx : Loc X.env.scope x) (hs : swapsWith e (some (.Name x p)) pos.line X.env = pure false := by rfl)
    (hf : X.fn x = true ∨ X.env.scope.names.lookup x = some .local := by first | exact .inl rfl | exact .inr rfl) : DS X ρ (.Assign [.Name x p] e pos :: st) M :=
  fun A B σ H H1 E t f => ts_cons (ps_set hN hi hx pe_of hs hf) (he A B σ H H1 _ t fun v G H2 s r => rest A B _ G H2 E ((t.step s).set i r) (f.mono s.s1))
theorem own_new {K : PySem.W.Frag} {A B : Hp} {σ : L2.St} {H H1 G H2 : Hp} {p : Addr} {vs : List V} (t : At K A B ρ σ H H1) (s : Step H H1 G H2) (n : H1 p = none) (g : G p = none) (h2 : H2 p = some (.lst vs)) (r : Reps K G ds vs) (i : Nat) (hj : noJel ρ = true) :
    At K A B (ρ.set i (some (.own ds))) (σ.set i (some (.ref p))) G H2 := (t.step s).own i h2 g (t.bn.free n) r (hj := hj) fun j ds' _ hk z => by
  obtain ⟨q, us, e, h1, _⟩ := t.ow j ds' hk
  rw [e] at z
  cases z
  rw [n] at h1
  cases h1
theorem ds_own (i : Nat) (he : DO X ρ e ds) (rest : DS X (ρ.set i (some (.own ds))) st M) (hN : X.N.Nodup) (hi : X.N[i]? = some x) (hx : Loc X.env.scope x) (hs : swapsWith e (some (.Name x p)) pos.line X.env = pure false := by rfl)
    (hf : X.fn x = true ∨ X.env.scope.names.lookup x = some .local := by first | exact .inl rfl | exact .inr rfl) (hj : noJel ρ = true := by rfl) : DS X ρ (.Assign [.Name x p] e pos :: st) M :=
  fun A B σ H H1 E t f => ts_cons (ps_set hN hi hx pe_of hs hf) (he A B σ H H1 _ t fun q vs G H2 s n g h2 r => rest A B _ G H2 E (own_new t s n g h2 r i hj) (f.mono s.s1))
/-- x = [.. for ..]: the list owned -/
theorem ds_lc {α : Type} (l : List α) (g : α → D) {iter elt : Expr} {ifs : List Expr} {scope : Scope} {y : Str} {py lp : Pos} (i : Nat) (hc : X.calm = true) (hN : X.N.Nodup) (hi : X.N[i]? = some x) (hx : X.env.scope.names.lookup x = some .local)
    (hsw : swapsWith (.ListComp elt [⟨.Name y py, iter, ifs, 0⟩] scope lp) (some (.Name x p)) pos.line X.env = pure true) (ok : BlkOk X.N X.env.scope scope [(y, j)])
    (hg : ∀ (s : Shared) (H : Hp) (C : Addr) (cl : List (Str × Addr)) (fp : List Addr), PG (bk X scope s H C cl fp) (.Name y py) (gName j))
    (he : DE X ρ iter (.lst (l.map g))) (fb : α → Bool) (fe : α → D) (hb : ∀ a, a ∈ l → LcOk X scope ρ j ifs elt (g a) (fb a) (fe a)) (hz : l.length < sizeLine)
    (rest : DS X (ρ.set i (some (.own ((l.filter fb).map fe)))) st M) (hs : ∀ x, foldedSetIterable iter X.env x = pure x := by intro _; rfl) (hj : noJel ρ = true := by rfl) : DS X ρ (.Assign [.Name x p] (.ListComp elt [⟨.Name y py, iter, ifs, 0⟩] scope lp) pos :: st) M :=
  fun A B σ H H1 E t f => ts_cons (ps_setLc (own := [(y, j)]) hc hN hi hx hsw (pi_list pe_of) ok hg (fun s H C cl fp => ⟨fun pins s' σ H' Q I h => h s H C cl fp pins s' I⟩) (fun s H C cl fp => ⟨fun pins s' σ H' Q I h => h s H C cl fp pins s' I⟩) hs)
    (lcL t l g he fb fe hb hz fun q vs G H2 s n g h2 r => rest A B _ G H2 E (own_new t s n g h2 r i hj) (f.mono s.s1))
theorem ds_lcR {iter elt : Expr} {ifs : List Expr} {scope : Scope} {y : Str} {py lp rp rpos : Pos} {n : Int} (i : Nat) (hc : X.calm = true) (hN : X.N.Nodup) (hi : X.N[i]? = some x) (hx : X.env.scope.names.lookup x = some .local) (hgr : Gl X "range") (hmr : X.mg "range" = none)
    (hsw : swapsWith (.ListComp elt [⟨.Name y py, .Call (.Name "range" rp) [iter] [] rpos, ifs, 0⟩] scope lp) (some (.Name x p)) pos.line X.env = pure true) (ok : BlkOk X.N X.env.scope scope [(y, j)])
    (hg : ∀ (s : Shared) (H : Hp) (C : Addr) (cl : List (Str × Addr)) (fp : List Addr), PG (bk X scope s H C cl fp) (.Name y py) (gName j))
    (he : DE X ρ iter (.int n)) (hn : -(2 ^ 62) ≤ n ∧ n < 2 ^ 62) (fb : Nat → Bool) (fe : Nat → D) (hb : ∀ i, i < n.toNat → LcOk X scope ρ j ifs elt (.int (i : Int)) (fb i) (fe i)) (hz : n.toNat < sizeLine)
    (rest : DS X (ρ.set i (some (.own (((List.range n.toNat).filter fb).map fe)))) st M) (hs1 : starEach [iter] X.env = [(false, eval iter X.env)] := by rfl) (hs : ∀ x, foldedSetIterable (.Call (.Name "range" rp) [iter] [] rpos) X.env x = pure x := by intro _; rfl)  (hj : noJel ρ = true := by rfl) :
    DS X ρ (.Assign [.Name x p] (.ListComp elt [⟨.Name y py, .Call (.Name "range" rp) [iter] [] rpos, ifs, 0⟩] scope lp) pos :: st) M :=
  fun A B σ H H1 E t f => ts_cons (ps_setLc (own := [(y, j)]) hc hN hi hx hsw (pi_range1 hgr hmr (pa_cons pe_of pa_nil hs1) hs1) ok hg (fun s H C cl fp => ⟨fun pins s' σ H' Q I h => h s H C cl fp pins s' I⟩) (fun s H C cl fp => ⟨fun pins s' σ H' Q I h => h s H C cl fp pins s' I⟩) hs)
    (lcR (te := teB X scope elt) t he hn fb fe hb hz fun q vs G H2 s n g h2 r => rest A B _ G H2 E (own_new t s n g h2 r i hj) (f.mono s.s1))
theorem ds_ret (he : DE X ρ e d) (h : M.rt d) (ha : M.at_ ρ := by exact True.intro) : DS X ρ (.Return (some e) pos :: st) M :=
  fun A B σ H H1 E t f => ts_cons (ps_ret pe_of) (he A B σ H H1 _ t fun v G H2 s r => f.rt d v ρ σ G H2 h ha (t.step s) s.s1 r)
theorem ds_expr (he : DE X ρ e d) (rest : DS X ρ st M) (hs : swapsWith e none pos.line X.env = pure false := by rfl) : DS X ρ (.Expr e pos :: st) M :=
  fun A B σ H H1 E t f => ts_cons (ps_expr pe_of hs) (he A B σ H H1 _ t fun v G H2 s r => rest A B σ G H2 E (t.step s) (f.mono s.s1))
theorem ds_pass (rest : DS X ρ st M) : DS X ρ (.Pass pos :: st) M := fun A B σ H H1 E t f => ts_cons ps_pass (rest A B σ H H1 E t f)
theorem fits_seq {K : PySem.W.Frag} {A B : Hp} {E : Ends} {H : Hp} (f : Fits X.K A B M E H) : Fits X.K A B ⟨fun ρ' => DS X ρ' st M, M.rt, M.at_⟩ { E with nx := fun σ' H' => tsOf X st E σ' H' } H :=
  ⟨fun ρ σ G H2 a b c => a A B σ G H2 E b (f.mono c), f.rt⟩
theorem ds_if {c : Expr} {b : Bool} (hc : DT X ρ c b) (h1 : b = true → DS X ρ th ⟨fun ρ' => DS X ρ' st M, M.rt, M.at_⟩) (h2 : b = false → DS X ρ el ⟨fun ρ' => DS X ρ' st M, M.rt, M.at_⟩) : DS X ρ (.If c th el pos :: st) M :=
  fun A B σ H H1 E t f => ts_cons (ps_if pt_of pss_of pss_of) (hc A B σ H H1 _ t fun G H2 s => by
    cases b with
    | true => exact h1 rfl A B σ G H2 _ (t.step s) (fits_seq (K := X.K) (f.mono s.s1))
    | false => exact h2 rfl A B σ G H2 _ (t.step s) (fits_seq (K := X.K) (f.mono s.s1)))
theorem ds_skip {c : Expr} {b : Bool} (hc : DT X ρ c b) (hb : b = false) (h : DS X ρ st M) : DS X ρ (.If c th [] pos :: st) M := ds_if hc (fun z => by rw [hb] at z; cases z) fun _ => ds_nil h
theorem ds_take {c : Expr} {b : Bool} (hc : DT X ρ c b) (hb : b = true) (h : DS X ρ th ⟨fun ρ' => DS X ρ' st M, M.rt, M.at_⟩) : DS X ρ (.If c th el pos :: st) M := ds_if hc (fun _ => h) fun z => by rw [hb] at z; cases z
theorem ds_drop (i : Nat) (h : DS X (ρ.set i none) st M) (hi : ∀ A B σ H H1, At X.K A B ρ σ H H1 → ∃ v, σ = σ.set i v) : DS X ρ st M := fun A B σ H H1 E t f => by
  obtain ⟨v, e⟩ := hi A B σ H H1 t
  have t2 := t.drop i v
  rw [← e] at t2
  exact h A B σ H H1 E t2 f
theorem set_some {α : Type} (l : List (Option α)) (i : Nat) : ∃ v, l.set i v = l := by
  by_cases h : i < l.length
  · exact ⟨l[i], List.set_getElem_self h⟩
  · exact ⟨none, List.set_eq_of_length_le (by omega)⟩
theorem fgt (i : Nat) (h : DS X (ρ.set i none) st M) : DS X ρ st M := fun A B σ H H1 E t f => by
  obtain ⟨v, e⟩ := set_some σ i
  have t2 := t.drop i v
  rw [e] at t2
  exact h A B σ H H1 E t2 f
theorem ds_freeze (i : Nat) (hi : ρ[i]? = some (some (.own ds))) (h : DS X (ρ.set i (some (.val (.lst ds)))) st M) : DS X ρ st M := fun A B σ H H1 E t f =>
  let ⟨G, e, t2⟩ := t.freeze hi
  h A B σ G H1 E t2 (f.mono e)
/-- y = x, x an owned list that is not asked any more -/
theorem ds_move {y : Str} {py : Pos} (j : Nat) (hy : ρ[i]? = some (some (.own ds))) (hij : i ≠ j) (rest : DS X ((ρ.set i none).set j (some (.own ds))) st M) (hN : X.N.Nodup) (hi : X.N[i]? = some y) (hj : X.N[j]? = some x) (hv : Vis X.env.scope y) (hx : Loc X.env.scope x)
    (hs : swapsWith (.Name y py) (some (.Name x p)) pos.line X.env = pure false := by rfl) (hf : X.fn x = true ∨ X.env.scope.names.lookup x = some .local := by first | exact .inl rfl | exact .inr rfl) (hd : (y == ("__debug__" : Str)) = false := by decide) (hcd : (y == ("__classdict__" : Str)) = false := by decide) :
    DS X ρ (.Assign [.Name x p] (.Name y py) pos :: st) M := fun A B σ H H1 E t f => ts_cons (ps_set hN hj hx (pe_var hi hv hd hcd) hs hf) (by
  obtain ⟨a, vs, e, _⟩ := t.ow i ds hy
  exact ⟨_, e, rest A B _ H H1 E (t.move hy hij e) f⟩)
/-! loops -/
theorem ds_forR {n : Int} {rp rpos : Pos} (j : Nat) (hc : X.calm = true) (hp : PassesOwn (model X.prog X.w) X.A X.env X.xe) (hN : X.N.Nodup) (hj : X.N[j]? = some x) (hx : Loc X.env.scope x) (hgr : Gl X "range") (hmr : X.mg "range" = none)
    (he : DE X ρ e (.int n)) (hn : -(2 ^ 62) ≤ n ∧ n < 2 ^ 62) (Inv : Nat → Rho → Prop) (h0 : Inv 0 ρ) (hs : ∀ i ρ', i < n.toNat → Inv i ρ' → DS X (ρ'.set j (some (.val (.int (i : Int))))) body ⟨Inv (i + 1), M.rt, M.at_⟩) (hd : ∀ ρ', Inv n.toNat ρ' → DS X ρ' st M)
    (hs1 : starEach [e] X.env = [(false, eval e X.env)] := by rfl) (hf : X.fn x = true ∨ X.env.scope.names.lookup x = some .local := by first | exact .inl rfl | exact .inr rfl) (hs2 : ∀ x, foldedSetIterable (.Call (.Name "range" rp) [e] [] rpos) X.env x = pure x := by intro _; rfl) :
    DS X ρ (.For (.Name x p) (.Call (.Name "range" rp) [e] [] rpos) body [] pos :: st) M := fun A B σ H H1 E t f =>
  ts_cons (ps_for hp hc (pi_range1 hgr hmr (pa_cons pe_of pa_nil hs1) hs1) (pg_name hN hj hx hf) pss_of hs2) (he A B σ H H1 _ t fun v G H2 s r => by
    cases r
    refine ⟨n, rfl, hn.1, hn.2, for_range (lo := 0) (n := n.toNat) (fun i σ' H' => ∃ ρ' G', Inv i ρ' ∧ At X.K A B ρ' σ' G' H' ∧ Same H G') ⟨ρ, G, h0, t.step s, s.s1⟩ ?_ ?_⟩
    · rintro i σ' H' hi ⟨ρ', G', iv, t', e'⟩
      rw [Int.zero_add]
      exact hs i ρ' hi iv A B _ G' H' _ (t'.set j .int) ⟨fun ρ2 σ2 G2 H3 a b c => ⟨ρ2, G2, a, b, e'.trans c⟩, fun d v ρ2 σ2 G2 H3 a m b c r => f.rt d v ρ2 σ2 G2 H3 a m b (e'.trans c) r⟩
    · rintro σ' H' ⟨ρ', G', iv, t', e'⟩
      exact hd ρ' iv A B σ' G' H' E t' (f.mono e'))
theorem ds_forL (j : Nat) (hc : X.calm = true) (hp : PassesOwn (model X.prog X.w) X.A X.env X.xe) (hN : X.N.Nodup) (hj : X.N[j]? = some x) (hx : Loc X.env.scope x)
    (he : DE X ρ e (.lst ds)) (Inv : Nat → Rho → Prop) (h0 : Inv 0 ρ) (hs : ∀ i d ρ', ds[i]? = some d → Inv i ρ' → DS X (ρ'.set j (some (.val d))) body ⟨Inv (i + 1), M.rt, M.at_⟩) (hd : ∀ ρ', Inv ds.length ρ' → DS X ρ' st M)
    (hf : X.fn x = true ∨ X.env.scope.names.lookup x = some .local := by first | exact .inl rfl | exact .inr rfl) (hs2 : ∀ x, foldedSetIterable e X.env x = pure x := by intro _; rfl) :
    DS X ρ (.For (.Name x p) e body [] pos :: st) M := fun A B σ H H1 E t f =>
  ts_cons (ps_for hp hc (pi_list pe_of) (pg_name hN hj hx hf) pss_of hs2) (he A B σ H H1 _ t fun v G H2 s r => by
    cases r with
    | @lst a xs _ hp rs =>
      refine ⟨a, rfl, ⟨xs, SqL.of (s.s2 _ _ hp)⟩, for_list (xs := xs) (fun i σ' H' => ∃ ρ' G', Inv i ρ' ∧ At X.K A B ρ' σ' G' H' ∧ Same G G') ⟨ρ, G, h0, t.step s, Same.refl _⟩ (fun i σ' H' _ ⟨ρ', G', iv, t', e'⟩ => SqL.of (t'.up _ _ (e' _ _ hp))) ?_ ?_⟩
      · rintro i y σ' H' hi ⟨ρ', G', iv, t', e'⟩
        obtain ⟨d, hd', rd⟩ := rs.back hi
        exact hs i d ρ' hd' iv A B _ G' H' _ (t'.set j (rd.mono e')) ⟨fun ρ2 σ2 G2 H3 a b c => ⟨ρ2, G2, a, b, e'.trans c⟩, fun d v ρ2 σ2 G2 H3 a m b c r => f.rt d v ρ2 σ2 G2 H3 a m b ((s.s1.trans e').trans c) r⟩
      · rintro σ' H' ⟨ρ', G', iv, t', e'⟩
        rw [← rs.length] at iv
        exact hd ρ' iv A B σ' G' H' E t' (f.mono (s.s1.trans e')))
theorem ds_forT (j : Nat) (hc : X.calm = true) (hp : PassesOwn (model X.prog X.w) X.A X.env X.xe) (hN : X.N.Nodup) (hj : X.N[j]? = some x) (hx : Loc X.env.scope x)
    (he : DE X ρ e (.tup ds)) (Inv : Nat → Rho → Prop) (h0 : Inv 0 ρ) (hs : ∀ i d ρ', ds[i]? = some d → Inv i ρ' → DS X (ρ'.set j (some (.val d))) body ⟨Inv (i + 1), M.rt, M.at_⟩) (hd : ∀ ρ', Inv ds.length ρ' → DS X ρ' st M)
    (hf : X.fn x = true ∨ X.env.scope.names.lookup x = some .local := by first | exact .inl rfl | exact .inr rfl) (hs2 : ∀ x, foldedSetIterable e X.env x = pure x := by intro _; rfl) :
    DS X ρ (.For (.Name x p) e body [] pos :: st) M := fun A B σ H H1 E t f =>
  ts_cons (ps_for hp hc (pi_tup pe_of) (pg_name hN hj hx hf) pss_of hs2) (he A B σ H H1 _ t fun v G H2 s r => by
    cases r with
    | @tup a xs _ hp rs =>
      refine ⟨a, rfl, ⟨xs, same_t s.s2 hp⟩, for_tup (xs := xs) (fun i σ' H' => ∃ ρ' G', Inv i ρ' ∧ At X.K A B ρ' σ' G' H' ∧ Same G G') ⟨ρ, G, h0, t.step s, Same.refl _⟩ (fun i σ' H' _ ⟨ρ', G', iv, t', e'⟩ => same_t (e'.trans t'.up) hp) ?_ ?_⟩
      · rintro i y σ' H' hi ⟨ρ', G', iv, t', e'⟩
        obtain ⟨d, hd', rd⟩ := rs.back hi
        exact hs i d ρ' hd' iv A B _ G' H' _ (t'.set j (rd.mono e')) ⟨fun ρ2 σ2 G2 H3 a b c => ⟨ρ2, G2, a, b, e'.trans c⟩, fun d v ρ2 σ2 G2 H3 a m b c r => f.rt d v ρ2 σ2 G2 H3 a m b ((s.s1.trans e').trans c) r⟩
      · rintro σ' H' ⟨ρ', G', iv, t', e'⟩
        rw [← rs.length] at iv
        exact hd ρ' iv A B σ' G' H' E t' (f.mono (s.s1.trans e')))
theorem ds_while {c : Expr} (hp : PassesOwn (model X.prog X.w) X.A X.env X.xe) (Inv : Nat → Rho → Prop) (m0 : Nat) (h0 : Inv m0 ρ)
    (hs : ∀ m ρ', Inv m ρ' → ∃ b, DT X ρ' c b ∧ (b = true → DS X ρ' body ⟨fun ρ2 => ∃ m', m' < m ∧ Inv m' ρ2, M.rt, M.at_⟩) ∧ (b = false → DS X ρ' st M)) : DS X ρ (.While c body [] pos :: st) M := fun A B σ H H1 E t f =>
  ts_cons (ps_while hp pt_of pss_of) ⟨fun m σ' H' => ∃ ρ' G', Inv m ρ' ∧ At X.K A B ρ' σ' G' H' ∧ Same H G', ⟨m0, ρ, H, h0, t, Same.refl _⟩, by
    rintro m σ' H' ⟨ρ', G', iv, t', e'⟩
    obtain ⟨b, hc, q1, q2⟩ := hs m ρ' iv
    refine hc A B σ' G' H' _ t' fun G2 H2 s => ?_
    cases b with
    | true =>
      rw [if_pos rfl]
      refine ⟨fun σ2 H3 => ∃ m', m' < m ∧ ∃ ρ2 G3, Inv m' ρ2 ∧ At X.K A B ρ2 σ2 G3 H3 ∧ Same H G3, fun σ2 H3 z => z, ?_⟩
      exact q1 rfl A B σ' G2 H2 _ (t'.step s) ⟨fun ρ2 σ2 G3 H3 ⟨m', hm, a⟩ b c => ⟨m', hm, ρ2, G3, a, b, (e'.trans s.s1).trans c⟩, fun d v ρ2 σ2 G3 H3 a m b c r => f.rt d v ρ2 σ2 G3 H3 a m b ((e'.trans s.s1).trans c) r⟩
    | false =>
      rw [if_neg Bool.false_ne_true]
      exact q2 rfl A B σ' G2 H2 E (t'.step s) (f.mono (e'.trans s.s1))⟩
/-! owned lists -/
theorem ds_append {apos : Pos} (i : Nat) (h : ρ[i]? = some (some (.own ds))) (hN : X.N[i]? = some x) (hv : Vis X.env.scope x) (he : DE X ρ e d) (hl : ds.length < sizeLine) (rest : DS X (ρ.set i (some (.own (ds ++ [d])))) st M) {cpos : Pos}
    (hpe : PE X (.Call (.Attribute (.Name x p) "append" apos) [e] [] cpos) (tBM X.K "list" rAppend (tVar i) (tCons (teOf X e) tNil))) (hs : swapsWith (.Call (.Attribute (.Name x p) "append" apos) [e] [] cpos) none pos.line X.env = pure false := by rfl) :
    DS X ρ (.Expr (.Call (.Attribute (.Name x p) "append" apos) [e] [] cpos) pos :: st) M := fun A B σ H H1 E t f => ts_cons (ps_expr hpe hs) (by
  obtain ⟨a, vs, e1, h1, h0, hb0, r0⟩ := t.ow i ds h
  refine ⟨_, e1, .inl ⟨rfl, vs, SqL.of h1⟩, he A B σ H H1 _ t fun v G H2 s r => ?_⟩
  refine ⟨a, vs, v, rfl, rfl, s.s3 _ _ h1, by rw [← r0.length]; exact hl, ?_⟩
  exact rest A B σ G _ E ((t.step s).put h e1 ((r0.mono s.s1).snoc r)) (f.mono s.s1))
theorem ds_extend {apos : Pos} {es : List D} (i : Nat) (h : ρ[i]? = some (some (.own ds))) (hN : X.N[i]? = some x) (hv : Vis X.env.scope x) (he : DE X ρ e (.lst es)) (hl : ds.length + es.length ≤ sizeLine) (rest : DS X (ρ.set i (some (.own (ds ++ es)))) st M) {cpos : Pos}
    (hpe : PE X (.Call (.Attribute (.Name x p) "extend" apos) [e] [] cpos) (tBM X.K "list" rExtend (tVar i) (tCons (teOf X e) tNil))) (hs : swapsWith (.Call (.Attribute (.Name x p) "extend" apos) [e] [] cpos) none pos.line X.env = pure false := by rfl) :
    DS X ρ (.Expr (.Call (.Attribute (.Name x p) "extend" apos) [e] [] cpos) pos :: st) M := fun A B σ H H1 E t f => ts_cons (ps_expr hpe hs) (by
  obtain ⟨a, vs, e1, h1, h0, hb0, r0⟩ := t.ow i ds h
  refine ⟨_, e1, .inl ⟨rfl, vs, SqL.of h1⟩, he A B σ H H1 _ t fun v G H2 s r => ?_⟩
  cases r with
  | @lst b zs _ hp rs =>
    refine ⟨a, b, vs, zs, rfl, rfl, s.s3 _ _ h1, s.s2 _ _ hp, by rw [← r0.length, ← rs.length]; exact hl, ?_⟩
    exact rest A B σ G _ E ((t.step s).put h e1 ((r0.mono s.s1).append rs)) (f.mono s.s1))
theorem ds_setO {ix : Expr} {px sp : Pos} {k : Int} {jj : Nat} (i : Nat) (h : ρ[i]? = some (some (.own ds))) (hN : X.N[i]? = some x) (hv : Vis X.env.scope x) (he : DE X ρ e d) (hi : DE X ρ ix (.int k)) (hk : ixN ds.length k = some jj)
    (rest : DS X (ρ.set i (some (.own (ds.set jj d)))) st M) (hps : PS X (.Assign [.Subscript (.Name x px) ix sp] e pos) (tAsg (teOf X e) (gSub (tVar i) (teOf X ix) rSetL))) : DS X ρ (.Assign [.Subscript (.Name x px) ix sp] e pos :: st) M :=
  fun A B σ H H1 E t f => ts_cons hps (he A B σ H H1 _ t fun v G H2 s r => by
    have t2 := t.step s
    obtain ⟨a, vs, e1, h1, h0, hb0, r0⟩ := t2.ow i ds h
    refine ⟨_, e1, hi A B σ G H2 _ t2 fun u G2 H3 s2 r2 => ?_⟩
    cases r2
    refine ⟨a, vs, k, jj, rfl, rfl, s2.s3 _ _ h1, by rw [← r0.length]; exact hk, ?_⟩
    exact rest A B σ G2 _ E ((t2.step s2).put h e1 ((r0.mono s2.s1).set jj (r.mono s2.s1))) (f.mono (s.s1.trans s2.s1)))
end

/-! ### a def over pure data -/
def rho0 (N : List Str) (ds : List D) : Rho := ds.map (fun d => some (.val d)) ++ List.replicate (N.length - ds.length) none
theorem noJel_rho0 (N : List Str) (ds : List D) : noJel (rho0 N ds) = true := by
  unfold noJel rho0
  rw [List.all_append, Bool.and_eq_true]
  refine ⟨?_, ?_⟩
  · rw [List.all_map]
    exact List.all_eq_true.mpr fun _ _ => rfl
  · exact List.all_eq_true.mpr fun x hx => by rw [(List.mem_replicate.mp hx).2]; rfl
theorem noOwn_rho0 (N : List Str) (ds : List D) : noOwn (rho0 N ds) = true := by
  unfold noOwn rho0
  rw [List.all_append, Bool.and_eq_true]
  refine ⟨?_, ?_⟩
  · rw [List.all_map]
    exact List.all_eq_true.mpr fun _ _ => rfl
  · exact List.all_eq_true.mpr fun x hx => by rw [(List.mem_replicate.mp hx).2]; rfl
theorem At.start {K : PySem.W.Frag} {H H1 : Hp} {N : List Str} {ds : List D} {vs : List V} (e : Same H H1) (r : Reps K H ds vs) : At K H H1 (rho0 N ds) (L2.start N vs) H H1 where
  toLt := Lt.start e
  sl := fun i d h => by
    unfold rho0 at h
    by_cases l : i < ds.length
    · rw [List.getElem?_append_left (by rw [List.length_map]; exact l), List.getElem?_map] at h
      cases q : ds[i]? with
      | none => rw [q] at h; cases h
      | some d' =>
        rw [q] at h
        cases h
        obtain ⟨v, e1, r1⟩ := r.get q
        refine ⟨v, ?_, r1⟩
        unfold L2.start
        rw [List.getElem?_append_left (by rw [List.length_map, ← r.length]; exact l), List.getElem?_map, e1]
        rfl
    · rw [List.getElem?_append_right (by rw [List.length_map]; omega), List.getElem?_replicate] at h
      split at h <;> cases h
  ow := fun i es h => by
    unfold rho0 at h
    by_cases l : i < ds.length
    · rw [List.getElem?_append_left (by rw [List.length_map]; exact l), List.getElem?_map] at h
      cases q : ds[i]? with
      | none => rw [q] at h; cases h
      | some d' =>
        rw [q] at h
        cases h
    · rw [List.getElem?_append_right (by rw [List.length_map]; omega), List.getElem?_replicate] at h
      split at h <;> cases h
  me := fun i M h => by
    unfold rho0 at h
    by_cases l : i < ds.length
    · rw [List.getElem?_append_left (by rw [List.length_map]; exact l), List.getElem?_map] at h
      cases q : ds[i]? with
      | none => rw [q] at h; cases h
      | some d' =>
        rw [q] at h
        cases h
    · rw [List.getElem?_append_right (by rw [List.length_map]; omega), List.getElem?_replicate] at h
      split at h <;> cases h
  ne := fun i j es es' _ h => by
    unfold rho0 at h
    by_cases l : i < ds.length
    · rw [List.getElem?_append_left (by rw [List.length_map]; exact l), List.getElem?_map] at h
      cases q : ds[i]? with
      | none => rw [q] at h; cases h
      | some d' =>
        rw [q] at h
        cases h
    · rw [List.getElem?_append_right (by rw [List.length_map]; omega), List.getElem?_replicate] at h
      split at h <;> cases h
  jo := .inl (noJel_rho0 N ds)
  ln := by
    unfold rho0 L2.start
    rw [List.length_append, List.length_append, List.length_map, List.length_map, List.length_replicate, List.length_replicate, r.length]
section
variable {P : Program} {w : World} {K : PySem.W.Frag} {mg : Str → Option Value} {base : Heap} {x qual : Str} {params : Arguments} {body : List Stmt} {scope : Scope} {dvs : List V} {kws : List (Str × V)} {f : Addr} {fd : FuncData}
abbrev cx (P : Program) (w : World) (K : PySem.W.Frag) (mg : Str → Option Value) (base : Heap) (N : List Str) (qual : Str) (scope : Scope) (f : Addr) (cdv : Value) (A : Around) (outer : List Env) (s : Shared) (H : Hp) (E : XK) : Cx :=
  (cxOf CX0 P w K mg base N qual scope f cdv A outer s H E).nox
theorem okD {N ps : List Str} {k : Nat} {S : List D → D → Prop} (F : FunD K x qual params body scope dvs kws f fd) (SC : FnScope N ps scope) (len : ∀ ds d, S ds d → ds.length = ps.length)
    (hb : ∀ (cdv : Value) (A : Around) (outer : List Env) (s : Shared) (H : Hp) (E : XK) (ds : List D) (d : D), Room k (A.deeper (envOfC qual scope s.heap.objs.size f cdv)) → S ds d →
      DS (cx P w K mg base N qual scope f cdv A outer s H E) (rho0 N ds) body ⟨fun _ => d = .non, fun d' => d' = d, fun _ => True⟩) : FnOk P w K mg base CX0 (k + 1) f fd ps (spD K S) := by
  refine F.ok SC (fun vs H Q E h => ?_) (fun cdv A outer s H vs Q E hr h => ?_)
  · obtain ⟨ds, d, Hv, e, r, hS, _⟩ := h
    rw [← r.length]
    exact len ds d hS
  · obtain ⟨ds, d, Hv, e, r, hS, q⟩ := h
    refine ⟨_, PSs.nox (pss_of (X := cx P w K mg base N qual scope f cdv A outer s H E)), ?_⟩
    refine hb cdv A outer s H E ds d hr hS Hv H (L2.start N vs) Hv H _ (At.start e r) ⟨fun ρ σ G H2 a b c => ?_, fun d' v ρ2 σ2 G H2 a _ b c r2 => ?_⟩
    · have a2 : d = .non := a
      subst a2
      exact q .non G H2 b.toLt.toStep .non
    · have a2 : d' = d := a
      subst a2
      exact q v G H2 b.toLt.toStep r2
end
end SK
set_option maxRecDepth 100000
set_option maxHeartbeats 4000000
namespace SK
open PySem PySem.Spec PyProof.Rows L2
/-! ### the text by places -/
def top (i : Nat) : Stmt := PySem.Challenge.pw_stoke_k64_whole_more_never_hurts.main.body.getD i (.Pass ⟨0, 0, 0, 0⟩)
abbrev s_has_room : Stmt := top 2
/-- 0 bits, 1 room -/
abbrev n_has_room : List Str := ["bits", "room"]
theorem sc_has_room : FnScope n_has_room ["bits", "room"] (defScope s_has_room) := ⟨rfl, rfl, rfl, by decide +kernel, rfl, by decide +kernel, by decide +kernel⟩
abbrev s_with_room : Stmt := top 3
/-- 0 bits, 1 room -/
abbrev n_with_room : List Str := ["bits", "room"]
theorem sc_with_room : FnScope n_with_room ["bits", "room"] (defScope s_with_room) := ⟨rfl, rfl, rfl, by decide +kernel, rfl, by decide +kernel, by decide +kernel⟩
abbrev s_without_room : Stmt := top 4
/-- 0 bits, 1 room -/
abbrev n_without_room : List Str := ["bits", "room"]
theorem sc_without_room : FnScope n_without_room ["bits", "room"] (defScope s_without_room) := ⟨rfl, rfl, rfl, by decide +kernel, rfl, by decide +kernel, by decide +kernel⟩
abbrev s_members : Stmt := top 5
/-- 0 bits, 1 rooms, 2 room -/
abbrev n_members : List Str := ["bits", "rooms", "room"]
theorem sc_members : FnScope n_members ["bits"] (defScope s_members) := ⟨rfl, rfl, rfl, by decide +kernel, rfl, by decide +kernel, by decide +kernel⟩
abbrev s_how_many : Stmt := top 6
/-- 0 bits -/
abbrev n_how_many : List Str := ["bits"]
theorem sc_how_many : FnScope n_how_many ["bits"] (defScope s_how_many) := ⟨rfl, rfl, rfl, by decide +kernel, rfl, by decide +kernel, by decide +kernel⟩
abbrev s_subsets : Stmt := top 7
/-- 0 bits, 1 found, 2 room, 3 one -/
abbrev n_subsets : List Str := ["bits", "found", "room", "one"]
theorem sc_subsets : FnScope n_subsets ["bits"] (defScope s_subsets) := ⟨rfl, rfl, rfl, by decide +kernel, rfl, by decide +kernel, by decide +kernel⟩
abbrev s_bits_of : Stmt := top 8
/-- 0 rooms, 1 bits, 2 room -/
abbrev n_bits_of : List Str := ["rooms", "bits", "room"]
theorem sc_bits_of : FnScope n_bits_of ["rooms"] (defScope s_bits_of) := ⟨rfl, rfl, rfl, by decide +kernel, rfl, by decide +kernel, by decide +kernel⟩
abbrev s_divisor : Stmt := top 22
/-- 0 one, 1 other, 2 high, 3 low, 4 rest -/
abbrev n_divisor : List Str := ["one", "other", "high", "low", "rest"]
theorem sc_divisor : FnScope n_divisor ["one", "other"] (defScope s_divisor) := ⟨rfl, rfl, rfl, by decide +kernel, rfl, by decide +kernel, by decide +kernel⟩
abbrev s_fraction : Stmt := top 23
/-- 0 top, 1 bottom, 2 shared -/
abbrev n_fraction : List Str := ["top", "bottom", "shared"]
theorem sc_fraction : FnScope n_fraction ["top", "bottom"] (defScope s_fraction) := ⟨rfl, rfl, rfl, by decide +kernel, rfl, by decide +kernel, by decide +kernel⟩
abbrev s_plus : Stmt := top 24
/-- 0 one, 1 other -/
abbrev n_plus : List Str := ["one", "other"]
theorem sc_plus : FnScope n_plus ["one", "other"] (defScope s_plus) := ⟨rfl, rfl, rfl, by decide +kernel, rfl, by decide +kernel, by decide +kernel⟩
abbrev s_minus : Stmt := top 25
/-- 0 one, 1 other -/
abbrev n_minus : List Str := ["one", "other"]
theorem sc_minus : FnScope n_minus ["one", "other"] (defScope s_minus) := ⟨rfl, rfl, rfl, by decide +kernel, rfl, by decide +kernel, by decide +kernel⟩
abbrev s_times : Stmt := top 26
/-- 0 one, 1 other -/
abbrev n_times : List Str := ["one", "other"]
theorem sc_times : FnScope n_times ["one", "other"] (defScope s_times) := ⟨rfl, rfl, rfl, by decide +kernel, rfl, by decide +kernel, by decide +kernel⟩
abbrev s_under : Stmt := top 27
/-- 0 one, 1 other -/
abbrev n_under : List Str := ["one", "other"]
theorem sc_under : FnScope n_under ["one", "other"] (defScope s_under) := ⟨rfl, rfl, rfl, by decide +kernel, rfl, by decide +kernel, by decide +kernel⟩
abbrev s_warmth_of : Stmt := top 29
/-- 0 hold, 1 room, 2 airs, 3 weather, 4 fired, 5 sky, 6 whole, 7 of -/
abbrev n_warmth_of : List Str := ["hold", "room", "airs", "weather", "fired", "sky", "whole", "of"]
theorem sc_warmth_of : FnScope n_warmth_of ["hold", "room", "airs", "weather", "fired"] (defScope s_warmth_of) := ⟨rfl, rfl, rfl, by decide +kernel, rfl, by decide +kernel, by decide +kernel⟩
abbrev s_span_of : Stmt := top 30
/-- 0 hold, 1 room, 2 bands, 3 fired, 4 sky, 5 lows, 6 highs, 7 of -/
abbrev n_span_of : List Str := ["hold", "room", "bands", "fired", "sky", "lows", "highs", "of"]
theorem sc_span_of : FnScope n_span_of ["hold", "room", "bands", "fired"] (defScope s_span_of) := ⟨rfl, rfl, rfl, by decide +kernel, rfl, by decide +kernel, by decide +kernel⟩
abbrev s_touched : Stmt := top 31
/-- 0 hold, 1 room, 2 least, 3 greatest, 4 marks, 5 found, 6 band -/
abbrev n_touched : List Str := ["hold", "room", "least", "greatest", "marks", "found", "band"]
theorem sc_touched : FnScope n_touched ["hold", "room", "least", "greatest"] (defScope s_touched) := ⟨rfl, rfl, rfl, by decide +kernel, rfl, by decide +kernel, by decide +kernel⟩
abbrev s_within : Stmt := top 32
/-- 0 hold, 1 room, 2 least, 3 greatest, 4 marks -/
abbrev n_within : List Str := ["hold", "room", "least", "greatest", "marks"]
theorem sc_within : FnScope n_within ["hold", "room", "least", "greatest"] (defScope s_within) := ⟨rfl, rfl, rfl, by decide +kernel, rfl, by decide +kernel, by decide +kernel⟩
abbrev s_fits_room : Stmt := top 34
/-- 0 hold, 1 state, 2 room, 3 burning, 4 wait, 5 fails, 6 stove -/
abbrev n_fits_room : List Str := ["hold", "state", "room", "burning", "wait", "fails", "stove"]
theorem sc_fits_room : FnScope n_fits_room ["hold", "state", "room"] (defScope s_fits_room) := ⟨rfl, rfl, rfl, by decide +kernel, rfl, by decide +kernel, by decide +kernel⟩
abbrev s_is_state : Stmt := top 35
/-- 0 hold, 1 state, 2 many, 3 one, 4 room -/
abbrev n_is_state : List Str := ["hold", "state", "many", "one", "room"]
theorem sc_is_state : FnScope n_is_state ["hold", "state"] (defScope s_is_state) := ⟨rfl, rfl, rfl, by decide +kernel, rfl, by decide +kernel, by decide +kernel⟩
abbrev s_ask_state : Stmt := top 36
/-- 0 hold, 1 state -/
abbrev n_ask_state : List Str := ["hold", "state"]
theorem sc_ask_state : FnScope n_ask_state ["hold", "state"] (defScope s_ask_state) := ⟨rfl, rfl, rfl, by decide +kernel, rfl, by decide +kernel, by decide +kernel⟩
abbrev s_wood_of : Stmt := top 37
/-- 0 hold, 1 bits, 2 whole, 3 room, 4 stove -/
abbrev n_wood_of : List Str := ["hold", "bits", "whole", "room", "stove"]
theorem sc_wood_of : FnScope n_wood_of ["hold", "bits"] (defScope s_wood_of) := ⟨rfl, rfl, rfl, by decide +kernel, rfl, by decide +kernel, by decide +kernel⟩
abbrev s_bound_stoves : Stmt := top 38
/-- 0 hold, 1 state, 2 room -/
abbrev n_bound_stoves : List Str := ["hold", "state", "room"]
theorem sc_bound_stoves : FnScope n_bound_stoves ["hold", "state"] (defScope s_bound_stoves) := ⟨rfl, rfl, rfl, by decide +kernel, rfl, by decide +kernel, by decide +kernel⟩
abbrev s_free_stoves : Stmt := top 39
/-- 0 hold, 1 state, 2 room -/
abbrev n_free_stoves : List Str := ["hold", "state", "room"]
theorem sc_free_stoves : FnScope n_free_stoves ["hold", "state"] (defScope s_free_stoves) := ⟨rfl, rfl, rfl, by decide +kernel, rfl, by decide +kernel, by decide +kernel⟩
abbrev s_orders_of : Stmt := top 40
/-- 0 hold, 1 state, 2 bound, 3 some, 4 one -/
abbrev n_orders_of : List Str := ["hold", "state", "bound", "some", "one"]
theorem sc_orders_of : FnScope n_orders_of ["hold", "state"] (defScope s_orders_of) := ⟨rfl, rfl, rfl, by decide +kernel, rfl, by decide +kernel, by decide +kernel⟩
abbrev s_may_fail : Stmt := top 41
/-- 0 hold, 1 state, 2 order, 3 cold, 4 room -/
abbrev n_may_fail : List Str := ["hold", "state", "order", "cold", "room"]
theorem sc_may_fail : FnScope n_may_fail ["hold", "state", "order"] (defScope s_may_fail) := ⟨rfl, rfl, rfl, by decide +kernel, rfl, by decide +kernel, by decide +kernel⟩
abbrev s_behind_turn : Stmt := top 42
/-- 0 hold, 1 state, 2 order, 3 out, 4 burning, 5 waits, 6 failed, 7 room, 8 wait, 9 fails, 10 heap -/
abbrev n_behind_turn : List Str := ["hold", "state", "order", "out", "burning", "waits", "failed", "room", "wait", "fails", "heap"]
theorem sc_behind_turn : FnScope n_behind_turn ["hold", "state", "order", "out"] (defScope s_behind_turn) := ⟨rfl, rfl, rfl, by decide +kernel, rfl, by decide +kernel, by decide +kernel⟩
abbrev s_Spread_init : Stmt := inClass (top 44) 0
/-- 0 self, 1 hold -/
abbrev n_Spread_init : List Str := ["self", "hold"]
theorem sc_Spread_init : FnScope n_Spread_init ["self", "hold"] (defScope s_Spread_init) := ⟨rfl, rfl, rfl, by decide +kernel, rfl, by decide +kernel, by decide +kernel⟩
abbrev s_Spread_span_by : Stmt := inClass (top 44) 1
/-- 0 self, 1 room, 2 bands, 3 fired, 4 key -/
abbrev n_Spread_span_by : List Str := ["self", "room", "bands", "fired", "key"]
theorem sc_Spread_span_by : FnScope n_Spread_span_by ["self", "room", "bands", "fired"] (defScope s_Spread_span_by) := ⟨rfl, rfl, rfl, by decide +kernel, rfl, by decide +kernel, by decide +kernel⟩
abbrev s_Spread_bands_by : Stmt := inClass (top 44) 2
/-- 0 self, 1 bands, 2 fires, 3 found, 4 room, 5 span, 6 longer, 7 one, 8 band -/
abbrev n_Spread_bands_by : List Str := ["self", "bands", "fires", "found", "room", "span", "longer", "one", "band"]
theorem sc_Spread_bands_by : FnScope n_Spread_bands_by ["self", "bands", "fires"] (defScope s_Spread_bands_by) := ⟨rfl, rfl, rfl, by decide +kernel, rfl, by decide +kernel, by decide +kernel⟩
abbrev s_Spread_led : Stmt := inClass (top 44) 3
/-- 0 self, 1 state, 2 order, 3 found, 4 out, 5 spread, 6 rest, 7 bands -/
abbrev n_Spread_led : List Str := ["self", "state", "order", "found", "out", "spread", "rest", "bands"]
theorem sc_Spread_led : FnScope n_Spread_led ["self", "state", "order"] (defScope s_Spread_led) := ⟨rfl, rfl, rfl, by decide +kernel, rfl, by decide +kernel, by decide +kernel⟩
abbrev s_fires_of : Stmt := top 45
/-- 0 order, 1 out, 2 fires, 3 room -/
abbrev n_fires_of : List Str := ["order", "out", "fires", "room"]
theorem sc_fires_of : FnScope n_fires_of ["order", "out"] (defScope s_fires_of) := ⟨rfl, rfl, rfl, by decide +kernel, rfl, by decide +kernel, by decide +kernel⟩
abbrev s_add_met : Stmt := top 46
/-- 0 row, 1 known, 2 some, 3 limit, 4 one -/
abbrev n_add_met : List Str := ["row", "known", "some", "limit", "one"]
theorem sc_add_met : FnScope n_add_met ["row", "known", "some", "limit"] (defScope s_add_met) := ⟨rfl, rfl, rfl, by decide +kernel, rfl, by decide +kernel, by decide +kernel⟩
abbrev s_asked_states : Stmt := top 48
/-- 0 hold, 1 states, 2 state -/
abbrev n_asked_states : List Str := ["hold", "states", "state"]
theorem sc_asked_states : FnScope n_asked_states ["hold", "states"] (defScope s_asked_states) := ⟨rfl, rfl, rfl, by decide +kernel, rfl, by decide +kernel, by decide +kernel⟩
abbrev s_states_by : Stmt := top 49
/-- 0 spread, 1 hold, 2 states, 3 limit, 4 row, 5 known, 6 at, 7 ways, 8 order -/
abbrev n_states_by : List Str := ["spread", "hold", "states", "limit", "row", "known", "at", "ways", "order"]
theorem sc_states_by : FnScope n_states_by ["spread", "hold", "states", "limit"] (defScope s_states_by) := ⟨rfl, rfl, rfl, by decide +kernel, rfl, by decide +kernel, by decide +kernel⟩
abbrev s_open_orders : Stmt := top 50
/-- 0 known, 1 comes, 2 state, 3 order, 4 one -/
abbrev n_open_orders : List Str := ["known", "comes", "state", "order", "one"]
theorem sc_open_orders : FnScope n_open_orders ["known"] (defScope s_open_orders) := ⟨rfl, rfl, rfl, by decide +kernel, rfl, by decide +kernel, by decide +kernel⟩
abbrev s_ranks_by : Stmt := top 51
/-- 0 known, 1 found, 2 left, 3 row, 4 state, 5 comes, 6 at, 7 order -/
abbrev n_ranks_by : List Str := ["known", "found", "left", "row", "state", "comes", "at", "order"]
theorem sc_ranks_by : FnScope n_ranks_by ["known"] (defScope s_ranks_by) := ⟨rfl, rfl, rfl, by decide +kernel, rfl, by decide +kernel, by decide +kernel⟩
abbrev s_ranks_of : Stmt := top 52
/-- 0 hold, 1 states, 2 limit -/
abbrev n_ranks_of : List Str := ["hold", "states", "limit"]
theorem sc_ranks_of : FnScope n_ranks_of ["hold", "states", "limit"] (defScope s_ranks_of) := ⟨rfl, rfl, rfl, by decide +kernel, rfl, by decide +kernel, by decide +kernel⟩
abbrev s_is_bound : Stmt := top 56
/-- 0 thing, 1 most -/
abbrev n_is_bound : List Str := ["thing", "most"]
theorem sc_is_bound : FnScope n_is_bound ["thing", "most"] (defScope s_is_bound) := ⟨rfl, rfl, rfl, by decide +kernel, rfl, by decide +kernel, by decide +kernel⟩
abbrev s_do_rise : Stmt := top 57
/-- 0 marks, 1 k -/
abbrev n_do_rise : List Str := ["marks", "k"]
theorem sc_do_rise : FnScope n_do_rise ["marks"] (defScope s_do_rise) := ⟨rfl, rfl, rfl, by decide +kernel, rfl, by decide +kernel, by decide +kernel⟩
abbrev s_Hold_init : Stmt := inClass (top 58) 0
/-- 0 self, 1 most, 2 cap, 3 load -/
abbrev n_Hold_init : List Str := ["self", "most", "cap", "load"]
theorem sc_Hold_init : FnScope n_Hold_init ["self", "most", "cap", "load"] (defScope s_Hold_init) := ⟨rfl, rfl, rfl, by decide +kernel, rfl, by decide +kernel, by decide +kernel⟩
abbrev s_Hold_ask_room : Stmt := inClass (top 58) 1
/-- 0 self, 1 room -/
abbrev n_Hold_ask_room : List Str := ["self", "room"]
theorem sc_Hold_ask_room : FnScope n_Hold_ask_room ["self", "room"] (defScope s_Hold_ask_room) := ⟨rfl, rfl, rfl, by decide +kernel, rfl, by decide +kernel, by decide +kernel⟩
abbrev s_Hold_taken_share : Stmt := inClass (top 58) 2
/-- 0 self, 1 room, 2 whole, 3 one -/
abbrev n_Hold_taken_share : List Str := ["self", "room", "whole", "one"]
theorem sc_Hold_taken_share : FnScope n_Hold_taken_share ["self", "room"] (defScope s_Hold_taken_share) := ⟨rfl, rfl, rfl, by decide +kernel, rfl, by decide +kernel, by decide +kernel⟩
abbrev s_Hold_put_room : Stmt := inClass (top 58) 3
/-- 0 self, 1 marks, 2 many, 3 one, 4 row -/
abbrev n_Hold_put_room : List Str := ["self", "marks", "many", "one", "row"]
theorem sc_Hold_put_room : FnScope n_Hold_put_room ["self", "marks"] (defScope s_Hold_put_room) := ⟨rfl, rfl, rfl, by decide +kernel, rfl, by decide +kernel, by decide +kernel⟩
abbrev s_Hold_put_flow : Stmt := inClass (top 58) 4
/-- 0 self, 1 into, 2 of, 3 share, 4 whole -/
abbrev n_Hold_put_flow : List Str := ["self", "into", "of", "share", "whole"]
theorem sc_Hold_put_flow : FnScope n_Hold_put_flow ["self", "into", "of", "share"] (defScope s_Hold_put_flow) := ⟨rfl, rfl, rfl, by decide +kernel, rfl, by decide +kernel, by decide +kernel⟩
abbrev s_Hold_put_sky : Stmt := inClass (top 58) 5
/-- 0 self, 1 room, 2 share, 3 low, 4 high, 5 whole -/
abbrev n_Hold_put_sky : List Str := ["self", "room", "share", "low", "high", "whole"]
theorem sc_Hold_put_sky : FnScope n_Hold_put_sky ["self", "room", "share", "low", "high"] (defScope s_Hold_put_sky) := ⟨rfl, rfl, rfl, by decide +kernel, rfl, by decide +kernel, by decide +kernel⟩
abbrev s_Hold_put_stove : Stmt := inClass (top 58) 6
/-- 0 self, 1 room, 2 heat, 3 wood, 4 stay, 5 fails -/
abbrev n_Hold_put_stove : List Str := ["self", "room", "heat", "wood", "stay", "fails"]
theorem sc_Hold_put_stove : FnScope n_Hold_put_stove ["self", "room", "heat", "wood", "stay", "fails"] (defScope s_Hold_put_stove) := ⟨rfl, rfl, rfl, by decide +kernel, rfl, by decide +kernel, by decide +kernel⟩
abbrev s_Hold_many : Stmt := inClass (top 58) 7
/-- 0 self -/
abbrev n_Hold_many : List Str := ["self"]
theorem sc_Hold_many : FnScope n_Hold_many ["self"] (defScope s_Hold_many) := ⟨rfl, rfl, rfl, by decide +kernel, rfl, by decide +kernel, by decide +kernel⟩
abbrev s_Hold_marks : Stmt := inClass (top 58) 8
/-- 0 self, 1 room -/
abbrev n_Hold_marks : List Str := ["self", "room"]
theorem sc_Hold_marks : FnScope n_Hold_marks ["self", "room"] (defScope s_Hold_marks) := ⟨rfl, rfl, rfl, by decide +kernel, rfl, by decide +kernel, by decide +kernel⟩
abbrev s_Hold_share : Stmt := inClass (top 58) 9
/-- 0 self, 1 into, 2 of -/
abbrev n_Hold_share : List Str := ["self", "into", "of"]
theorem sc_Hold_share : FnScope n_Hold_share ["self", "into", "of"] (defScope s_Hold_share) := ⟨rfl, rfl, rfl, by decide +kernel, rfl, by decide +kernel, by decide +kernel⟩
abbrev s_Hold_sky : Stmt := inClass (top 58) 10
/-- 0 self, 1 room -/
abbrev n_Hold_sky : List Str := ["self", "room"]
theorem sc_Hold_sky : FnScope n_Hold_sky ["self", "room"] (defScope s_Hold_sky) := ⟨rfl, rfl, rfl, by decide +kernel, rfl, by decide +kernel, by decide +kernel⟩
abbrev s_Hold_stove : Stmt := inClass (top 58) 11
/-- 0 self, 1 room -/
abbrev n_Hold_stove : List Str := ["self", "room"]
theorem sc_Hold_stove : FnScope n_Hold_stove ["self", "room"] (defScope s_Hold_stove) := ⟨rfl, rfl, rfl, by decide +kernel, rfl, by decide +kernel, by decide +kernel⟩
abbrev s_hold_like : Stmt := top 59
/-- 0 hold, 1 most, 2 cap, 3 load, 4 other, 5 room, 6 sky, 7 of, 8 stove -/
abbrev n_hold_like : List Str := ["hold", "most", "cap", "load", "other", "room", "sky", "of", "stove"]
theorem sc_hold_like : FnScope n_hold_like ["hold", "most", "cap", "load"] (defScope s_hold_like) := ⟨rfl, rfl, rfl, by decide +kernel, rfl, by decide +kernel, by decide +kernel⟩
abbrev s_law_cell_at : Stmt := top 61
/-- 0 _law_script, 1 _law_k -/
abbrev n_law_cell_at : List Str := ["_law_script", "_law_k"]
theorem sc_law_cell_at : FnScope n_law_cell_at ["_law_script", "_law_k"] (defScope s_law_cell_at) := ⟨rfl, rfl, rfl, by decide +kernel, rfl, by decide +kernel, by decide +kernel⟩
abbrev s_law_mix : Stmt := top 62
/-- 0 _law_cell, 1 _law_k, 2 _law_turn, 3 _law_prime -/
abbrev n_law_mix : List Str := ["_law_cell", "_law_k", "_law_turn", "_law_prime"]
theorem sc_law_mix : FnScope n_law_mix ["_law_cell", "_law_k", "_law_turn"] (defScope s_law_mix) := ⟨rfl, rfl, rfl, by decide +kernel, rfl, by decide +kernel, by decide +kernel⟩
abbrev s_law_part : Stmt := top 63
/-- 0 _law_top, 1 _law_bottom, 2 _law_one, 3 _law_other, 4 _law_rest -/
abbrev n_law_part : List Str := ["_law_top", "_law_bottom", "_law_one", "_law_other", "_law_rest"]
theorem sc_law_part : FnScope n_law_part ["_law_top", "_law_bottom"] (defScope s_law_part) := ⟨rfl, rfl, rfl, by decide +kernel, rfl, by decide +kernel, by decide +kernel⟩
abbrev s_law_scale : Stmt := top 64
/-- 0 _law_cell, 1 _law_far -/
abbrev n_law_scale : List Str := ["_law_cell", "_law_far"]
theorem sc_law_scale : FnScope n_law_scale ["_law_cell"] (defScope s_law_scale) := ⟨rfl, rfl, rfl, by decide +kernel, rfl, by decide +kernel, by decide +kernel⟩
abbrev s_law_warm : Stmt := top 65
/-- 0 _law_steps, 1 _law_scale_here -/
abbrev n_law_warm : List Str := ["_law_steps", "_law_scale_here"]
theorem sc_law_warm : FnScope n_law_warm ["_law_steps", "_law_scale_here"] (defScope s_law_warm) := ⟨rfl, rfl, rfl, by decide +kernel, rfl, by decide +kernel, by decide +kernel⟩
abbrev s_law_rooms : Stmt := top 66
/-- 0 _law_cell, 1 _law_many, 2 _law_bands, 3 _law_rooms_here, 4 _law_k, 5 _law_marks, 6 _law_j, 7 _law_below, 8 _law_share, 9 _law_low, 10 _law_high, 11 _law_heat, 12 _law_stove -/
abbrev n_law_rooms : List Str := ["_law_cell", "_law_many", "_law_bands", "_law_rooms_here", "_law_k", "_law_marks", "_law_j", "_law_below", "_law_share", "_law_low", "_law_high", "_law_heat", "_law_stove"]
theorem sc_law_rooms : FnScope n_law_rooms ["_law_cell", "_law_many", "_law_bands"] (defScope s_law_rooms) := ⟨rfl, rfl, rfl, by decide +kernel, rfl, by decide +kernel, by decide +kernel⟩
abbrev s_law_hold : Stmt := top 67
/-- 0 _law_rooms_here, 1 _law_scale_here, 2 _law_bounds, 3 _law_flows, 4 _law_hold_here, 5 _law_one, 6 _law_k, 7 _law_share, 8 _law_stove, 9 _law_j, 10 _law_mark -/
abbrev n_law_hold : List Str := ["_law_rooms_here", "_law_scale_here", "_law_bounds", "_law_flows", "_law_hold_here", "_law_one", "_law_k", "_law_share", "_law_stove", "_law_j", "_law_mark"]
theorem sc_law_hold : FnScope n_law_hold ["_law_rooms_here", "_law_scale_here", "_law_bounds", "_law_flows"] (defScope s_law_hold) := ⟨rfl, rfl, rfl, by decide +kernel, rfl, by decide +kernel, by decide +kernel⟩
abbrev s_law_state : Stmt := top 68
/-- 0 _law_rooms_here, 1 _law_bounds, 2 _law_cell, 3 _law_k, 4 _law_bands, 5 _law_waits, 6 _law_failed, 7 _law_burning, 8 _law_lit, 9 _law_j, 10 _law_stove, 11 _law_x -/
abbrev n_law_state : List Str := ["_law_rooms_here", "_law_bounds", "_law_cell", "_law_k", "_law_bands", "_law_waits", "_law_failed", "_law_burning", "_law_lit", "_law_j", "_law_stove", "_law_x"]
theorem sc_law_state : FnScope n_law_state ["_law_rooms_here", "_law_bounds", "_law_cell", "_law_k"] (defScope s_law_state) := ⟨rfl, rfl, rfl, by decide +kernel, rfl, by decide +kernel, by decide +kernel⟩
abbrev s_law_no_less : Stmt := top 69
/-- 0 _law_one, 1 _law_other -/
abbrev n_law_no_less : List Str := ["_law_one", "_law_other"]
theorem sc_law_no_less : FnScope n_law_no_less ["_law_one", "_law_other"] (defScope s_law_no_less) := ⟨rfl, rfl, rfl, by decide +kernel, rfl, by decide +kernel, by decide +kernel⟩
abbrev s_law : Stmt := top 70
/-- 0 _law_script, 1 _law_first, 2 _law_many, 3 _law_bounds, 4 _law_rooms_here, 5 _law_hold_here, 6 _law_state_here, 7 _law_rank, 8 _law_wider, 9 _law_others, 10 _law_other, 11 _law_more, 12 _law_last -/
abbrev n_law : List Str := ["_law_script", "_law_first", "_law_many", "_law_bounds", "_law_rooms_here", "_law_hold_here", "_law_state_here", "_law_rank", "_law_wider", "_law_others", "_law_other", "_law_more", "_law_last"]
theorem sc_law : FnScope n_law ["_law_script"] (defScope s_law) := ⟨rfl, rfl, rfl, by decide +kernel, rfl, by decide +kernel, by decide +kernel⟩
def d_has_room : He.DefD := ⟨("has_room", none), "has_room", "has_room", defArgs s_has_room, defBody s_has_room, defScope s_has_room, [], []⟩
def d_with_room : He.DefD := ⟨("with_room", none), "with_room", "with_room", defArgs s_with_room, defBody s_with_room, defScope s_with_room, [], []⟩
def d_without_room : He.DefD := ⟨("without_room", none), "without_room", "without_room", defArgs s_without_room, defBody s_without_room, defScope s_without_room, [], []⟩
def d_members : He.DefD := ⟨("members", none), "members", "members", defArgs s_members, defBody s_members, defScope s_members, [], []⟩
def d_how_many : He.DefD := ⟨("how_many", none), "how_many", "how_many", defArgs s_how_many, defBody s_how_many, defScope s_how_many, [], []⟩
def d_subsets : He.DefD := ⟨("subsets", none), "subsets", "subsets", defArgs s_subsets, defBody s_subsets, defScope s_subsets, [], []⟩
def d_bits_of : He.DefD := ⟨("bits_of", none), "bits_of", "bits_of", defArgs s_bits_of, defBody s_bits_of, defScope s_bits_of, [], []⟩
def d_divisor : He.DefD := ⟨("divisor", none), "divisor", "divisor", defArgs s_divisor, defBody s_divisor, defScope s_divisor, [], []⟩
def d_fraction : He.DefD := ⟨("fraction", none), "fraction", "fraction", defArgs s_fraction, defBody s_fraction, defScope s_fraction, [], []⟩
def d_plus : He.DefD := ⟨("plus", none), "plus", "plus", defArgs s_plus, defBody s_plus, defScope s_plus, [], []⟩
def d_minus : He.DefD := ⟨("minus", none), "minus", "minus", defArgs s_minus, defBody s_minus, defScope s_minus, [], []⟩
def d_times : He.DefD := ⟨("times", none), "times", "times", defArgs s_times, defBody s_times, defScope s_times, [], []⟩
def d_under : He.DefD := ⟨("under", none), "under", "under", defArgs s_under, defBody s_under, defScope s_under, [], []⟩
def d_warmth_of : He.DefD := ⟨("warmth_of", none), "warmth_of", "warmth_of", defArgs s_warmth_of, defBody s_warmth_of, defScope s_warmth_of, [], []⟩
def d_span_of : He.DefD := ⟨("span_of", none), "span_of", "span_of", defArgs s_span_of, defBody s_span_of, defScope s_span_of, [], []⟩
def d_touched : He.DefD := ⟨("touched", none), "touched", "touched", defArgs s_touched, defBody s_touched, defScope s_touched, [], []⟩
def d_within : He.DefD := ⟨("within", none), "within", "within", defArgs s_within, defBody s_within, defScope s_within, [], []⟩
def d_fits_room : He.DefD := ⟨("fits_room", none), "fits_room", "fits_room", defArgs s_fits_room, defBody s_fits_room, defScope s_fits_room, [], []⟩
def d_is_state : He.DefD := ⟨("is_state", none), "is_state", "is_state", defArgs s_is_state, defBody s_is_state, defScope s_is_state, [], []⟩
def d_ask_state : He.DefD := ⟨("ask_state", none), "ask_state", "ask_state", defArgs s_ask_state, defBody s_ask_state, defScope s_ask_state, [], []⟩
def d_wood_of : He.DefD := ⟨("wood_of", none), "wood_of", "wood_of", defArgs s_wood_of, defBody s_wood_of, defScope s_wood_of, [], []⟩
def d_bound_stoves : He.DefD := ⟨("bound_stoves", none), "bound_stoves", "bound_stoves", defArgs s_bound_stoves, defBody s_bound_stoves, defScope s_bound_stoves, [], []⟩
def d_free_stoves : He.DefD := ⟨("free_stoves", none), "free_stoves", "free_stoves", defArgs s_free_stoves, defBody s_free_stoves, defScope s_free_stoves, [], []⟩
def d_orders_of : He.DefD := ⟨("orders_of", none), "orders_of", "orders_of", defArgs s_orders_of, defBody s_orders_of, defScope s_orders_of, [], []⟩
def d_may_fail : He.DefD := ⟨("may_fail", none), "may_fail", "may_fail", defArgs s_may_fail, defBody s_may_fail, defScope s_may_fail, [], []⟩
def d_behind_turn : He.DefD := ⟨("behind_turn", none), "behind_turn", "behind_turn", defArgs s_behind_turn, defBody s_behind_turn, defScope s_behind_turn, [], []⟩
def d_Spread_init : He.DefD := ⟨("Spread", some "__init__"), "__init__", "Spread.__init__", defArgs s_Spread_init, defBody s_Spread_init, defScope s_Spread_init, [], []⟩
def d_Spread_span_by : He.DefD := ⟨("Spread", some "span_by"), "span_by", "Spread.span_by", defArgs s_Spread_span_by, defBody s_Spread_span_by, defScope s_Spread_span_by, [], []⟩
def d_Spread_bands_by : He.DefD := ⟨("Spread", some "bands_by"), "bands_by", "Spread.bands_by", defArgs s_Spread_bands_by, defBody s_Spread_bands_by, defScope s_Spread_bands_by, [], []⟩
def d_Spread_led : He.DefD := ⟨("Spread", some "led"), "led", "Spread.led", defArgs s_Spread_led, defBody s_Spread_led, defScope s_Spread_led, [], []⟩
def d_fires_of : He.DefD := ⟨("fires_of", none), "fires_of", "fires_of", defArgs s_fires_of, defBody s_fires_of, defScope s_fires_of, [], []⟩
def d_add_met : He.DefD := ⟨("add_met", none), "add_met", "add_met", defArgs s_add_met, defBody s_add_met, defScope s_add_met, [], []⟩
def d_asked_states : He.DefD := ⟨("asked_states", none), "asked_states", "asked_states", defArgs s_asked_states, defBody s_asked_states, defScope s_asked_states, [], []⟩
def d_states_by : He.DefD := ⟨("states_by", none), "states_by", "states_by", defArgs s_states_by, defBody s_states_by, defScope s_states_by, [], []⟩
def d_open_orders : He.DefD := ⟨("open_orders", none), "open_orders", "open_orders", defArgs s_open_orders, defBody s_open_orders, defScope s_open_orders, [], []⟩
def d_ranks_by : He.DefD := ⟨("ranks_by", none), "ranks_by", "ranks_by", defArgs s_ranks_by, defBody s_ranks_by, defScope s_ranks_by, [], []⟩
def d_ranks_of : He.DefD := ⟨("ranks_of", none), "ranks_of", "ranks_of", defArgs s_ranks_of, defBody s_ranks_of, defScope s_ranks_of, [.int 2000], []⟩
def d_is_bound : He.DefD := ⟨("is_bound", none), "is_bound", "is_bound", defArgs s_is_bound, defBody s_is_bound, defScope s_is_bound, [], []⟩
def d_do_rise : He.DefD := ⟨("do_rise", none), "do_rise", "do_rise", defArgs s_do_rise, defBody s_do_rise, defScope s_do_rise, [], []⟩
def d_Hold_init : He.DefD := ⟨("Hold", some "__init__"), "__init__", "Hold.__init__", defArgs s_Hold_init, defBody s_Hold_init, defScope s_Hold_init, [.int 4, .int 0, .int 0], []⟩
def d_Hold_ask_room : He.DefD := ⟨("Hold", some "ask_room"), "ask_room", "Hold.ask_room", defArgs s_Hold_ask_room, defBody s_Hold_ask_room, defScope s_Hold_ask_room, [], []⟩
def d_Hold_taken_share : He.DefD := ⟨("Hold", some "taken_share"), "taken_share", "Hold.taken_share", defArgs s_Hold_taken_share, defBody s_Hold_taken_share, defScope s_Hold_taken_share, [], []⟩
def d_Hold_put_room : He.DefD := ⟨("Hold", some "put_room"), "put_room", "Hold.put_room", defArgs s_Hold_put_room, defBody s_Hold_put_room, defScope s_Hold_put_room, [], []⟩
def d_Hold_put_flow : He.DefD := ⟨("Hold", some "put_flow"), "put_flow", "Hold.put_flow", defArgs s_Hold_put_flow, defBody s_Hold_put_flow, defScope s_Hold_put_flow, [], []⟩
def d_Hold_put_sky : He.DefD := ⟨("Hold", some "put_sky"), "put_sky", "Hold.put_sky", defArgs s_Hold_put_sky, defBody s_Hold_put_sky, defScope s_Hold_put_sky, [], []⟩
def d_Hold_put_stove : He.DefD := ⟨("Hold", some "put_stove"), "put_stove", "Hold.put_stove", defArgs s_Hold_put_stove, defBody s_Hold_put_stove, defScope s_Hold_put_stove, [.int 0, .int 0, .int 0], []⟩
def d_Hold_many : He.DefD := ⟨("Hold", some "many"), "many", "Hold.many", defArgs s_Hold_many, defBody s_Hold_many, defScope s_Hold_many, [], []⟩
def d_Hold_marks : He.DefD := ⟨("Hold", some "marks"), "marks", "Hold.marks", defArgs s_Hold_marks, defBody s_Hold_marks, defScope s_Hold_marks, [], []⟩
def d_Hold_share : He.DefD := ⟨("Hold", some "share"), "share", "Hold.share", defArgs s_Hold_share, defBody s_Hold_share, defScope s_Hold_share, [], []⟩
def d_Hold_sky : He.DefD := ⟨("Hold", some "sky"), "sky", "Hold.sky", defArgs s_Hold_sky, defBody s_Hold_sky, defScope s_Hold_sky, [], []⟩
def d_Hold_stove : He.DefD := ⟨("Hold", some "stove"), "stove", "Hold.stove", defArgs s_Hold_stove, defBody s_Hold_stove, defScope s_Hold_stove, [], []⟩
def d_hold_like : He.DefD := ⟨("hold_like", none), "hold_like", "hold_like", defArgs s_hold_like, defBody s_hold_like, defScope s_hold_like, [.non, .non, .non], []⟩
def d_law_cell_at : He.DefD := ⟨("_law_cell_at", none), "_law_cell_at", "_law_cell_at", defArgs s_law_cell_at, defBody s_law_cell_at, defScope s_law_cell_at, [], []⟩
def d_law_mix : He.DefD := ⟨("_law_mix", none), "_law_mix", "_law_mix", defArgs s_law_mix, defBody s_law_mix, defScope s_law_mix, [], []⟩
def d_law_part : He.DefD := ⟨("_law_part", none), "_law_part", "_law_part", defArgs s_law_part, defBody s_law_part, defScope s_law_part, [], []⟩
def d_law_scale : He.DefD := ⟨("_law_scale", none), "_law_scale", "_law_scale", defArgs s_law_scale, defBody s_law_scale, defScope s_law_scale, [], []⟩
def d_law_warm : He.DefD := ⟨("_law_warm", none), "_law_warm", "_law_warm", defArgs s_law_warm, defBody s_law_warm, defScope s_law_warm, [], []⟩
def d_law_rooms : He.DefD := ⟨("_law_rooms", none), "_law_rooms", "_law_rooms", defArgs s_law_rooms, defBody s_law_rooms, defScope s_law_rooms, [], []⟩
def d_law_hold : He.DefD := ⟨("_law_hold", none), "_law_hold", "_law_hold", defArgs s_law_hold, defBody s_law_hold, defScope s_law_hold, [], []⟩
def d_law_state : He.DefD := ⟨("_law_state", none), "_law_state", "_law_state", defArgs s_law_state, defBody s_law_state, defScope s_law_state, [], []⟩
def d_law_no_less : He.DefD := ⟨("_law_no_less", none), "_law_no_less", "_law_no_less", defArgs s_law_no_less, defBody s_law_no_less, defScope s_law_no_less, [], []⟩
def d_law : He.DefD := ⟨("law", none), "law", "law", defArgs s_law, defBody s_law, defScope s_law, [], []⟩
def fn0 : List He.DefD := [d_has_room, d_with_room, d_without_room, d_members, d_how_many, d_subsets, d_bits_of, d_divisor, d_fraction, d_plus, d_minus, d_times, d_under, d_warmth_of, d_span_of, d_touched]
def fn1 : List He.DefD := [d_within, d_fits_room, d_is_state, d_ask_state, d_wood_of, d_bound_stoves, d_free_stoves, d_orders_of, d_may_fail, d_behind_turn, d_Spread_init, d_Spread_span_by, d_Spread_bands_by, d_Spread_led, d_fires_of, d_add_met]
def fn2 : List He.DefD := [d_asked_states, d_states_by, d_open_orders, d_ranks_by, d_ranks_of, d_is_bound, d_do_rise, d_Hold_init, d_Hold_ask_room, d_Hold_taken_share, d_Hold_put_room, d_Hold_put_flow, d_Hold_put_sky, d_Hold_put_stove, d_Hold_many, d_Hold_marks]
def fn3 : List He.DefD := [d_Hold_share, d_Hold_sky, d_Hold_stove, d_hold_like, d_law_cell_at, d_law_mix, d_law_part, d_law_scale, d_law_warm, d_law_rooms, d_law_hold, d_law_state, d_law_no_less, d_law]
def fn : List He.DefD := fn0 ++ fn1 ++ fn2 ++ fn3
def fa0 : List He.Fa := [.glo "has_room", .glo "with_room", .glo "without_room", .glo "members", .glo "how_many", .glo "subsets", .glo "bits_of", .glo "divisor", .glo "fraction", .glo "plus", .glo "minus", .glo "times", .glo "under", .glo "warmth_of", .glo "span_of", .glo "touched", .glo "within", .glo "fits_room", .glo "is_state", .glo "ask_state"]
def fa1 : List He.Fa := [.glo "wood_of", .glo "bound_stoves", .glo "free_stoves", .glo "orders_of", .glo "may_fail", .glo "behind_turn", .glo "fires_of", .glo "add_met", .glo "asked_states", .glo "states_by", .glo "open_orders", .glo "ranks_by", .glo "ranks_of", .glo "is_bound", .glo "do_rise", .glo "hold_like", .glo "_law_cell_at", .glo "_law_mix", .glo "_law_part", .glo "_law_scale"]
def fa2 : List He.Fa := [.glo "_law_warm", .glo "_law_rooms", .glo "_law_hold", .glo "_law_state", .glo "_law_no_less", .glo "law", .glo "Hold", .cls "Hold", .mkr "Hold", .glo "Spread", .cls "Spread", .mkr "Spread", .meth "Spread" "span_by", .meth "Spread" "bands_by", .meth "Spread" "led", .meth "Hold" "ask_room", .meth "Hold" "taken_share", .meth "Hold" "put_room", .meth "Hold" "put_flow", .meth "Hold" "put_sky"]
def fa3 : List He.Fa := [.meth "Hold" "put_stove", .meth "Hold" "many", .meth "Hold" "marks", .meth "Hold" "share", .meth "Hold" "sky", .meth "Hold" "stove", .noat "Hold" "most", .noat "Hold" "cap", .noat "Hold" "load", .noat "Hold" "my_marks", .noat "Hold" "my_flows", .noat "Hold" "my_skies", .noat "Hold" "my_stoves", .noat "Spread" "my_hold", .noat "Spread" "my_spans", .free "len", .free "range", .free "abs", .free "max", .free "min"]
def fa4 : List He.Fa := [.free "int", .free "list", .free "tuple", .free "sorted", .free "isinstance", .free "bool", .glo "NOUGHT", .glo "ONE"]
def fa : List He.Fa := fa0 ++ fa1 ++ fa2 ++ fa3 ++ fa4
def ex (K : PySem.W.Frag) : Bool := He.tupB K "NOUGHT" [.int 0, .int 1] && He.tupB K "ONE" [.int 1, .int 1]
structure Prg (K : PySem.W.Frag) (mg : Str → Option Value) : Prop where
  says : He.SaysD fa fn K
  more : ex K = true
  at_ : ∃ h : Heap, K.In h ∧ h.Ns mainGlobals mg
section
variable {K : PySem.W.Frag} {mg : Str → Option Value}
theorem Prg.glo (T : Prg K mg) {x : Str} (i : Nat) (h : fa[i]? = some (.glo x) := by rfl) : mg x = some (.ref (He.ga K x)) := let ⟨_, X, G⟩ := T.at_; He.glo_ok X G (T.says.fact i h)
theorem Prg.fre (T : Prg K mg) {x : Str} (i : Nat) (h : fa[i]? = some (.free x) := by rfl) : mg x = none := let ⟨_, X, G⟩ := T.at_; He.free_ok X G (T.says.fact i h)
theorem t_NOUGHT (T : Prg K mg) (H : Hp) : SqT K H (He.ga K "NOUGHT") [.int 0, .int 1] := He.tupB_ok (vs := [.int 0, .int 1]) (He.ba T.more).1 H
theorem t_ONE (T : Prg K mg) (H : Hp) : SqT K H (He.ga K "ONE") [.int 1, .int 1] := He.tupB_ok (vs := [.int 1, .int 1]) (He.ba T.more).2 H
theorem g_has_room (T : Prg K mg) : mg "has_room" = some (.ref (He.ga K "has_room")) := T.glo (x := "has_room") 0
theorem g_with_room (T : Prg K mg) : mg "with_room" = some (.ref (He.ga K "with_room")) := T.glo (x := "with_room") 1
theorem g_without_room (T : Prg K mg) : mg "without_room" = some (.ref (He.ga K "without_room")) := T.glo (x := "without_room") 2
theorem g_members (T : Prg K mg) : mg "members" = some (.ref (He.ga K "members")) := T.glo (x := "members") 3
theorem g_how_many (T : Prg K mg) : mg "how_many" = some (.ref (He.ga K "how_many")) := T.glo (x := "how_many") 4
theorem g_subsets (T : Prg K mg) : mg "subsets" = some (.ref (He.ga K "subsets")) := T.glo (x := "subsets") 5
theorem g_bits_of (T : Prg K mg) : mg "bits_of" = some (.ref (He.ga K "bits_of")) := T.glo (x := "bits_of") 6
theorem g_divisor (T : Prg K mg) : mg "divisor" = some (.ref (He.ga K "divisor")) := T.glo (x := "divisor") 7
theorem g_fraction (T : Prg K mg) : mg "fraction" = some (.ref (He.ga K "fraction")) := T.glo (x := "fraction") 8
theorem g_plus (T : Prg K mg) : mg "plus" = some (.ref (He.ga K "plus")) := T.glo (x := "plus") 9
theorem g_minus (T : Prg K mg) : mg "minus" = some (.ref (He.ga K "minus")) := T.glo (x := "minus") 10
theorem g_times (T : Prg K mg) : mg "times" = some (.ref (He.ga K "times")) := T.glo (x := "times") 11
theorem g_under (T : Prg K mg) : mg "under" = some (.ref (He.ga K "under")) := T.glo (x := "under") 12
theorem g_warmth_of (T : Prg K mg) : mg "warmth_of" = some (.ref (He.ga K "warmth_of")) := T.glo (x := "warmth_of") 13
theorem g_span_of (T : Prg K mg) : mg "span_of" = some (.ref (He.ga K "span_of")) := T.glo (x := "span_of") 14
theorem g_touched (T : Prg K mg) : mg "touched" = some (.ref (He.ga K "touched")) := T.glo (x := "touched") 15
theorem g_within (T : Prg K mg) : mg "within" = some (.ref (He.ga K "within")) := T.glo (x := "within") 16
theorem g_fits_room (T : Prg K mg) : mg "fits_room" = some (.ref (He.ga K "fits_room")) := T.glo (x := "fits_room") 17
theorem g_is_state (T : Prg K mg) : mg "is_state" = some (.ref (He.ga K "is_state")) := T.glo (x := "is_state") 18
theorem g_ask_state (T : Prg K mg) : mg "ask_state" = some (.ref (He.ga K "ask_state")) := T.glo (x := "ask_state") 19
theorem g_wood_of (T : Prg K mg) : mg "wood_of" = some (.ref (He.ga K "wood_of")) := T.glo (x := "wood_of") 20
theorem g_bound_stoves (T : Prg K mg) : mg "bound_stoves" = some (.ref (He.ga K "bound_stoves")) := T.glo (x := "bound_stoves") 21
theorem g_free_stoves (T : Prg K mg) : mg "free_stoves" = some (.ref (He.ga K "free_stoves")) := T.glo (x := "free_stoves") 22
theorem g_orders_of (T : Prg K mg) : mg "orders_of" = some (.ref (He.ga K "orders_of")) := T.glo (x := "orders_of") 23
theorem g_may_fail (T : Prg K mg) : mg "may_fail" = some (.ref (He.ga K "may_fail")) := T.glo (x := "may_fail") 24
theorem g_behind_turn (T : Prg K mg) : mg "behind_turn" = some (.ref (He.ga K "behind_turn")) := T.glo (x := "behind_turn") 25
theorem g_fires_of (T : Prg K mg) : mg "fires_of" = some (.ref (He.ga K "fires_of")) := T.glo (x := "fires_of") 26
theorem g_add_met (T : Prg K mg) : mg "add_met" = some (.ref (He.ga K "add_met")) := T.glo (x := "add_met") 27
theorem g_asked_states (T : Prg K mg) : mg "asked_states" = some (.ref (He.ga K "asked_states")) := T.glo (x := "asked_states") 28
theorem g_states_by (T : Prg K mg) : mg "states_by" = some (.ref (He.ga K "states_by")) := T.glo (x := "states_by") 29
theorem g_open_orders (T : Prg K mg) : mg "open_orders" = some (.ref (He.ga K "open_orders")) := T.glo (x := "open_orders") 30
theorem g_ranks_by (T : Prg K mg) : mg "ranks_by" = some (.ref (He.ga K "ranks_by")) := T.glo (x := "ranks_by") 31
theorem g_ranks_of (T : Prg K mg) : mg "ranks_of" = some (.ref (He.ga K "ranks_of")) := T.glo (x := "ranks_of") 32
theorem g_is_bound (T : Prg K mg) : mg "is_bound" = some (.ref (He.ga K "is_bound")) := T.glo (x := "is_bound") 33
theorem g_do_rise (T : Prg K mg) : mg "do_rise" = some (.ref (He.ga K "do_rise")) := T.glo (x := "do_rise") 34
theorem g_hold_like (T : Prg K mg) : mg "hold_like" = some (.ref (He.ga K "hold_like")) := T.glo (x := "hold_like") 35
theorem g_law_cell_at (T : Prg K mg) : mg "_law_cell_at" = some (.ref (He.ga K "_law_cell_at")) := T.glo (x := "_law_cell_at") 36
theorem g_law_mix (T : Prg K mg) : mg "_law_mix" = some (.ref (He.ga K "_law_mix")) := T.glo (x := "_law_mix") 37
theorem g_law_part (T : Prg K mg) : mg "_law_part" = some (.ref (He.ga K "_law_part")) := T.glo (x := "_law_part") 38
theorem g_law_scale (T : Prg K mg) : mg "_law_scale" = some (.ref (He.ga K "_law_scale")) := T.glo (x := "_law_scale") 39
theorem g_law_warm (T : Prg K mg) : mg "_law_warm" = some (.ref (He.ga K "_law_warm")) := T.glo (x := "_law_warm") 40
theorem g_law_rooms (T : Prg K mg) : mg "_law_rooms" = some (.ref (He.ga K "_law_rooms")) := T.glo (x := "_law_rooms") 41
theorem g_law_hold (T : Prg K mg) : mg "_law_hold" = some (.ref (He.ga K "_law_hold")) := T.glo (x := "_law_hold") 42
theorem g_law_state (T : Prg K mg) : mg "_law_state" = some (.ref (He.ga K "_law_state")) := T.glo (x := "_law_state") 43
theorem g_law_no_less (T : Prg K mg) : mg "_law_no_less" = some (.ref (He.ga K "_law_no_less")) := T.glo (x := "_law_no_less") 44
theorem g_law (T : Prg K mg) : mg "law" = some (.ref (He.ga K "law")) := T.glo (x := "law") 45
theorem g_Hold (T : Prg K mg) : mg "Hold" = some (.ref (He.ga K "Hold")) := T.glo (x := "Hold") 46
theorem cl_Hold (T : Prg K mg) : Cls K (He.ga K "Hold") := He.cls_ok (T.says.fact 47 (f := .cls "Hold"))
theorem mk_Hold (T : Prg K mg) : Mk K (He.ga K "Hold") (He.ma K (He.ga K "Hold") "__init__") := He.mkr_ok (T.says.fact 48 (f := .mkr "Hold"))
theorem g_Spread (T : Prg K mg) : mg "Spread" = some (.ref (He.ga K "Spread")) := T.glo (x := "Spread") 49
theorem cl_Spread (T : Prg K mg) : Cls K (He.ga K "Spread") := He.cls_ok (T.says.fact 50 (f := .cls "Spread"))
theorem mk_Spread (T : Prg K mg) : Mk K (He.ga K "Spread") (He.ma K (He.ga K "Spread") "__init__") := He.mkr_ok (T.says.fact 51 (f := .mkr "Spread"))
theorem m_Spread_span_by (T : Prg K mg) : Meth K (He.ga K "Spread") "span_by" (He.ma K (He.ga K "Spread") "span_by") := He.meth_ok (T.says.fact 52 (f := .meth "Spread" "span_by"))
theorem m_Spread_bands_by (T : Prg K mg) : Meth K (He.ga K "Spread") "bands_by" (He.ma K (He.ga K "Spread") "bands_by") := He.meth_ok (T.says.fact 53 (f := .meth "Spread" "bands_by"))
theorem m_Spread_led (T : Prg K mg) : Meth K (He.ga K "Spread") "led" (He.ma K (He.ga K "Spread") "led") := He.meth_ok (T.says.fact 54 (f := .meth "Spread" "led"))
theorem m_Hold_ask_room (T : Prg K mg) : Meth K (He.ga K "Hold") "ask_room" (He.ma K (He.ga K "Hold") "ask_room") := He.meth_ok (T.says.fact 55 (f := .meth "Hold" "ask_room"))
theorem m_Hold_taken_share (T : Prg K mg) : Meth K (He.ga K "Hold") "taken_share" (He.ma K (He.ga K "Hold") "taken_share") := He.meth_ok (T.says.fact 56 (f := .meth "Hold" "taken_share"))
theorem m_Hold_put_room (T : Prg K mg) : Meth K (He.ga K "Hold") "put_room" (He.ma K (He.ga K "Hold") "put_room") := He.meth_ok (T.says.fact 57 (f := .meth "Hold" "put_room"))
theorem m_Hold_put_flow (T : Prg K mg) : Meth K (He.ga K "Hold") "put_flow" (He.ma K (He.ga K "Hold") "put_flow") := He.meth_ok (T.says.fact 58 (f := .meth "Hold" "put_flow"))
theorem m_Hold_put_sky (T : Prg K mg) : Meth K (He.ga K "Hold") "put_sky" (He.ma K (He.ga K "Hold") "put_sky") := He.meth_ok (T.says.fact 59 (f := .meth "Hold" "put_sky"))
theorem m_Hold_put_stove (T : Prg K mg) : Meth K (He.ga K "Hold") "put_stove" (He.ma K (He.ga K "Hold") "put_stove") := He.meth_ok (T.says.fact 60 (f := .meth "Hold" "put_stove"))
theorem m_Hold_many (T : Prg K mg) : Meth K (He.ga K "Hold") "many" (He.ma K (He.ga K "Hold") "many") := He.meth_ok (T.says.fact 61 (f := .meth "Hold" "many"))
theorem m_Hold_marks (T : Prg K mg) : Meth K (He.ga K "Hold") "marks" (He.ma K (He.ga K "Hold") "marks") := He.meth_ok (T.says.fact 62 (f := .meth "Hold" "marks"))
theorem m_Hold_share (T : Prg K mg) : Meth K (He.ga K "Hold") "share" (He.ma K (He.ga K "Hold") "share") := He.meth_ok (T.says.fact 63 (f := .meth "Hold" "share"))
theorem m_Hold_sky (T : Prg K mg) : Meth K (He.ga K "Hold") "sky" (He.ma K (He.ga K "Hold") "sky") := He.meth_ok (T.says.fact 64 (f := .meth "Hold" "sky"))
theorem m_Hold_stove (T : Prg K mg) : Meth K (He.ga K "Hold") "stove" (He.ma K (He.ga K "Hold") "stove") := He.meth_ok (T.says.fact 65 (f := .meth "Hold" "stove"))
theorem na_Hold_most (T : Prg K mg) : NoAttr K (He.ga K "Hold") "most" := He.noat_ok (T.says.fact 66 (f := .noat "Hold" "most"))
theorem na_Hold_cap (T : Prg K mg) : NoAttr K (He.ga K "Hold") "cap" := He.noat_ok (T.says.fact 67 (f := .noat "Hold" "cap"))
theorem na_Hold_load (T : Prg K mg) : NoAttr K (He.ga K "Hold") "load" := He.noat_ok (T.says.fact 68 (f := .noat "Hold" "load"))
theorem na_Hold_my_marks (T : Prg K mg) : NoAttr K (He.ga K "Hold") "my_marks" := He.noat_ok (T.says.fact 69 (f := .noat "Hold" "my_marks"))
theorem na_Hold_my_flows (T : Prg K mg) : NoAttr K (He.ga K "Hold") "my_flows" := He.noat_ok (T.says.fact 70 (f := .noat "Hold" "my_flows"))
theorem na_Hold_my_skies (T : Prg K mg) : NoAttr K (He.ga K "Hold") "my_skies" := He.noat_ok (T.says.fact 71 (f := .noat "Hold" "my_skies"))
theorem na_Hold_my_stoves (T : Prg K mg) : NoAttr K (He.ga K "Hold") "my_stoves" := He.noat_ok (T.says.fact 72 (f := .noat "Hold" "my_stoves"))
theorem na_Spread_my_hold (T : Prg K mg) : NoAttr K (He.ga K "Spread") "my_hold" := He.noat_ok (T.says.fact 73 (f := .noat "Spread" "my_hold"))
theorem na_Spread_my_spans (T : Prg K mg) : NoAttr K (He.ga K "Spread") "my_spans" := He.noat_ok (T.says.fact 74 (f := .noat "Spread" "my_spans"))
theorem b_len (T : Prg K mg) : mg "len" = none := T.fre (x := "len") 75
theorem b_range (T : Prg K mg) : mg "range" = none := T.fre (x := "range") 76
theorem b_abs (T : Prg K mg) : mg "abs" = none := T.fre (x := "abs") 77
theorem b_max (T : Prg K mg) : mg "max" = none := T.fre (x := "max") 78
theorem b_min (T : Prg K mg) : mg "min" = none := T.fre (x := "min") 79
theorem b_int (T : Prg K mg) : mg "int" = none := T.fre (x := "int") 80
theorem b_list (T : Prg K mg) : mg "list" = none := T.fre (x := "list") 81
theorem b_tuple (T : Prg K mg) : mg "tuple" = none := T.fre (x := "tuple") 82
theorem b_sorted (T : Prg K mg) : mg "sorted" = none := T.fre (x := "sorted") 83
theorem b_isinstance (T : Prg K mg) : mg "isinstance" = none := T.fre (x := "isinstance") 84
theorem b_bool (T : Prg K mg) : mg "bool" = none := T.fre (x := "bool") 85
theorem g_NOUGHT (T : Prg K mg) : mg "NOUGHT" = some (.ref (He.ga K "NOUGHT")) := T.glo (x := "NOUGHT") 86
theorem g_ONE (T : Prg K mg) : mg "ONE" = some (.ref (He.ga K "ONE")) := T.glo (x := "ONE") 87
theorem F_has_room (T : Prg K mg) : ∃ fd, FunD K "has_room" "has_room" (defArgs s_has_room) (defBody s_has_room) (defScope s_has_room) [] [] (He.ga K "has_room") fd := T.says.def_ 0 (d := d_has_room)
theorem F_with_room (T : Prg K mg) : ∃ fd, FunD K "with_room" "with_room" (defArgs s_with_room) (defBody s_with_room) (defScope s_with_room) [] [] (He.ga K "with_room") fd := T.says.def_ 1 (d := d_with_room)
theorem F_without_room (T : Prg K mg) : ∃ fd, FunD K "without_room" "without_room" (defArgs s_without_room) (defBody s_without_room) (defScope s_without_room) [] [] (He.ga K "without_room") fd := T.says.def_ 2 (d := d_without_room)
theorem F_members (T : Prg K mg) : ∃ fd, FunD K "members" "members" (defArgs s_members) (defBody s_members) (defScope s_members) [] [] (He.ga K "members") fd := T.says.def_ 3 (d := d_members)
theorem F_how_many (T : Prg K mg) : ∃ fd, FunD K "how_many" "how_many" (defArgs s_how_many) (defBody s_how_many) (defScope s_how_many) [] [] (He.ga K "how_many") fd := T.says.def_ 4 (d := d_how_many)
theorem F_subsets (T : Prg K mg) : ∃ fd, FunD K "subsets" "subsets" (defArgs s_subsets) (defBody s_subsets) (defScope s_subsets) [] [] (He.ga K "subsets") fd := T.says.def_ 5 (d := d_subsets)
theorem F_bits_of (T : Prg K mg) : ∃ fd, FunD K "bits_of" "bits_of" (defArgs s_bits_of) (defBody s_bits_of) (defScope s_bits_of) [] [] (He.ga K "bits_of") fd := T.says.def_ 6 (d := d_bits_of)
theorem F_divisor (T : Prg K mg) : ∃ fd, FunD K "divisor" "divisor" (defArgs s_divisor) (defBody s_divisor) (defScope s_divisor) [] [] (He.ga K "divisor") fd := T.says.def_ 7 (d := d_divisor)
theorem F_fraction (T : Prg K mg) : ∃ fd, FunD K "fraction" "fraction" (defArgs s_fraction) (defBody s_fraction) (defScope s_fraction) [] [] (He.ga K "fraction") fd := T.says.def_ 8 (d := d_fraction)
theorem F_plus (T : Prg K mg) : ∃ fd, FunD K "plus" "plus" (defArgs s_plus) (defBody s_plus) (defScope s_plus) [] [] (He.ga K "plus") fd := T.says.def_ 9 (d := d_plus)
theorem F_minus (T : Prg K mg) : ∃ fd, FunD K "minus" "minus" (defArgs s_minus) (defBody s_minus) (defScope s_minus) [] [] (He.ga K "minus") fd := T.says.def_ 10 (d := d_minus)
theorem F_times (T : Prg K mg) : ∃ fd, FunD K "times" "times" (defArgs s_times) (defBody s_times) (defScope s_times) [] [] (He.ga K "times") fd := T.says.def_ 11 (d := d_times)
theorem F_under (T : Prg K mg) : ∃ fd, FunD K "under" "under" (defArgs s_under) (defBody s_under) (defScope s_under) [] [] (He.ga K "under") fd := T.says.def_ 12 (d := d_under)
theorem F_warmth_of (T : Prg K mg) : ∃ fd, FunD K "warmth_of" "warmth_of" (defArgs s_warmth_of) (defBody s_warmth_of) (defScope s_warmth_of) [] [] (He.ga K "warmth_of") fd := T.says.def_ 13 (d := d_warmth_of)
theorem F_span_of (T : Prg K mg) : ∃ fd, FunD K "span_of" "span_of" (defArgs s_span_of) (defBody s_span_of) (defScope s_span_of) [] [] (He.ga K "span_of") fd := T.says.def_ 14 (d := d_span_of)
theorem F_touched (T : Prg K mg) : ∃ fd, FunD K "touched" "touched" (defArgs s_touched) (defBody s_touched) (defScope s_touched) [] [] (He.ga K "touched") fd := T.says.def_ 15 (d := d_touched)
theorem F_within (T : Prg K mg) : ∃ fd, FunD K "within" "within" (defArgs s_within) (defBody s_within) (defScope s_within) [] [] (He.ga K "within") fd := T.says.def_ 16 (d := d_within)
theorem F_fits_room (T : Prg K mg) : ∃ fd, FunD K "fits_room" "fits_room" (defArgs s_fits_room) (defBody s_fits_room) (defScope s_fits_room) [] [] (He.ga K "fits_room") fd := T.says.def_ 17 (d := d_fits_room)
theorem F_is_state (T : Prg K mg) : ∃ fd, FunD K "is_state" "is_state" (defArgs s_is_state) (defBody s_is_state) (defScope s_is_state) [] [] (He.ga K "is_state") fd := T.says.def_ 18 (d := d_is_state)
theorem F_ask_state (T : Prg K mg) : ∃ fd, FunD K "ask_state" "ask_state" (defArgs s_ask_state) (defBody s_ask_state) (defScope s_ask_state) [] [] (He.ga K "ask_state") fd := T.says.def_ 19 (d := d_ask_state)
theorem F_wood_of (T : Prg K mg) : ∃ fd, FunD K "wood_of" "wood_of" (defArgs s_wood_of) (defBody s_wood_of) (defScope s_wood_of) [] [] (He.ga K "wood_of") fd := T.says.def_ 20 (d := d_wood_of)
theorem F_bound_stoves (T : Prg K mg) : ∃ fd, FunD K "bound_stoves" "bound_stoves" (defArgs s_bound_stoves) (defBody s_bound_stoves) (defScope s_bound_stoves) [] [] (He.ga K "bound_stoves") fd := T.says.def_ 21 (d := d_bound_stoves)
theorem F_free_stoves (T : Prg K mg) : ∃ fd, FunD K "free_stoves" "free_stoves" (defArgs s_free_stoves) (defBody s_free_stoves) (defScope s_free_stoves) [] [] (He.ga K "free_stoves") fd := T.says.def_ 22 (d := d_free_stoves)
theorem F_orders_of (T : Prg K mg) : ∃ fd, FunD K "orders_of" "orders_of" (defArgs s_orders_of) (defBody s_orders_of) (defScope s_orders_of) [] [] (He.ga K "orders_of") fd := T.says.def_ 23 (d := d_orders_of)
theorem F_may_fail (T : Prg K mg) : ∃ fd, FunD K "may_fail" "may_fail" (defArgs s_may_fail) (defBody s_may_fail) (defScope s_may_fail) [] [] (He.ga K "may_fail") fd := T.says.def_ 24 (d := d_may_fail)
theorem F_behind_turn (T : Prg K mg) : ∃ fd, FunD K "behind_turn" "behind_turn" (defArgs s_behind_turn) (defBody s_behind_turn) (defScope s_behind_turn) [] [] (He.ga K "behind_turn") fd := T.says.def_ 25 (d := d_behind_turn)
theorem F_Spread_init (T : Prg K mg) : ∃ fd, FunD K "__init__" "Spread.__init__" (defArgs s_Spread_init) (defBody s_Spread_init) (defScope s_Spread_init) [] [] (He.ma K (He.ga K "Spread") "__init__") fd := T.says.def_ 26 (d := d_Spread_init)
theorem F_Spread_span_by (T : Prg K mg) : ∃ fd, FunD K "span_by" "Spread.span_by" (defArgs s_Spread_span_by) (defBody s_Spread_span_by) (defScope s_Spread_span_by) [] [] (He.ma K (He.ga K "Spread") "span_by") fd := T.says.def_ 27 (d := d_Spread_span_by)
theorem F_Spread_bands_by (T : Prg K mg) : ∃ fd, FunD K "bands_by" "Spread.bands_by" (defArgs s_Spread_bands_by) (defBody s_Spread_bands_by) (defScope s_Spread_bands_by) [] [] (He.ma K (He.ga K "Spread") "bands_by") fd := T.says.def_ 28 (d := d_Spread_bands_by)
theorem F_Spread_led (T : Prg K mg) : ∃ fd, FunD K "led" "Spread.led" (defArgs s_Spread_led) (defBody s_Spread_led) (defScope s_Spread_led) [] [] (He.ma K (He.ga K "Spread") "led") fd := T.says.def_ 29 (d := d_Spread_led)
theorem F_fires_of (T : Prg K mg) : ∃ fd, FunD K "fires_of" "fires_of" (defArgs s_fires_of) (defBody s_fires_of) (defScope s_fires_of) [] [] (He.ga K "fires_of") fd := T.says.def_ 30 (d := d_fires_of)
theorem F_add_met (T : Prg K mg) : ∃ fd, FunD K "add_met" "add_met" (defArgs s_add_met) (defBody s_add_met) (defScope s_add_met) [] [] (He.ga K "add_met") fd := T.says.def_ 31 (d := d_add_met)
theorem F_asked_states (T : Prg K mg) : ∃ fd, FunD K "asked_states" "asked_states" (defArgs s_asked_states) (defBody s_asked_states) (defScope s_asked_states) [] [] (He.ga K "asked_states") fd := T.says.def_ 32 (d := d_asked_states)
theorem F_states_by (T : Prg K mg) : ∃ fd, FunD K "states_by" "states_by" (defArgs s_states_by) (defBody s_states_by) (defScope s_states_by) [] [] (He.ga K "states_by") fd := T.says.def_ 33 (d := d_states_by)
theorem F_open_orders (T : Prg K mg) : ∃ fd, FunD K "open_orders" "open_orders" (defArgs s_open_orders) (defBody s_open_orders) (defScope s_open_orders) [] [] (He.ga K "open_orders") fd := T.says.def_ 34 (d := d_open_orders)
theorem F_ranks_by (T : Prg K mg) : ∃ fd, FunD K "ranks_by" "ranks_by" (defArgs s_ranks_by) (defBody s_ranks_by) (defScope s_ranks_by) [] [] (He.ga K "ranks_by") fd := T.says.def_ 35 (d := d_ranks_by)
theorem F_ranks_of (T : Prg K mg) : ∃ fd, FunD K "ranks_of" "ranks_of" (defArgs s_ranks_of) (defBody s_ranks_of) (defScope s_ranks_of) [V.int 2000] [] (He.ga K "ranks_of") fd := T.says.def_ 36 (d := d_ranks_of)
theorem F_is_bound (T : Prg K mg) : ∃ fd, FunD K "is_bound" "is_bound" (defArgs s_is_bound) (defBody s_is_bound) (defScope s_is_bound) [] [] (He.ga K "is_bound") fd := T.says.def_ 37 (d := d_is_bound)
theorem F_do_rise (T : Prg K mg) : ∃ fd, FunD K "do_rise" "do_rise" (defArgs s_do_rise) (defBody s_do_rise) (defScope s_do_rise) [] [] (He.ga K "do_rise") fd := T.says.def_ 38 (d := d_do_rise)
theorem F_Hold_init (T : Prg K mg) : ∃ fd, FunD K "__init__" "Hold.__init__" (defArgs s_Hold_init) (defBody s_Hold_init) (defScope s_Hold_init) [V.int 4, V.int 0, V.int 0] [] (He.ma K (He.ga K "Hold") "__init__") fd := T.says.def_ 39 (d := d_Hold_init)
theorem F_Hold_ask_room (T : Prg K mg) : ∃ fd, FunD K "ask_room" "Hold.ask_room" (defArgs s_Hold_ask_room) (defBody s_Hold_ask_room) (defScope s_Hold_ask_room) [] [] (He.ma K (He.ga K "Hold") "ask_room") fd := T.says.def_ 40 (d := d_Hold_ask_room)
theorem F_Hold_taken_share (T : Prg K mg) : ∃ fd, FunD K "taken_share" "Hold.taken_share" (defArgs s_Hold_taken_share) (defBody s_Hold_taken_share) (defScope s_Hold_taken_share) [] [] (He.ma K (He.ga K "Hold") "taken_share") fd := T.says.def_ 41 (d := d_Hold_taken_share)
theorem F_Hold_put_room (T : Prg K mg) : ∃ fd, FunD K "put_room" "Hold.put_room" (defArgs s_Hold_put_room) (defBody s_Hold_put_room) (defScope s_Hold_put_room) [] [] (He.ma K (He.ga K "Hold") "put_room") fd := T.says.def_ 42 (d := d_Hold_put_room)
theorem F_Hold_put_flow (T : Prg K mg) : ∃ fd, FunD K "put_flow" "Hold.put_flow" (defArgs s_Hold_put_flow) (defBody s_Hold_put_flow) (defScope s_Hold_put_flow) [] [] (He.ma K (He.ga K "Hold") "put_flow") fd := T.says.def_ 43 (d := d_Hold_put_flow)
theorem F_Hold_put_sky (T : Prg K mg) : ∃ fd, FunD K "put_sky" "Hold.put_sky" (defArgs s_Hold_put_sky) (defBody s_Hold_put_sky) (defScope s_Hold_put_sky) [] [] (He.ma K (He.ga K "Hold") "put_sky") fd := T.says.def_ 44 (d := d_Hold_put_sky)
theorem F_Hold_put_stove (T : Prg K mg) : ∃ fd, FunD K "put_stove" "Hold.put_stove" (defArgs s_Hold_put_stove) (defBody s_Hold_put_stove) (defScope s_Hold_put_stove) [V.int 0, V.int 0, V.int 0] [] (He.ma K (He.ga K "Hold") "put_stove") fd := T.says.def_ 45 (d := d_Hold_put_stove)
theorem F_Hold_many (T : Prg K mg) : ∃ fd, FunD K "many" "Hold.many" (defArgs s_Hold_many) (defBody s_Hold_many) (defScope s_Hold_many) [] [] (He.ma K (He.ga K "Hold") "many") fd := T.says.def_ 46 (d := d_Hold_many)
theorem F_Hold_marks (T : Prg K mg) : ∃ fd, FunD K "marks" "Hold.marks" (defArgs s_Hold_marks) (defBody s_Hold_marks) (defScope s_Hold_marks) [] [] (He.ma K (He.ga K "Hold") "marks") fd := T.says.def_ 47 (d := d_Hold_marks)
theorem F_Hold_share (T : Prg K mg) : ∃ fd, FunD K "share" "Hold.share" (defArgs s_Hold_share) (defBody s_Hold_share) (defScope s_Hold_share) [] [] (He.ma K (He.ga K "Hold") "share") fd := T.says.def_ 48 (d := d_Hold_share)
theorem F_Hold_sky (T : Prg K mg) : ∃ fd, FunD K "sky" "Hold.sky" (defArgs s_Hold_sky) (defBody s_Hold_sky) (defScope s_Hold_sky) [] [] (He.ma K (He.ga K "Hold") "sky") fd := T.says.def_ 49 (d := d_Hold_sky)
theorem F_Hold_stove (T : Prg K mg) : ∃ fd, FunD K "stove" "Hold.stove" (defArgs s_Hold_stove) (defBody s_Hold_stove) (defScope s_Hold_stove) [] [] (He.ma K (He.ga K "Hold") "stove") fd := T.says.def_ 50 (d := d_Hold_stove)
theorem F_hold_like (T : Prg K mg) : ∃ fd, FunD K "hold_like" "hold_like" (defArgs s_hold_like) (defBody s_hold_like) (defScope s_hold_like) [V.non, V.non, V.non] [] (He.ga K "hold_like") fd := T.says.def_ 51 (d := d_hold_like)
theorem F_law_cell_at (T : Prg K mg) : ∃ fd, FunD K "_law_cell_at" "_law_cell_at" (defArgs s_law_cell_at) (defBody s_law_cell_at) (defScope s_law_cell_at) [] [] (He.ga K "_law_cell_at") fd := T.says.def_ 52 (d := d_law_cell_at)
theorem F_law_mix (T : Prg K mg) : ∃ fd, FunD K "_law_mix" "_law_mix" (defArgs s_law_mix) (defBody s_law_mix) (defScope s_law_mix) [] [] (He.ga K "_law_mix") fd := T.says.def_ 53 (d := d_law_mix)
theorem F_law_part (T : Prg K mg) : ∃ fd, FunD K "_law_part" "_law_part" (defArgs s_law_part) (defBody s_law_part) (defScope s_law_part) [] [] (He.ga K "_law_part") fd := T.says.def_ 54 (d := d_law_part)
theorem F_law_scale (T : Prg K mg) : ∃ fd, FunD K "_law_scale" "_law_scale" (defArgs s_law_scale) (defBody s_law_scale) (defScope s_law_scale) [] [] (He.ga K "_law_scale") fd := T.says.def_ 55 (d := d_law_scale)
theorem F_law_warm (T : Prg K mg) : ∃ fd, FunD K "_law_warm" "_law_warm" (defArgs s_law_warm) (defBody s_law_warm) (defScope s_law_warm) [] [] (He.ga K "_law_warm") fd := T.says.def_ 56 (d := d_law_warm)
theorem F_law_rooms (T : Prg K mg) : ∃ fd, FunD K "_law_rooms" "_law_rooms" (defArgs s_law_rooms) (defBody s_law_rooms) (defScope s_law_rooms) [] [] (He.ga K "_law_rooms") fd := T.says.def_ 57 (d := d_law_rooms)
theorem F_law_hold (T : Prg K mg) : ∃ fd, FunD K "_law_hold" "_law_hold" (defArgs s_law_hold) (defBody s_law_hold) (defScope s_law_hold) [] [] (He.ga K "_law_hold") fd := T.says.def_ 58 (d := d_law_hold)
theorem F_law_state (T : Prg K mg) : ∃ fd, FunD K "_law_state" "_law_state" (defArgs s_law_state) (defBody s_law_state) (defScope s_law_state) [] [] (He.ga K "_law_state") fd := T.says.def_ 59 (d := d_law_state)
theorem F_law_no_less (T : Prg K mg) : ∃ fd, FunD K "_law_no_less" "_law_no_less" (defArgs s_law_no_less) (defBody s_law_no_less) (defScope s_law_no_less) [] [] (He.ga K "_law_no_less") fd := T.says.def_ 60 (d := d_law_no_less)
theorem F_law (T : Prg K mg) : ∃ fd, FunD K "law" "law" (defArgs s_law) (defBody s_law) (defScope s_law) [] [] (He.ga K "law") fd := T.says.def_ 61 (d := d_law)
end
end SK
set_option maxRecDepth 100000
set_option maxHeartbeats 0
namespace SK
open PySem PySem.Spec PyProof.Rows L2
/-! ### the head: one run of the top in the kernel -/
abbrev AlS : Type := He.AlD × Bool
def obsS (K : PySem.W.Frag) : AlS := (He.obsD fa fn K, ex K)
def obsSG (g : Addr → Option Obj) : AlS := obsS (He.frG g (He.asD g 4))
def hk : PySem.W.Hook where
  α := AlS
  obs := fun s => obsSG s.heap.get?
  val := fun _ => (He.valD fn, true)
  says := fun _ h => ∃ K : PySem.W.Frag, K.In h ∧ He.SaysD fa fn K ∧ ex K = true
  of := fun _ _ e => ⟨_, He.frG_in, congrArg (fun z : AlS => z.1) e, congrArg (fun z : AlS => z.2) e⟩
  keeps := fun _ _ _ ⟨K, hK, c⟩ k => ⟨K, PySem.W.Frag.In.keeps hK k, c⟩
def ob (s : PySem.W.SharedT) : AlS := obsSG (HandSHeadRun.getT s)
theorem ob_eq (s : PySem.W.SharedT) : ob s = hk.obs s.abs := by
  have e : HandSHeadRun.getT s = s.abs.heap.get? := funext (HandSHeadRun.getT_eq s)
  show obsSG (HandSHeadRun.getT s) = obsSG s.abs.heap.get?
  rw [e]
abbrev R : PySem.W.OpenRow := PySem.W.OpenLaw.row PySem.Challenge.rw_stoke_k64_whole_more_never_hurts

def loose0 : List Str := ["_wall", "has_room", "with_room", "without_room", "members", "how_many", "subsets", "bits_of", "StokeError", "NoNumber", "NoHold", "Full", "NoMarks", "TooMany", "NoSky", "NoStove", "NoState", "NoRoom", "NoShare", "divisor", "fraction", "plus", "minus", "times", "under", "warmth_of", "span_of", "touched", "within", "fits_room"]
def loose1 : List Str := ["is_state", "ask_state", "wood_of", "bound_stoves", "free_stoves", "orders_of", "may_fail", "behind_turn", "Spread", "fires_of", "add_met", "asked_states", "states_by", "open_orders", "ranks_by", "ranks_of", "NOUGHT", "ONE", "is_bound", "do_rise", "Hold", "hold_like", "_law_cell_at", "_law_mix", "_law_part", "_law_scale", "_law_warm", "_law_rooms", "_law_hold", "_law_state"]
def loose2 : List Str := ["_law_no_less"]
def loose : List Str := loose0 ++ loose1 ++ loose2
theorem run (w : World) : HandSHeadRun.RunEq R (PySem.W.view R.prog [70]) hk ob 12000 loose w := by
  intro os
  kernel_rfl
end SK
set_option maxRecDepth 100000
set_option maxHeartbeats 4000000
/-! The same rules with their small premises filled in. -/
namespace SK
open PySem L2 PyProof.Rows
section
variable {X : Cx} {ρ : Rho} {M : Fin} {a b e o : Expr} {es : List Expr} {d : D} {ds : List D} {st body th el : List Stmt} {pos p px apos : Pos} {x m : Str} {j k : Nat} {ps : List Str} {S : List D → D → Prop}
theorem nm (i : Nat) (h : ρ[i]? = some (some (.val d)) := by rfl) (hN : X.N[i]? = some x := by rfl) (hv : Vis X.env.scope x := by first | exact Or.inl rfl | exact Or.inr (Or.inl rfl) | exact Or.inr (Or.inr rfl)) (hd : (x == ("__debug__" : Str)) = false := by decide)
    (hcd : (x == ("__classdict__" : Str)) = false := by decide) : DE X ρ (.Name x pos) d := de_name h hN hv hd hcd
theorem asg (i : Nat) (nd : X.N.Nodup) (he : DE X ρ e d) (rest : DS X (ρ.set i (some (.val d))) st M) (hi : X.N[i]? = some x := by rfl) (hx : Loc X.env.scope x := by first | exact Or.inl rfl | exact Or.inr rfl)
    (hs : swapsWith e (some (.Name x p)) pos.line X.env = pure false := by rfl) (hf : X.fn x = true ∨ X.env.scope.names.lookup x = some .local := by first | exact .inl rfl | exact .inr rfl) : DS X ρ (.Assign [.Name x p] e pos :: st) M := ds_asg i he rest nd hi hx hs hf
theorem own (i : Nat) (nd : X.N.Nodup) (he : DO X ρ e ds) (rest : DS X (ρ.set i (some (.own ds))) st M) (hi : X.N[i]? = some x := by rfl) (hx : Loc X.env.scope x := by first | exact Or.inl rfl | exact Or.inr rfl)
    (hs : swapsWith e (some (.Name x p)) pos.line X.env = pure false := by rfl) (hf : X.fn x = true ∨ X.env.scope.names.lookup x = some .local := by first | exact .inl rfl | exact .inr rfl) (hj : noJel ρ = true := by rfl) : DS X ρ (.Assign [.Name x p] e pos :: st) M := ds_own i he rest nd hi hx hs hf (hj := hj)
theorem set_self {α : Type} {l : List α} {i : Nat} {a : α} (h : l[i]? = some a) : l.set i a = l := by
  refine List.ext_getElem? fun k => ?_
  rw [List.getElem?_set]
  by_cases z : i = k
  · subst z
    rw [if_pos rfl, if_pos (List.getElem?_eq_some_iff.mp h).1, h]
  · rw [if_neg z]
/-- if c: x = e, told by the value that x has behind it -/
theorem ifset {c : Expr} {cc : Bool} {ipos : Pos} {d0 d1 : D} (i : Nat) (nd : X.N.Nodup) (hc : DT X ρ c cc) (he : cc = true → DE X ρ e d1) (hd : (if cc = true then d1 else d0) = d) (rest : DS X (ρ.set i (some (.val d))) st M) (h0 : ρ[i]? = some (some (.val d0)) := by rfl) (hi : X.N[i]? = some x := by rfl) (hx : Loc X.env.scope x := by first | exact Or.inl rfl | exact Or.inr rfl)
    (hs : swapsWith e (some (.Name x p)) pos.line X.env = pure false := by rfl) (hf : X.fn x = true ∨ X.env.scope.names.lookup x = some .local := by first | exact .inl rfl | exact .inr rfl) : DS X ρ (.If c [.Assign [.Name x p] e pos] [] ipos :: st) M := by
  cases cc with
  | true =>
    have hd' : d1 = d := hd
    subst hd'
    exact ds_if hc (fun _ => ds_asg i (he rfl) (ds_nil rest) nd hi hx hs hf) fun z => by cases z
  | false =>
    have hd' : d0 = d := hd
    subst hd'
    rw [set_self h0] at rest
    exact ds_if hc (fun z => by cases z) fun _ => ds_nil rest
theorem app (i : Nat) (he : DE X ρ e d) (hl : ds.length < sizeLine) (rest : DS X (ρ.set i (some (.own (ds ++ [d])))) st M) {cpos : Pos} (h : ρ[i]? = some (some (.own ds)) := by rfl) (hN : X.N[i]? = some x := by rfl)
    (hv : Vis X.env.scope x := by first | exact Or.inl rfl | exact Or.inr (Or.inl rfl) | exact Or.inr (Or.inr rfl))
    (hpe : PE X (.Call (.Attribute (.Name x px) "append" apos) [e] [] cpos) (tBM X.K "list" rAppend (tVar i) (tCons (teOf X e) tNil)) := by exact pe_bm PySem.F.plainAttrs_list PySem.F.slot_list_append PySem.F.type_list_append mt_append (pv _) (pa_cons pe_of pa_nil))
    (hs : swapsWith (.Call (.Attribute (.Name x px) "append" apos) [e] [] cpos) none pos.line X.env = pure false := by rfl) : DS X ρ (.Expr (.Call (.Attribute (.Name x px) "append" apos) [e] [] cpos) pos :: st) M := ds_append i h hN hv he hl rest hpe hs
theorem ext (i : Nat) {es : List D} (he : DE X ρ e (.lst es)) (hl : ds.length + es.length ≤ sizeLine) (rest : DS X (ρ.set i (some (.own (ds ++ es)))) st M) {cpos : Pos} (h : ρ[i]? = some (some (.own ds)) := by rfl) (hN : X.N[i]? = some x := by rfl)
    (hv : Vis X.env.scope x := by first | exact Or.inl rfl | exact Or.inr (Or.inl rfl) | exact Or.inr (Or.inr rfl))
    (hpe : PE X (.Call (.Attribute (.Name x px) "extend" apos) [e] [] cpos) (tBM X.K "list" rExtend (tVar i) (tCons (teOf X e) tNil)) := by exact pe_bm PySem.F.plainAttrs_list PySem.F.slot_list_extend PySem.F.type_list_extend mt_extend (pv _) (pa_cons pe_of pa_nil))
    (hs : swapsWith (.Call (.Attribute (.Name x px) "extend" apos) [e] [] cpos) none pos.line X.env = pure false := by rfl) : DS X ρ (.Expr (.Call (.Attribute (.Name x px) "extend" apos) [e] [] cpos) pos :: st) M := ds_extend i h hN hv he hl rest hpe hs
theorem frz (i : Nat) (h : DS X (ρ.set i (some (.val (.lst ds)))) st M) (hi : ρ[i]? = some (some (.own ds)) := by rfl) : DS X ρ st M := ds_freeze i hi h
theorem call (c : Cal X.prog X.w X.K X.mg X.base k x ps [] (spD X.K S)) (hr : Room k X.A) (ha : DA X ρ (e :: es) ds) (hS : S ds d) (hg : Gl X x := by rfl) (hdb : (x == ("__debug__" : Str)) = false := by decide)
    (he : starEach (e :: es) X.env = (false, eval e X.env) :: starEach es X.env := by rfl) (hpl : (backTo pos (starEach es X.env)).any (·.1) = false := by rfl) : DE X ρ (.Call (.Name x p) (e :: es) [] pos) d := de_call' c hr hg ha hS hdb he hpl
theorem len_L (hm : X.mg "len" = none) (h : DE X ρ e (.lst ds)) (hg : Gl X "len" := by rfl) (hs : starEach [e] X.env = (false, eval e X.env) :: starEach [] X.env := by rfl) : DE X ρ (.Call (.Name "len" p) [e] [] pos) (.int ds.length) := de_callB call_lenA hg hm PySem.boot_len (da_one h hs) dc_lenL (he := hs)
theorem len_S (hm : X.mg "len" = none) (h : DE X ρ e (.seq ds)) (hg : Gl X "len" := by rfl) (hs : starEach [e] X.env = (false, eval e X.env) :: starEach [] X.env := by rfl) : DE X ρ (.Call (.Name "len" p) [e] [] pos) (.int ds.length) := de_callB call_lenA hg hm PySem.boot_len (da_one h hs) dc_lenS (he := hs)
theorem len_T (hm : X.mg "len" = none) (h : DE X ρ e (.tup ds)) (hg : Gl X "len" := by rfl) (hs : starEach [e] X.env = (false, eval e X.env) :: starEach [] X.env := by rfl) : DE X ρ (.Call (.Name "len" p) [e] [] pos) (.int ds.length) := de_callB call_lenA hg hm PySem.boot_len (da_one h hs) dc_lenT (he := hs)
theorem len_O (i : Nat) (hm : X.mg "len" = none) {p' : Pos} (h : ρ[i]? = some (some (.own ds)) := by rfl) (hN : X.N[i]? = some x := by rfl) (hv : Vis X.env.scope x := by first | exact Or.inl rfl | exact Or.inr (Or.inl rfl) | exact Or.inr (Or.inr rfl)) (hg : Gl X "len" := by rfl)
    (hs : starEach [.Name x p'] X.env = (false, eval (.Name x p') X.env) :: starEach [] X.env := by rfl) (hd : (x == ("__debug__" : Str)) = false := by decide) (hcd : (x == ("__classdict__" : Str)) = false := by decide) (hpl : (backTo pos (starEach [] X.env)).any (·.1) = false := by rfl) :
    DE X ρ (.Call (.Name "len" p) [.Name x p'] [] pos) (.int ds.length) := de_lenO h hN hv hg hm hs hd hcd hpl
theorem tup_O (i : Nat) (hm : X.mg "tuple" = none) {p' : Pos} (h : ρ[i]? = some (some (.own ds)) := by rfl) (hN : X.N[i]? = some x := by rfl) (hv : Vis X.env.scope x := by first | exact Or.inl rfl | exact Or.inr (Or.inl rfl) | exact Or.inr (Or.inr rfl)) (hg : Gl X "tuple" := by rfl)
    (hs : starEach [.Name x p'] X.env = (false, eval (.Name x p') X.env) :: starEach [] X.env := by rfl) (hd : (x == ("__debug__" : Str)) = false := by decide) (hcd : (x == ("__classdict__" : Str)) = false := by decide) :
    DE X ρ (.Call (.Name "tuple" p) [.Name x p'] [] pos) (.tup ds) := de_tupO h hN hv hg hm PyProof.Rows.boot_tuple hs hd hcd
theorem ix_O (i : Nat) {p' : Pos} {j : Int} (hb : DE X ρ b (.int j)) (hj : atI ds j = some d) (h : ρ[i]? = some (some (.own ds)) := by rfl) (hN : X.N[i]? = some x := by rfl) (hv : Vis X.env.scope x := by first | exact Or.inl rfl | exact Or.inr (Or.inl rfl) | exact Or.inr (Or.inr rfl))
    (hs : PlainIx b := by intro _ _; rfl) (hd : (x == ("__debug__" : Str)) = false := by decide) (hcd : (x == ("__classdict__" : Str)) = false := by decide) : DE X ρ (.Subscript (.Name x p') b pos) d := de_ixO h hN hv hb hj hs hd hcd
theorem abs_ {n : Int} (hm : X.mg "abs" = none) (h : DE X ρ e (.int n)) (hg : Gl X "abs" := by rfl) (hs : starEach [e] X.env = (false, eval e X.env) :: starEach [] X.env := by rfl) : DE X ρ (.Call (.Name "abs" p) [e] [] pos) (.int (n.natAbs : Nat)) :=
  de_is (de_callB call_absA hg hm PyProof.Rows.boot_abs (da_one h hs) dc_abs (he := hs)) (by congr 1; split <;> omega)
theorem max_ {m n : Int} (hm : X.mg "max" = none) (h : DE X ρ a (.int m)) (h' : DE X ρ b (.int n)) (hg : Gl X "max" := by rfl) (hc : X.calm = true := by rfl) (hs : starEach [a, b] X.env = (false, eval a X.env) :: starEach [b] X.env := by rfl) (hs2 : starEach [b] X.env = (false, eval b X.env) :: starEach [] X.env := by rfl) : DE X ρ (.Call (.Name "max" p) [a, b] [] pos) (.int (max m n)) :=
  de_callB (call_maxA hc) hg hm PyProof.Rows.boot_max (da_cons h (da_one h' hs2) hs) dc_max (he := hs) (hpl := by rw [hs2]; rfl)
theorem min_ {m n : Int} (hm : X.mg "min" = none) (h : DE X ρ a (.int m)) (h' : DE X ρ b (.int n)) (hg : Gl X "min" := by rfl) (hc : X.calm = true := by rfl) (hs : starEach [a, b] X.env = (false, eval a X.env) :: starEach [b] X.env := by rfl) (hs2 : starEach [b] X.env = (false, eval b X.env) :: starEach [] X.env := by rfl) : DE X ρ (.Call (.Name "min" p) [a, b] [] pos) (.int (min m n)) :=
  de_callB (call_minA hc) hg hm PyProof.Rows.boot_min (da_cons h (da_one h' hs2) hs) dc_min (he := hs) (hpl := by rw [hs2]; rfl)
theorem int_B {c : Bool} (hm : X.mg "int" = none) (h : DE X ρ e (.bl c)) (hg : Gl X "int" := by rfl) (hs : starEach [e] X.env = (false, eval e X.env) :: starEach [] X.env := by rfl) : DE X ρ (.Call (.Name "int" p) [e] [] pos) (.int (if c then 1 else 0)) :=
  de_callTy call_intA hg hm PyProof.Rows.boot_int (da_one h hs) dc_intB (he := hs)
theorem list_L (hm : X.mg "list" = none) (h : DE X ρ e (.lst ds)) (hg : Gl X "list" := by rfl) (hs : starEach [e] X.env = (false, eval e X.env) :: starEach [] X.env := by rfl) : DE X ρ (.Call (.Name "list" p) [e] [] pos) (.lst ds) :=
  de_callTy call_listA hg hm PyProof.Rows.boot_list (da_one h hs) dc_list (he := hs)
theorem sorted_L {ns ms : List Int} (hm : X.mg "sorted" = none) (h : DE X ρ e (.lst (ns.map D.int))) (hs' : Sorts ns ms) (hg : Gl X "sorted" := by rfl) (hs : starEach [e] X.env = (false, eval e X.env) :: starEach [] X.env := by rfl) : DE X ρ (.Call (.Name "sorted" p) [e] [] pos) (.lst (ms.map D.int)) :=
  de_callB cr_sortedI hg hm PyProof.Rows.boot_sorted (da_one h hs) (dc_sorted hs') (he := hs)
theorem forR {n : Int} {rp rpos : Pos} (j : Nat) (nd : X.N.Nodup) (hmr : X.mg "range" = none) (he : DE X ρ e (.int n)) (hn : -(2 ^ 62) ≤ n ∧ n < 2 ^ 62) (Inv : Nat → Rho → Prop) (h0 : Inv 0 ρ)
    (hs : ∀ i ρ', i < n.toNat → Inv i ρ' → DS X (ρ'.set j (some (.val (.int (i : Int))))) body ⟨Inv (i + 1), M.rt, M.at_⟩) (hd : ∀ ρ', Inv n.toNat ρ' → DS X ρ' st M) (hp : PassesOwn (model X.prog X.w) X.A X.env X.xe := by exact PassesOwn.never)
    (hc : X.calm = true := by rfl) (hj : X.N[j]? = some x := by rfl) (hx : Loc X.env.scope x := by first | exact Or.inl rfl | exact Or.inr rfl) (hgr : Gl X "range" := by rfl)
    (hs1 : starEach [e] X.env = [(false, eval e X.env)] := by rfl) (hf : X.fn x = true ∨ X.env.scope.names.lookup x = some .local := by first | exact .inl rfl | exact .inr rfl) (hs2 : ∀ x, foldedSetIterable (.Call (.Name "range" rp) [e] [] rpos) X.env x = pure x := by intro _; rfl) :
    DS X ρ (.For (.Name x p) (.Call (.Name "range" rp) [e] [] rpos) body [] pos :: st) M := ds_forR j hc hp nd hj hx hgr hmr he hn Inv h0 hs hd hs1 hf hs2
theorem forL {α : Type} (l : List α) (g : α → D) (j : Nat) (nd : X.N.Nodup) (he : DE X ρ e (.lst (l.map g))) (Inv : Nat → Rho → Prop) (h0 : Inv 0 ρ) (hs : ∀ i a ρ', l[i]? = some a → Inv i ρ' → DS X (ρ'.set j (some (.val (g a)))) body ⟨Inv (i + 1), M.rt, M.at_⟩) (hd : ∀ ρ', Inv l.length ρ' → DS X ρ' st M)
    (hp : PassesOwn (model X.prog X.w) X.A X.env X.xe := by exact PassesOwn.never) (hc : X.calm = true := by rfl) (hj : X.N[j]? = some x := by rfl) (hx : Loc X.env.scope x := by first | exact Or.inl rfl | exact Or.inr rfl)
    (hf : X.fn x = true ∨ X.env.scope.names.lookup x = some .local := by first | exact .inl rfl | exact .inr rfl) (hs2 : ∀ x, foldedSetIterable e X.env x = pure x := by intro _; rfl) :
    DS X ρ (.For (.Name x p) e body [] pos :: st) M := ds_forL j hc hp nd hj hx he Inv h0 (fun i d ρ' hd iv => by
      rw [List.getElem?_map] at hd
      obtain ⟨a, ha, rfl⟩ := Option.map_eq_some_iff.mp hd
      exact hs i a ρ' ha iv) (fun ρ' iv => hd ρ' (by rw [List.length_map] at iv; exact iv)) hf hs2
theorem forT (j : Nat) (nd : X.N.Nodup) (he : DE X ρ e (.tup ds)) (Inv : Nat → Rho → Prop) (h0 : Inv 0 ρ) (hs : ∀ i d ρ', ds[i]? = some d → Inv i ρ' → DS X (ρ'.set j (some (.val d))) body ⟨Inv (i + 1), M.rt, M.at_⟩) (hd : ∀ ρ', Inv ds.length ρ' → DS X ρ' st M)
    (hp : PassesOwn (model X.prog X.w) X.A X.env X.xe := by exact PassesOwn.never) (hc : X.calm = true := by rfl) (hj : X.N[j]? = some x := by rfl) (hx : Loc X.env.scope x := by first | exact Or.inl rfl | exact Or.inr rfl)
    (hf : X.fn x = true ∨ X.env.scope.names.lookup x = some .local := by first | exact .inl rfl | exact .inr rfl) (hs2 : ∀ x, foldedSetIterable e X.env x = pure x := by intro _; rfl) :
    DS X ρ (.For (.Name x p) e body [] pos :: st) M := ds_forT j hc hp nd hj hx he Inv h0 hs hd hf hs2
theorem whl {c : Expr} (Inv : Nat → Rho → Prop) (m0 : Nat) (h0 : Inv m0 ρ) (hs : ∀ m ρ', Inv m ρ' → ∃ b, DT X ρ' c b ∧ (b = true → DS X ρ' body ⟨fun ρ2 => ∃ m', m' < m ∧ Inv m' ρ2, M.rt, M.at_⟩) ∧ (b = false → DS X ρ' st M))
    (hp : PassesOwn (model X.prog X.w) X.A X.env X.xe := by exact PassesOwn.never) : DS X ρ (.While c body [] pos :: st) M := ds_while hp Inv m0 h0 hs
end
section
variable {X : Cx} {ρ : Rho} {M : Fin} {e iter elt : Expr} {ifs : List Expr} {scope : Scope} {st : List Stmt} {x y : Str} {pos p px lp rp rpos : Pos} {α : Type}
theorem lc (j : Nat) (nd : X.N.Nodup) (l : List α) (g : α → D) (he : DE X ρ iter (.lst (l.map g))) (fb : α → Bool) (fe : α → D) (hb : ∀ a, a ∈ l → LcOk X scope ρ j ifs elt (g a) (fb a) (fe a)) (hz : l.length < sizeLine)
    (ok : BlkOk X.N X.env.scope scope [(x, j)] := by exact blkOk_by (by decide +kernel)) (hg : ∀ (s : Shared) (H : Hp) (C : Addr) (cl : List (Str × Addr)) (fp : List Addr), PG (bk X scope s H C cl fp) (.Name x px) (gName j) := by exact fun _ _ _ _ _ => pg_name (by assumption) (by rfl) (Or.inl (by rfl)) (Or.inr (by rfl)))
    (hc : X.calm = true := by rfl) (hs : ∀ x, foldedSetIterable iter X.env x = pure x := by intro _; rfl) : DO X ρ (.ListComp elt [⟨.Name x px, iter, ifs, 0⟩] scope pos) ((l.filter fb).map fe) := do_lc l g hc nd ok hg he fb fe hb hz hs
theorem lcRg {n : Int} (j : Nat) (nd : X.N.Nodup) (hmr : X.mg "range" = none) (he : DE X ρ iter (.int n)) (hn : -(2 ^ 62) ≤ n ∧ n < 2 ^ 62) (fb : Nat → Bool) (fe : Nat → D) (hb : ∀ i, i < n.toNat → LcOk X scope ρ j ifs elt (.int (i : Int)) (fb i) (fe i)) (hz : n.toNat < sizeLine)
    (ok : BlkOk X.N X.env.scope scope [(x, j)] := by exact blkOk_by (by decide +kernel)) (hg : ∀ (s : Shared) (H : Hp) (C : Addr) (cl : List (Str × Addr)) (fp : List Addr), PG (bk X scope s H C cl fp) (.Name x px) (gName j) := by exact fun _ _ _ _ _ => pg_name (by assumption) (by rfl) (Or.inl (by rfl)) (Or.inr (by rfl)))
    (hc : X.calm = true := by rfl) (hgr : Gl X "range" := by rfl) (hs1 : starEach [iter] X.env = [(false, eval iter X.env)] := by rfl) (hs : ∀ x, foldedSetIterable (.Call (.Name "range" rp) [iter] [] rpos) X.env x = pure x := by intro _; rfl) :
    DO X ρ (.ListComp elt [⟨.Name x px, .Call (.Name "range" rp) [iter] [] rpos, ifs, 0⟩] scope pos) (((List.range n.toNat).filter fb).map fe) := do_lcR hc nd hgr hmr ok hg he hn fb fe hb hz hs1 hs
theorem asgLc (i j : Nat) (nd : X.N.Nodup) (l : List α) (g : α → D) (he : DE X ρ iter (.lst (l.map g))) (fb : α → Bool) (fe : α → D) (hb : ∀ a, a ∈ l → LcOk X scope ρ j ifs elt (g a) (fb a) (fe a)) (hz : l.length < sizeLine)
    (rest : DS X (ρ.set i (some (.own ((l.filter fb).map fe)))) st M) (hi : X.N[i]? = some x := by rfl) (hx : X.env.scope.names.lookup x = some .local := by rfl)
    (hsw : swapsWith (.ListComp elt [⟨.Name y px, iter, ifs, 0⟩] scope lp) (some (.Name x p)) pos.line X.env = pure true := by exact sw_true (by rfl) (by rfl) (by rfl) (by decide +kernel))
    (ok : BlkOk X.N X.env.scope scope [(y, j)] := by exact blkOk_by (by decide +kernel)) (hg : ∀ (s : Shared) (H : Hp) (C : Addr) (cl : List (Str × Addr)) (fp : List Addr), PG (bk X scope s H C cl fp) (.Name y px) (gName j) := by exact fun _ _ _ _ _ => pg_name (by assumption) (by rfl) (Or.inl (by rfl)) (Or.inr (by rfl)))
    (hc : X.calm = true := by rfl) (hs : ∀ x, foldedSetIterable iter X.env x = pure x := by intro _; rfl) (hj : noJel ρ = true := by rfl) : DS X ρ (.Assign [.Name x p] (.ListComp elt [⟨.Name y px, iter, ifs, 0⟩] scope lp) pos :: st) M := ds_lc l g i hc nd hi hx hsw ok hg he fb fe hb hz rest hs (hj := hj)
theorem asgLcR {n : Int} (i j : Nat) (nd : X.N.Nodup) (hmr : X.mg "range" = none) (he : DE X ρ iter (.int n)) (hn : -(2 ^ 62) ≤ n ∧ n < 2 ^ 62) (fb : Nat → Bool) (fe : Nat → D) (hb : ∀ i, i < n.toNat → LcOk X scope ρ j ifs elt (.int (i : Int)) (fb i) (fe i)) (hz : n.toNat < sizeLine)
    (rest : DS X (ρ.set i (some (.own (((List.range n.toNat).filter fb).map fe)))) st M) (hi : X.N[i]? = some x := by rfl) (hx : X.env.scope.names.lookup x = some .local := by rfl)
    (hsw : swapsWith (.ListComp elt [⟨.Name y px, .Call (.Name "range" rp) [iter] [] rpos, ifs, 0⟩] scope lp) (some (.Name x p)) pos.line X.env = pure true := by exact sw_true (by rfl) (by rfl) (by rfl) (by decide +kernel))
    (ok : BlkOk X.N X.env.scope scope [(y, j)] := by exact blkOk_by (by decide +kernel)) (hg : ∀ (s : Shared) (H : Hp) (C : Addr) (cl : List (Str × Addr)) (fp : List Addr), PG (bk X scope s H C cl fp) (.Name y px) (gName j) := by exact fun _ _ _ _ _ => pg_name (by assumption) (by rfl) (Or.inl (by rfl)) (Or.inr (by rfl)))
    (hc : X.calm = true := by rfl) (hgr : Gl X "range" := by rfl) (hs1 : starEach [iter] X.env = [(false, eval iter X.env)] := by rfl) (hs : ∀ x, foldedSetIterable (.Call (.Name "range" rp) [iter] [] rpos) X.env x = pure x := by intro _; rfl) (hj : noJel ρ = true := by rfl) :
    DS X ρ (.Assign [.Name x p] (.ListComp elt [⟨.Name y px, .Call (.Name "range" rp) [iter] [] rpos, ifs, 0⟩] scope lp) pos :: st) M := ds_lcR i hc nd hi hx hgr hmr hsw ok hg he hn fb fe hb hz rest hs1 hs (hj := hj)
end
/-- a def's promise, where every parameter is written -/
theorem mkC {P : Program} {w : World} {K : PySem.W.Frag} {mg : Str → Option Value} {base : Heap} {k : Nat} {x : Str} {ps : List Str} {params : Arguments} {body : List Stmt} {scope : Scope} {f : Addr} {fd : FuncData} {N : List Str} {S : List D → D → Prop} {qual : Str}
    (F : FunD K x qual params body scope [] [] f fd) (hm : mg x = some (.ref f)) (SC : FnScope N ps scope)
    (hb : ∀ (kV doc pm : Value) (an : Option Addr) (cdv ct : Value) (us : List Value), us.length = ps.length → bindArgs (PySem.W.fnOf x qual params body scope .none kV doc pm an cdv ct) ⟨us, []⟩ = pure (ps.zip us))
    (len : ∀ ds d, S ds d → ds.length = ps.length)
    (hB : ∀ (cdv : Value) (A : Around) (outer : List Env) (s : Shared) (H : Hp) (E : XK) (ds : List D) (d : D), Room k (A.deeper (envOfC qual scope s.heap.objs.size f cdv)) → S ds d →
      DS (cx P w K mg base N qual scope f cdv A outer s H E) (rho0 N ds) body ⟨fun _ => d = .non, fun d' => d' = d, fun _ => True⟩) : Cal P w K mg base (k + 1) x ps [] (spD K S) :=
  ⟨f, fd, [], hm, F.kp, F.bindsN hb, .nil, okD F SC len hB⟩
theorem mkM {P : Program} {w : World} {K : PySem.W.Frag} {mg : Str → Option Value} {base : Heap} {k : Nat} {C : Addr} {x : Str} {ps : List Str} {params : Arguments} {body : List Stmt} {scope : Scope} {f : Addr} {fd : FuncData} {N : List Str} {S : List D → D → Prop} {qual : Str}
    (F : FunD K x qual params body scope [] [] f fd) (hm : Meth K C x f) (SC : FnScope N ps scope)
    (hb : ∀ (kV doc pm : Value) (an : Option Addr) (cdv ct : Value) (us : List Value), us.length = ps.length → bindArgs (PySem.W.fnOf x qual params body scope .none kV doc pm an cdv ct) ⟨us, []⟩ = pure (ps.zip us))
    (len : ∀ ds d, S ds d → ds.length = ps.length)
    (hB : ∀ (cdv : Value) (A : Around) (outer : List Env) (s : Shared) (H : Hp) (E : XK) (ds : List D) (d : D), Room k (A.deeper (envOfC qual scope s.heap.objs.size f cdv)) → S ds d →
      DS (cx P w K mg base N qual scope f cdv A outer s H E) (rho0 N ds) body ⟨fun _ => d = .non, fun d' => d' = d, fun _ => True⟩) : Met P w K mg base (k + 1) C x ps [] (spD K S) :=
  ⟨f, fd, [], hm, F.bindsN hb, .nil, okD F SC len hB⟩
end SK
/-! Plain Lean: what the defs compute. No program in sight. -/
namespace SK
/-! ### bits -/
def members (b : Nat) : List Nat := (List.range 4).filter b.testBit
def clr (b r : Nat) : Nat := if b.testBit r then b - 2 ^ r else b
def setb (b r : Nat) : Nat := b ||| 2 ^ r
def howMany (b : Nat) : Nat := (members b).length
def subsets (b : Nat) : List Nat := (members b).foldl (fun f r => f ++ f.map (· + 2 ^ r)) [0]
def bitsOf (rs : List Nat) : Nat := rs.foldl setb 0
/-! ### fractions -/
abbrev Q := Int × Int
def frQ (t b : Int) : Q := (t / (Int.gcd t b : Nat), b / (Int.gcd t b : Nat))
def plusQ (a b : Q) : Q := frQ (a.1 * b.2 + b.1 * a.2) (a.2 * b.2)
def minusQ (a b : Q) : Q := frQ (a.1 * b.2 - b.1 * a.2) (a.2 * b.2)
def timesQ (a b : Q) : Q := frQ (a.1 * b.1) (a.2 * b.2)
def underQ (a b : Q) : Bool := decide (a.1 * b.2 < b.1 * a.2)
/-- the bottom from 1 on, both below 2 ^ n -/
structure Sm (n : Nat) (q : Q) : Prop where
  pos : 0 < q.2
  top : q.1.natAbs < 2 ^ n
  bot : q.2.natAbs < 2 ^ n
theorem Sm.mono {n m : Nat} {q : Q} (h : Sm n q) (l : n ≤ m) : Sm m q :=
  ⟨h.pos, Nat.lt_of_lt_of_le h.top (Nat.pow_le_pow_right (by decide) l), Nat.lt_of_lt_of_le h.bot (Nat.pow_le_pow_right (by decide) l)⟩
theorem gcd_pos {t b : Int} (hb : 0 < b) : 0 < Int.gcd t b := Int.gcd_pos_of_ne_zero_right _ (by omega)
theorem div_abs (t : Int) {g : Nat} (hg : 0 < g) (hd : (g : Int) ∣ t) : (t / (g : Int)).natAbs ≤ t.natAbs := by
  obtain ⟨k, rfl⟩ := hd
  rw [Int.mul_ediv_cancel_left _ (by omega), Int.natAbs_mul]
  exact Nat.le_mul_of_pos_left _ (by omega)
theorem frQ_sm {n : Nat} {t b : Int} (hb : 0 < b) (ht : t.natAbs < 2 ^ n) (hb2 : b.natAbs < 2 ^ n) : Sm n (frQ t b) := by
  have hg := gcd_pos (t := t) hb
  refine ⟨?_, Nat.lt_of_le_of_lt (div_abs t hg (Int.gcd_dvd_left ..)) ht, Nat.lt_of_le_of_lt (div_abs b hg (Int.gcd_dvd_right ..)) hb2⟩
  show 0 < b / (Int.gcd t b : Nat)
  have hd : ((Int.gcd t b : Nat) : Int) ∣ b := Int.gcd_dvd_right ..
  obtain ⟨k, hk⟩ := hd
  have h2 : b / (Int.gcd t b : Nat) = k := by
    conv => lhs; lhs; rw [hk]
    exact Int.mul_ediv_cancel_left _ (by omega)
  rw [h2]
  rcases Int.lt_or_le 0 k with z | z
  · exact z
  · exfalso
    have : ((Int.gcd t b : Nat) : Int) * k ≤ 0 := Int.mul_nonpos_of_nonneg_of_nonpos (by omega) z
    omega
theorem lt_mul {i j : Int} {a b : Nat} (ha : i.natAbs < 2 ^ a) (hb : j.natAbs < 2 ^ b) : (i * j).natAbs < 2 ^ (a + b) := by
  rw [Int.natAbs_mul, Nat.pow_add]
  exact Nat.mul_lt_mul'' ha hb
theorem lt_add {i j : Int} {a : Nat} (ha : i.natAbs < 2 ^ a) (hb : j.natAbs < 2 ^ a) : (i + j).natAbs < 2 ^ (a + 1) := by
  rw [Nat.pow_succ]
  omega
theorem lt_sub {i j : Int} {a : Nat} (ha : i.natAbs < 2 ^ a) (hb : j.natAbs < 2 ^ a) : (i - j).natAbs < 2 ^ (a + 1) := by
  rw [Nat.pow_succ]
  omega
theorem lt_more {i : Int} {a b : Nat} (ha : i.natAbs < 2 ^ a) (h : a ≤ b) : i.natAbs < 2 ^ b := Nat.lt_of_lt_of_le ha (Nat.pow_le_pow_right (by decide) h)
theorem lt_mul' {i j : Int} {a b : Nat} (ha : i.natAbs < 2 ^ a) (hb : j.natAbs < 2 ^ b) : (i * j).natAbs < 2 ^ (b + a) := by
  rw [Nat.add_comm]
  exact lt_mul ha hb
theorem plusQ_sm {n m : Nat} {a b : Q} (ha : Sm n a) (hb : Sm m b) : Sm (n + m + 1) (plusQ a b) :=
  frQ_sm (Int.mul_pos ha.pos hb.pos) (lt_add (lt_mul ha.top hb.bot) (lt_mul' hb.top ha.bot)) (lt_more (lt_mul ha.bot hb.bot) (by omega))
theorem minusQ_sm {n m : Nat} {a b : Q} (ha : Sm n a) (hb : Sm m b) : Sm (n + m + 1) (minusQ a b) :=
  frQ_sm (Int.mul_pos ha.pos hb.pos) (lt_sub (lt_mul ha.top hb.bot) (lt_mul' hb.top ha.bot)) (lt_more (lt_mul ha.bot hb.bot) (by omega))
theorem timesQ_sm {n m : Nat} {a b : Q} (ha : Sm n a) (hb : Sm m b) : Sm (n + m) (timesQ a b) :=
  frQ_sm (Int.mul_pos ha.pos hb.pos) (lt_mul ha.top hb.top) (lt_mul ha.bot hb.bot)
end SK
/-! Plain Lean: holds, spans, states, turns. -/
namespace SK
structure Stv where
  heat : Q
  wood : Nat
  stay : Nat
  fails : Nat
structure HoldM where
  most : Nat
  cap : Nat
  load : Nat
  marks : List (List Q)
  flows : List (List Q)
  skies : List (Q × Q × Q)
  stoves : List (Option Stv)
def q00 : Q := (0, 1)
def sky0 : Q × Q × Q := (q00, q00, q00)
def HoldM.many (h : HoldM) : Nat := h.marks.length
def HoldM.mk_ (h : HoldM) (r : Nat) : List Q := h.marks.getD r []
def HoldM.fl (h : HoldM) (r : Nat) : List Q := h.flows.getD r []
def HoldM.sk (h : HoldM) (r : Nat) : Q × Q × Q := h.skies.getD r sky0
def HoldM.st (h : HoldM) (r : Nat) : Option Stv := h.stoves.getD r none
def takenQ (h : HoldM) (r : Nat) : Q := (h.fl r).foldl plusQ (h.sk r).1
def shareQ (h : HoldM) (i o : Nat) : Q := if i = o then minusQ (1, 1) (takenQ h i) else (h.fl i).getD o q00
def heatQ (h : HoldM) (r : Nat) : Q := match h.st r with
  | some s => s.heat
  | none => q00
def sumQ (h : HoldM) (r : Nat) (airs : List Q) (w0 : Q) (n : Nat) : Q := (List.range n).foldl (fun w o => plusQ w (timesQ (shareQ h r o) (airs.getD o q00))) w0
def warmthQ (h : HoldM) (r : Nat) (airs : List Q) (weather : Q) (fired : Bool) : Q :=
  let s := sumQ h r airs (timesQ (h.sk r).1 weather) h.many
  if fired then plusQ s (heatQ h r) else s
def lowsQ (h : HoldM) (bands : List Nat) : List Q := (List.range h.many).map fun o => (h.mk_ o).getD (bands.getD o 0) q00
def highsQ (h : HoldM) (bands : List Nat) : List Q := (List.range h.many).map fun o => (h.mk_ o).getD (bands.getD o 0 + 1) q00
def spanQ (h : HoldM) (r : Nat) (bands : List Nat) (fired : Bool) : Q × Q :=
  (warmthQ h r (lowsQ h bands) (h.sk r).2.1 fired, warmthQ h r (highsQ h bands) (h.sk r).2.2 fired)
def touchedQ (h : HoldM) (r : Nat) (a b : Q) : List Nat := (List.range ((h.mk_ r).length - 1)).filter fun k => !underQ b ((h.mk_ r).getD k q00) && !underQ ((h.mk_ r).getD (k + 1) q00) a
def withinQ (h : HoldM) (r : Nat) (a b : Q) : Bool := !underQ a ((h.mk_ r).getD 0 q00) && !underQ ((h.mk_ r).getD ((h.mk_ r).length - 1) q00) b

structure WF (h : HoldM) : Prop where
  one : 1 ≤ h.many
  few : h.many ≤ 2
  fl : h.flows.length = h.many
  flr : ∀ r, r < h.many → (h.fl r).length = h.many
  sk : h.skies.length = h.many
  st : h.stoves.length = h.many
  mks : ∀ r, r < h.many → 2 ≤ (h.mk_ r).length ∧ (h.mk_ r).length ≤ 7
  qm : ∀ r, r < h.many → ∀ q ∈ h.mk_ r, Sm 100 q
  qf : ∀ r, r < h.many → ∀ q ∈ h.fl r, Sm 100 q
  qs : ∀ r, r < h.many → Sm 100 (h.sk r).1 ∧ Sm 100 (h.sk r).2.1 ∧ Sm 100 (h.sk r).2.2
  qt : ∀ r s, h.st r = some s → Sm 100 s.heat ∧ s.wood ≤ 9 ∧ s.stay ≤ 3 ∧ s.fails ≤ 3
  bd : h.most ≤ 4 ∧ h.cap ≤ 30 ∧ h.load ≤ 30

theorem q00_sm : Sm 100 q00 := ⟨by decide, by decide, by decide⟩
theorem getD_mem {α : Type} {l : List α} {i : Nat} {a : α} (h : i < l.length) : l.getD i a ∈ l := by
  rw [List.getD_eq_getElem?_getD, List.getElem?_eq_getElem h]
  exact List.getElem_mem h
theorem getD_sm {n : Nat} {l : List Q} (h : ∀ q ∈ l, Sm n q) (i : Nat) (hn : 100 ≤ n) : Sm n (l.getD i q00) := by
  by_cases hl : i < l.length
  · exact h _ (getD_mem hl)
  · rw [List.getD_eq_getElem?_getD, List.getElem?_eq_none (by omega)]
    exact q00_sm.mono hn
theorem fold_sm : ∀ (l : List Q) {n : Nat} {q : Q}, Sm n q → (∀ p ∈ l, Sm 100 p) → Sm (n + 101 * l.length) (l.foldl plusQ q)
  | [], n, q, h, _ => h
  | p :: l, n, q, h, hl => by
    have h1 : Sm (n + 100 + 1) (plusQ q p) := plusQ_sm h (hl p (List.mem_cons_self ..))
    have h2 := fold_sm l h1 fun x hx => hl x (List.mem_cons_of_mem _ hx)
    exact h2.mono (by rw [List.length_cons]; omega)
/-- what taken_share leans on -/
structure TkOk (h : HoldM) (r : Nat) : Prop where
  f : r < h.flows.length
  s : r < h.skies.length
  few : (h.fl r).length ≤ 4
  q : ∀ q ∈ h.fl r, Sm 100 q
  z : Sm 100 (h.sk r).1
theorem taken_sm {h : HoldM} {r : Nat} (t : TkOk h r) : Sm 600 (takenQ h r) := (fold_sm _ t.z t.q).mono (by have := t.few; omega)
theorem taken_part {h : HoldM} {r : Nat} (t : TkOk h r) (i : Nat) : Sm 600 (((h.fl r).take i).foldl plusQ (h.sk r).1) :=
  (fold_sm _ t.z fun p hp => t.q p (List.mem_of_mem_take hp)).mono (by have := t.few; rw [List.length_take]; omega)
theorem WF.tk {h : HoldM} (w : WF h) {r : Nat} (hr : r < h.many) : TkOk h r :=
  ⟨by rw [w.fl]; exact hr, by rw [w.sk]; exact hr, by rw [w.flr r hr]; have := w.few; omega, w.qf r hr, (w.qs r hr).1⟩
theorem share_sm {h : HoldM} (w : WF h) {i o : Nat} (hi : i < h.many) : Sm 700 (shareQ h i o) := by
  unfold shareQ
  split
  · exact (minusQ_sm (n := 1) ⟨by decide, by decide, by decide⟩ (taken_sm (w.tk hi))).mono (by decide)
  · exact (getD_sm (w.qf i hi) o (by decide)).mono (by decide)
theorem sum_sm {h : HoldM} (w : WF h) {r : Nat} (hr : r < h.many) {airs : List Q} (ha : ∀ q ∈ airs, Sm 100 q) {w0 : Q} (h0 : Sm 200 w0) : ∀ n, Sm (200 + 801 * n) (sumQ h r airs w0 n)
  | 0 => h0
  | n + 1 => by
    unfold sumQ
    rw [List.range_succ, List.foldl_append]
    exact (plusQ_sm (sum_sm w hr ha h0 n) (timesQ_sm (share_sm w hr (o := n)) (getD_sm ha n (by decide)))).mono (by omega)
theorem heat_sm {h : HoldM} (w : WF h) (r : Nat) : Sm 100 (heatQ h r) := by
  unfold heatQ
  split
  · exact (w.qt r _ (by assumption)).1
  · exact q00_sm
theorem warmth_sm {h : HoldM} (w : WF h) {r : Nat} (hr : r < h.many) {airs : List Q} (ha : ∀ q ∈ airs, Sm 100 q) {we : Q} (hw : Sm 100 we) (f : Bool) : Sm 3000 (warmthQ h r airs we f) := by
  have s := sum_sm w hr ha (timesQ_sm (w.qs r hr).1 hw) h.many
  have := w.few
  unfold warmthQ
  split
  · exact (plusQ_sm s (heat_sm w r)).mono (by omega)
  · exact s.mono (by omega)
theorem lows_sm {h : HoldM} (w : WF h) (bands : List Nat) : ∀ q ∈ lowsQ h bands, Sm 100 q := fun q hq => by
  obtain ⟨o, ho, rfl⟩ := List.mem_map.mp hq
  exact getD_sm (w.qm o (List.mem_range.mp ho)) _ (by decide)
theorem highs_sm {h : HoldM} (w : WF h) (bands : List Nat) : ∀ q ∈ highsQ h bands, Sm 100 q := fun q hq => by
  obtain ⟨o, ho, rfl⟩ := List.mem_map.mp hq
  exact getD_sm (w.qm o (List.mem_range.mp ho)) _ (by decide)
theorem span_sm {h : HoldM} (w : WF h) {r : Nat} (hr : r < h.many) (bands : List Nat) (f : Bool) : Sm 3000 (spanQ h r bands f).1 ∧ Sm 3000 (spanQ h r bands f).2 :=
  ⟨warmth_sm w hr (lows_sm w bands) (w.qs r hr).2.1 f, warmth_sm w hr (highs_sm w bands) (w.qs r hr).2.2 f⟩
end SK
/-! Plain Lean: states, orders, turns. -/
namespace SK
structure SM where
  bands : List Nat
  burn : Nat
  waits : List Nat
  failed : List Nat
  heap : Nat
  deriving DecidableEq
def SM.wt (s : SM) (r : Nat) : Nat := s.waits.getD r 0
def SM.fd (s : SM) (r : Nat) : Nat := s.failed.getD r 0
def woodAt (h : HoldM) (r : Nat) : Nat := match h.st r with
  | none => 0
  | some v => v.wood
def stayAt (h : HoldM) (r : Nat) : Nat := match h.st r with
  | none => 0
  | some v => v.stay
def failsAt (h : HoldM) (r : Nat) : Nat := match h.st r with
  | none => 0
  | some v => v.fails
/-- a state's numbers of one room are right -/
def FitsR (h : HoldM) (s : SM) (r : Nat) : Prop := s.bands.getD r 0 + 1 < (h.mk_ r).length ∧ match h.st r with
  | none => s.burn.testBit r = false ∧ s.wt r = 0 ∧ s.fd r = 0
  | some v => s.wt r ≤ v.stay ∧ s.fd r ≤ v.fails ∧ (s.fd r = 0 ∨ (s.burn.testBit r = false ∧ s.wt r = 0))
structure Valid (h : HoldM) (s : SM) : Prop where
  bl : s.bands.length = h.many
  wl : s.waits.length = h.many
  fl : s.failed.length = h.many
  bu : s.burn < 2 ^ h.many
  mo : howMany s.burn ≤ h.most
  hp : s.heap ≤ h.cap
  fit : ∀ r, r < h.many → FitsR h s r
def woodQ (h : HoldM) (b : Nat) : Nat := (members b).foldl (fun w r => w + woodAt h r) 0
def boundB (s : SM) : Nat := bitsOf ((members s.burn).filter fun r => decide (0 < s.wt r))
def freeB (h : HoldM) (s : SM) : Nat := bitsOf ((List.range h.many).filter fun r => (h.st r).isSome && decide (s.wt r = 0))
def ordersQ (h : HoldM) (s : SM) : List Nat := ((subsets (freeB h s)).map (boundB s + ·)).filter fun o => decide (howMany o ≤ h.most) && decide (woodQ h o ≤ s.heap)
def mayQ (h : HoldM) (s : SM) (o : Nat) : Nat := bitsOf (((members o).filter fun r => !s.burn.testBit r).filter fun r => decide (s.fd r < failsAt h r))
def waitQ (h : HoldM) (s : SM) (b : Nat) (r : Nat) : Nat := if (b.testBit r != s.burn.testBit r) = true then stayAt h r else s.wt r - 1
def failQ (s : SM) (b u : Nat) (r : Nat) : Nat := (if b.testBit r = true then 0 else s.fd r) + (if u.testBit r = true then 1 else 0)
def heapQ (h : HoldM) (s : SM) (b : Nat) : Nat := min h.cap (s.heap - woodQ h b + h.load)
def behindQ (h : HoldM) (s : SM) (o u : Nat) (bands : List Nat) : SM :=
  ⟨bands, o - u, (List.range h.many).map (waitQ h s (o - u)), (List.range h.many).map (failQ s (o - u) u), heapQ h s (o - u)⟩
def firesQ (o u : Nat) : Nat := (List.range 4).foldl (fun f r => if u.testBit r = true then clr f r else f) o

/-! facts of bits below 16, below 4 -/
theorem lt16 {h : HoldM} (w : WF h) {b : Nat} (hb : b < 2 ^ h.many) : b < 16 := by
  have h1 := w.few
  have h2 : 2 ^ h.many ≤ 2 ^ 4 := Nat.pow_le_pow_right (by decide) (by omega)
  omega
theorem many12 {h : HoldM} (w : WF h) : h.many = 1 ∨ h.many = 2 := by
  have h1 := w.few
  have h2 := w.one
  omega
theorem mem_many1 : ∀ b, b < 2 → ∀ r ∈ members b, r < 1 := by decide +kernel
theorem mem_many2 : ∀ b, b < 4 → ∀ r ∈ members b, r < 2 := by decide +kernel
theorem mem_many {h : HoldM} (w : WF h) {b : Nat} (hb : b < 2 ^ h.many) : ∀ r ∈ members b, r < h.many := by
  rcases many12 w with e | e
  · rw [e] at hb ⊢
    exact mem_many1 b hb
  · rw [e] at hb ⊢
    exact mem_many2 b hb
theorem mem_bit : ∀ b, b < 16 → ∀ r, r < 4 → (r ∈ members b ↔ b.testBit r = true) := by decide +kernel
theorem subs_le : ∀ b, b < 16 → ∀ o ∈ subsets b, o ≤ b := by decide +kernel
theorem subs_len : ∀ b, b < 16 → (subsets b).length ≤ 16 := by decide +kernel
theorem subs_rise : ∀ b, b < 16 → (subsets b).Pairwise (· ≤ ·) := by decide +kernel
/-- bound and free rooms are apart -/
theorem apart1 : ∀ b, b < 2 → ∀ p0 s0 : Bool, bitsOf ((members b).filter fun _ => p0) + bitsOf ([0].filter fun _ => s0 && !p0) < 2 := by decide +kernel
def pick (a b : Bool) (r : Nat) : Bool := if r = 0 then a else b
theorem apart2 : ∀ b, b < 4 → ∀ p0 p1 s0 s1 : Bool, bitsOf ((members b).filter (pick p0 p1)) + bitsOf ([0, 1].filter fun r => pick s0 s1 r && !pick p0 p1 r) < 4 := by decide +kernel
theorem dz (n : Nat) : decide (n = 0) = !decide (0 < n) := by
  rw [← decide_not]
  exact decide_eq_decide.mpr (by omega)
theorem filter_ext {α : Type} {l : List α} {p q : α → Bool} (h : ∀ a ∈ l, p a = q a) : l.filter p = l.filter q := List.filter_congr h
theorem bound_free {h : HoldM} (w : WF h) {s : SM} (v : Valid h s) : boundB s + freeB h s < 2 ^ h.many := by
  have hb := v.bu
  have hm := mem_many w hb
  unfold boundB freeB
  rcases many12 w with e | e
  · rw [e] at hb hm ⊢
    have e1 : (members s.burn).filter (fun r => decide (0 < s.wt r)) = (members s.burn).filter fun _ => decide (0 < s.wt 0) := filter_ext fun r hr => by
      have := hm r hr
      obtain rfl : r = 0 := by omega
      rfl
    have e2 : (List.range 1).filter (fun r => (h.st r).isSome && decide (s.wt r = 0)) = [0].filter fun _ => (h.st 0).isSome && !decide (0 < s.wt 0) := by
      show [0].filter _ = _
      refine filter_ext fun r hr => ?_
      obtain rfl : r = 0 := by simpa using hr
      congr 1
      rw [← decide_not]
      exact decide_eq_decide.mpr (by omega)
    rw [e1, e2]
    exact apart1 _ hb _ _
  · rw [e] at hb hm ⊢
    have e1 : (members s.burn).filter (fun r => decide (0 < s.wt r)) = (members s.burn).filter (pick (decide (0 < s.wt 0)) (decide (0 < s.wt 1))) := filter_ext fun r hr => by
      have := hm r hr
      rcases (show r = 0 ∨ r = 1 by omega) with z | z <;> subst z <;> rfl
    have e2 : (List.range 2).filter (fun r => (h.st r).isSome && decide (s.wt r = 0)) = [0, 1].filter fun r => pick (h.st 0).isSome (h.st 1).isSome r && !pick (decide (0 < s.wt 0)) (decide (0 < s.wt 1)) r := by
      show [0, 1].filter _ = _
      refine filter_ext fun r hr => ?_
      have hr2 : r = 0 ∨ r = 1 := by simpa using hr
      rcases hr2 with z | z <;> subst z
      · show ((h.st 0).isSome && decide (s.wt 0 = 0)) = ((h.st 0).isSome && !decide (0 < s.wt 0))
        rw [dz]
      · show ((h.st 1).isSome && decide (s.wt 1 = 0)) = ((h.st 1).isSome && !decide (0 < s.wt 1))
        rw [dz]
    rw [e1, e2]
    exact apart2 _ hb _ _ _ _
theorem free_lt {h : HoldM} (w : WF h) {s : SM} (v : Valid h s) : freeB h s < 2 ^ h.many := by have := bound_free w v; omega
theorem some_lt {h : HoldM} (w : WF h) {s : SM} (v : Valid h s) {o : Nat} (ho : o ∈ subsets (freeB h s)) : boundB s + o < 2 ^ h.many := by
  have h1 := bound_free w v
  have h2 := subs_le _ (lt16 w (free_lt w v)) o ho
  omega
theorem orders_lt {h : HoldM} (w : WF h) {s : SM} (v : Valid h s) {o : Nat} (ho : o ∈ ordersQ h s) : o < 2 ^ h.many := by
  obtain ⟨h1, _⟩ := List.mem_filter.mp ho
  obtain ⟨x, hx, rfl⟩ := List.mem_map.mp h1
  exact some_lt w v hx
theorem orders_rise {h : HoldM} (w : WF h) {s : SM} (v : Valid h s) : (ordersQ h s).Pairwise (· ≤ ·) := by
  unfold ordersQ
  refine List.Pairwise.filter _ ?_
  rw [List.pairwise_map]
  exact (subs_rise _ (lt16 w (free_lt w v))).imp fun h => by omega
/-- the rooms of an allowed order have stoves; those whose stove burns and waits are in it; a room in it that does not burn has no wait -/
theorem ord1 : ∀ b, b < 2 → ∀ p0 s0 : Bool, (b.testBit 0 = true → s0 = true) → ∀ o ∈ (subsets (bitsOf ([0].filter fun _ => s0 && !p0))).map (bitsOf ((members b).filter fun _ => p0) + ·), (o.testBit 0 = true → s0 = true) ∧ (p0 = true → o.testBit 0 = b.testBit 0) := by decide +kernel
set_option synthInstance.maxHeartbeats 2000000 in
set_option synthInstance.maxSize 4000 in
theorem ord2 : ∀ b, b < 4 → ∀ p0 p1 s0 s1 : Bool, (b.testBit 0 = true → s0 = true) → (b.testBit 1 = true → s1 = true) → ∀ o ∈ (subsets (bitsOf ([0, 1].filter fun r => pick s0 s1 r && !pick p0 p1 r))).map (bitsOf ((members b).filter (pick p0 p1)) + ·),
    ((o.testBit 0 = true → s0 = true) ∧ (p0 = true → o.testBit 0 = b.testBit 0)) ∧ ((o.testBit 1 = true → s1 = true) ∧ (p1 = true → o.testBit 1 = b.testBit 1)) := by decide +kernel
theorem fits_stove {h : HoldM} {s : SM} {r : Nat} (f : FitsR h s r) (hb : s.burn.testBit r = true) : (h.st r).isSome = true := by
  unfold FitsR at f
  cases e : h.st r with
  | none =>
    rw [e] at f
    have f2 : s.burn.testBit r = false := f.2.1
    rw [hb] at f2
    cases f2
  | some v => rfl
theorem orders_ok {h : HoldM} (w : WF h) {s : SM} (v : Valid h s) {o : Nat} (ho : o ∈ ordersQ h s) {r : Nat} (hr : r < h.many) : (o.testBit r = true → (h.st r).isSome = true) ∧ (0 < s.wt r → o.testBit r = s.burn.testBit r) := by
  obtain ⟨h1, _⟩ := List.mem_filter.mp ho
  have hb := v.bu
  have hm := mem_many w hb
  have fit := v.fit
  unfold boundB freeB at h1
  rcases many12 w with e | e
  · rw [e] at hb hm hr fit h1
    obtain rfl : r = 0 := by omega
    have e1 : (members s.burn).filter (fun r => decide (0 < s.wt r)) = (members s.burn).filter fun _ => decide (0 < s.wt 0) := filter_ext fun r hr => by
      have := hm r hr
      obtain rfl : r = 0 := by omega
      rfl
    have e2 : (List.range 1).filter (fun r => (h.st r).isSome && decide (s.wt r = 0)) = [0].filter fun _ => (h.st 0).isSome && !decide (0 < s.wt 0) := by
      show [0].filter _ = _
      refine filter_ext fun r hr => ?_
      obtain rfl : r = 0 := by simpa using hr
      congr 1
      rw [← decide_not]
      exact decide_eq_decide.mpr (by omega)
    rw [e1, e2] at h1
    have z := ord1 _ hb _ _ (fits_stove (fit 0 hr)) o h1
    exact ⟨z.1, fun q => z.2 (decide_eq_true q)⟩
  · rw [e] at hb hm hr fit h1
    have e1 : (members s.burn).filter (fun r => decide (0 < s.wt r)) = (members s.burn).filter (pick (decide (0 < s.wt 0)) (decide (0 < s.wt 1))) := filter_ext fun r hr => by
      have := hm r hr
      rcases (show r = 0 ∨ r = 1 by omega) with z | z <;> subst z <;> rfl
    have e2 : (List.range 2).filter (fun r => (h.st r).isSome && decide (s.wt r = 0)) = [0, 1].filter fun r => pick (h.st 0).isSome (h.st 1).isSome r && !pick (decide (0 < s.wt 0)) (decide (0 < s.wt 1)) r := by
      show [0, 1].filter _ = _
      refine filter_ext fun r hr => ?_
      have hr2 : r = 0 ∨ r = 1 := by simpa using hr
      rcases hr2 with z | z <;> subst z
      · show ((h.st 0).isSome && decide (s.wt 0 = 0)) = ((h.st 0).isSome && !decide (0 < s.wt 0))
        rw [dz]
      · show ((h.st 1).isSome && decide (s.wt 1 = 0)) = ((h.st 1).isSome && !decide (0 < s.wt 1))
        rw [dz]
    rw [e1, e2] at h1
    have z := ord2 _ hb _ _ _ _ (fits_stove (fit 0 (by omega))) (fits_stove (fit 1 (by omega))) o h1
    rcases (show r = 0 ∨ r = 1 by omega) with q | q <;> subst q
    · exact ⟨z.1.1, fun q => z.1.2 (decide_eq_true q)⟩
    · exact ⟨z.2.1, fun q => z.2.2 (decide_eq_true q)⟩
theorem orders_most {h : HoldM} {s : SM} {o : Nat} (ho : o ∈ ordersQ h s) : howMany o ≤ h.most ∧ woodQ h o ≤ s.heap := by
  obtain ⟨_, h2⟩ := List.mem_filter.mp ho
  simp only [Bool.and_eq_true, decide_eq_true_eq] at h2
  exact h2
end SK
/-! Plain Lean: what may fail, what stands behind a turn. -/
namespace SK
theorem may_bits : ∀ o, o < 4 → ∀ q0 q1 : Bool, bitsOf ((members o).filter (pick q0 q1)) < 4 ∧ ∀ u ∈ subsets (bitsOf ((members o).filter (pick q0 q1))), u ≤ o ∧
    ((u.testBit 0 = true → o.testBit 0 = true ∧ q0 = true) ∧ (o - u).testBit 0 = (o.testBit 0 && !u.testBit 0)) ∧ ((u.testBit 1 = true → o.testBit 1 = true ∧ q1 = true) ∧ (o - u).testBit 1 = (o.testBit 1 && !u.testBit 1)) := by decide +kernel
theorem may_pick (s : SM) (h : HoldM) {o : Nat} (ho : o < 4) : mayQ h s o = bitsOf ((members o).filter (pick (!s.burn.testBit 0 && decide (s.fd 0 < failsAt h 0)) (!s.burn.testBit 1 && decide (s.fd 1 < failsAt h 1)))) := by
  unfold mayQ
  rw [List.filter_filter]
  congr 1
  refine filter_ext fun r hr => ?_
  have := mem_many2 o ho r hr
  rcases (show r = 0 ∨ r = 1 by omega) with z | z <;> subst z
  · show (decide (s.fd 0 < failsAt h 0) && !s.burn.testBit 0) = (!s.burn.testBit 0 && decide (s.fd 0 < failsAt h 0))
    rw [Bool.and_comm]
  · show (decide (s.fd 1 < failsAt h 1) && !s.burn.testBit 1) = (!s.burn.testBit 1 && decide (s.fd 1 < failsAt h 1))
    rw [Bool.and_comm]
theorem lt4 {h : HoldM} (w : WF h) {b : Nat} (hb : b < 2 ^ h.many) : b < 4 := by
  have h1 := w.few
  have h2 : 2 ^ h.many ≤ 2 ^ 2 := Nat.pow_le_pow_right (by decide) (by omega)
  omega
theorem wood_bits (h : HoldM) : ∀ b, b < 4 → woodQ h b = (if b.testBit 0 = true then woodAt h 0 else 0) + (if b.testBit 1 = true then woodAt h 1 else 0)
  | 0, _ => rfl
  | 1, _ => by
    show 0 + woodAt h 0 = woodAt h 0 + 0
    omega
  | 2, _ => by
    show 0 + woodAt h 1 = 0 + woodAt h 1
    rfl
  | 3, _ => by
    show 0 + woodAt h 0 + woodAt h 1 = woodAt h 0 + woodAt h 1
    omega
  | n + 4, hb => by omega
/-- what is known of an allowed order and of what fails -/
structure Tn (h : HoldM) (s : SM) (o u : Nat) : Prop where
  o4 : o < 2 ^ h.many
  le : u ≤ o
  fail : ∀ r, r < h.many → u.testBit r = true → o.testBit r = true ∧ s.burn.testBit r = false ∧ s.fd r < failsAt h r
  sub : ∀ r, r < h.many → (o - u).testBit r = (o.testBit r && !u.testBit r)
  wood : woodQ h (o - u) ≤ s.heap
  stove : ∀ r, r < h.many → o.testBit r = true → (h.st r).isSome = true
  keep : ∀ r, r < h.many → 0 < s.wt r → o.testBit r = s.burn.testBit r
theorem may_lt {h : HoldM} (w : WF h) {s : SM} (v : Valid h s) {o : Nat} (ho : o ∈ ordersQ h s) : mayQ h s o < 16 := by
  have h4 := lt4 w (orders_lt w v ho)
  rw [may_pick s h h4]
  exact Nat.lt_of_lt_of_le (may_bits o h4 _ _).1 (by decide)
theorem Tn.of {h : HoldM} (w : WF h) {s : SM} (v : Valid h s) {o u : Nat} (ho : o ∈ ordersQ h s) (hu : u ∈ subsets (mayQ h s o)) : Tn h s o u := by
  have hl := orders_lt w v ho
  have h4 := lt4 w hl
  rw [may_pick s h h4] at hu
  obtain ⟨a1, ⟨a2, a3⟩, a4, a5⟩ := (may_bits o h4 _ _).2 u hu
  have hm := w.few
  have f : ∀ r, r < h.many → (u.testBit r = true → o.testBit r = true ∧ (!s.burn.testBit r && decide (s.fd r < failsAt h r)) = true) ∧ (o - u).testBit r = (o.testBit r && !u.testBit r) := fun r hr => by
    rcases (show r = 0 ∨ r = 1 by omega) with z | z <;> subst z
    · exact ⟨a2, a3⟩
    · exact ⟨a4, a5⟩
  refine ⟨hl, a1, fun r hr q => ?_, fun r hr => (f r hr).2, ?_, fun r hr => (orders_ok w v ho hr).1, fun r hr => (orders_ok w v ho hr).2⟩
  · obtain ⟨b1, b2⟩ := (f r hr).1 q
    simp only [Bool.and_eq_true, Bool.not_eq_true', decide_eq_true_eq] at b2
    exact ⟨b1, b2.1, b2.2⟩
  · refine Nat.le_trans ?_ (orders_most ho).2
    rw [wood_bits h _ (show o - u < 4 by omega), wood_bits h o h4, a3, a5]
    refine Nat.add_le_add ?_ ?_
    · by_cases q : o.testBit 0 = true
      · rw [if_pos q]
        split <;> omega
      · have q2 : o.testBit 0 = false := by simpa using q
        rw [q2]
        simp
    · by_cases q : o.testBit 1 = true
      · rw [if_pos q]
        split <;> omega
      · have q2 : o.testBit 1 = false := by simpa using q
        rw [q2]
        simp
end SK
/-! Plain Lean: what may come of an order. -/
namespace SK
def tchQ (h : HoldM) (r : Nat) (bands : List Nat) (f : Bool) : List Nat := touchedQ h r (spanQ h r bands f).1 (spanQ h r bands f).2
def wthQ (h : HoldM) (r : Nat) (bands : List Nat) (f : Bool) : Bool := withinQ h r (spanQ h r bands f).1 (spanQ h r bands f).2
def wideQ (t : List Nat) (found : List (List Nat)) : List (List Nat) := found.flatMap fun one => t.map fun b => one ++ [b]
def stepQ (h : HoldM) (bands : List Nat) (fires : Nat) (acc : Option (List (List Nat))) (r : Nat) : Option (List (List Nat)) := match acc with
  | none => none
  | some found => if wthQ h r bands (fires.testBit r) then some (wideQ (tchQ h r bands (fires.testBit r)) found) else none
def partQ (h : HoldM) (bands : List Nat) (fires i : Nat) : Option (List (List Nat)) := (List.range i).foldl (stepQ h bands fires) (some [[]])
def bandsByQ (h : HoldM) (bands : List Nat) (fires : Nat) : Option (List (List Nat)) := partQ h bands fires h.many
def ledStep (h : HoldM) (s : SM) (o : Nat) (acc : Option (List SM)) (u : Nat) : Option (List SM) := match acc with
  | none => none
  | some found => match bandsByQ h s.bands (firesQ o u) with
    | none => none
    | some sp => some (found ++ sp.map (behindQ h s o u))
def ledQ (h : HoldM) (s : SM) (o : Nat) : Option (List SM) := (subsets (mayQ h s o)).foldl (ledStep h s o) (some [])
theorem part_next (h : HoldM) (bands : List Nat) (fires i : Nat) : partQ h bands fires (i + 1) = stepQ h bands fires (partQ h bands fires i) i := by
  unfold partQ
  rw [List.range_succ, List.foldl_append]
  rfl
theorem part_none (h : HoldM) (bands : List Nat) (fires : Nat) {i : Nat} (e : partQ h bands fires i = none) : ∀ n, i ≤ n → partQ h bands fires n = none
  | 0, hn => by
    obtain rfl : i = 0 := by omega
    exact e
  | n + 1, hn => by
    by_cases q : i = n + 1
    · subst q
      exact e
    · rw [part_next, part_none h bands fires e n (by omega)]
      rfl
theorem tch_len {h : HoldM} (w : WF h) {r : Nat} (hr : r < h.many) (bands : List Nat) (f : Bool) : (tchQ h r bands f).length ≤ 6 := by
  unfold tchQ touchedQ
  refine Nat.le_trans (List.length_filter_le _ _) ?_
  rw [List.length_range]
  have := (w.mks r hr).2
  omega
theorem wide_len {t : List Nat} (ht : t.length ≤ 6) : ∀ l : List (List Nat), (wideQ t l).length ≤ 6 * l.length
  | [] => by simp [wideQ]
  | a :: l => by
    have ih := wide_len ht l
    unfold wideQ at ih ⊢
    rw [List.flatMap_cons, List.length_append, List.length_map, List.length_cons]
    omega
theorem wide_take_len {t : List Nat} (ht : t.length ≤ 6) (l : List (List Nat)) (i : Nat) : (wideQ t (l.take i)).length ≤ 6 * l.length := by
  have := wide_len ht (l.take i)
  rw [List.length_take] at this
  omega
structure PartOk (h : HoldM) (i : Nat) (found : List (List Nat)) : Prop where
  few : found.length ≤ 6 ^ i
  len : ∀ one ∈ found, one.length = i
  lt : ∀ one ∈ found, ∀ r, r < i → one.getD r 0 + 1 < (h.mk_ r).length
theorem mem_wide {t : List Nat} {l : List (List Nat)} {x : List Nat} (h : x ∈ wideQ t l) : ∃ one b, one ∈ l ∧ b ∈ t ∧ x = one ++ [b] := by
  obtain ⟨one, h1, h2⟩ := List.mem_flatMap.mp h
  obtain ⟨b, h3, rfl⟩ := List.mem_map.mp h2
  exact ⟨one, b, h1, h3, rfl⟩
theorem part_ok {h : HoldM} (w : WF h) {bands : List Nat} {fires : Nat} : ∀ {i : Nat} {found : List (List Nat)}, i ≤ h.many → partQ h bands fires i = some found → PartOk h i found
  | 0, found, _, e => by
    have e2 : some [[]] = some found := e
    cases e2
    exact ⟨by decide, fun one ho => by simp at ho; rw [ho]; rfl, fun one ho r hr => by omega⟩
  | i + 1, found, hi, e => by
    rw [part_next] at e
    cases q : partQ h bands fires i with
    | none =>
      rw [q] at e
      cases e
    | some f0 =>
      have ih := part_ok w (show i ≤ h.many by omega) q
      rw [q] at e
      have e2 : (if wthQ h i bands (fires.testBit i) then some (wideQ (tchQ h i bands (fires.testBit i)) f0) else none) = some found := e
      split at e2
      · have e3 := Option.some.inj e2
        subst e3
        have tl := tch_len w (show i < h.many by omega) bands (fires.testBit i)
        refine ⟨?_, fun x hx => ?_, fun x hx r hr => ?_⟩
        · have := wide_len tl f0
          have f := ih.few
          rw [Nat.pow_succ]
          omega
        · obtain ⟨one, b, h1, h2, rfl⟩ := mem_wide hx
          rw [List.length_append, ih.len one h1]
          rfl
        · obtain ⟨one, b, h1, h2, rfl⟩ := mem_wide hx
          have hl := ih.len one h1
          by_cases c : r < i
          · rw [List.getD_eq_getElem?_getD, List.getElem?_append_left (by omega), ← List.getD_eq_getElem?_getD]
            exact ih.lt one h1 r c
          · obtain rfl : r = i := by omega
            rw [List.getD_eq_getElem?_getD, List.getElem?_append_right (by omega), hl, Nat.sub_self]
            show b + 1 < _
            have := List.mem_range.mp (List.mem_filter.mp h2).1
            omega
      · cases e2
theorem fires_sub : ∀ o, o < 16 → ∀ u, u < 16 → ∀ r, r < 4 → (firesQ o u).testBit r = true → o.testBit r = true := by decide +kernel
theorem bands_len {h : HoldM} (w : WF h) {bands : List Nat} {fires : Nat} {found : List (List Nat)} (e : bandsByQ h bands fires = some found) : found.length ≤ 36 := by
  have f := (part_ok w (Nat.le_refl _) e).few
  have := w.few
  have h2 : 6 ^ h.many ≤ 6 ^ 2 := Nat.pow_le_pow_right (by decide) this
  omega
theorem led_none {h : HoldM} {s : SM} {o : Nat} : ∀ l : List Nat, l.foldl (ledStep h s o) none = none
  | [] => rfl
  | u :: l => led_none l
theorem led_stop {h : HoldM} {s : SM} {o : Nat} {l : List Nat} {i : Nat} (e : (l.take i).foldl (ledStep h s o) (some []) = none) : l.foldl (ledStep h s o) (some []) = none := by
  conv => lhs; rw [← List.take_append_drop i l]
  rw [List.foldl_append, e]
  exact led_none _
theorem led_len {h : HoldM} (w : WF h) {s : SM} {o : Nat} (l : List Nat) : ∀ (i : Nat) {found : List SM}, (l.take i).foldl (ledStep h s o) (some []) = some found → found.length ≤ 36 * i
  | 0, found, e => by
    have e2 : some [] = some found := e
    cases e2
    exact Nat.zero_le _
  | i + 1, found, e => by
    by_cases hi : i < l.length
    · have hx : l.take (i + 1) = l.take i ++ [l[i]] := by rw [List.take_add_one, List.getElem?_eq_getElem hi]; rfl
      rw [hx, List.foldl_append] at e
      cases q : (l.take i).foldl (ledStep h s o) (some []) with
      | none =>
        rw [q] at e
        cases e
      | some f0 =>
        have ih := led_len w l i q
        rw [q] at e
        have e2 : (match bandsByQ h s.bands (firesQ o l[i]) with
          | none => none
          | some sp => some (f0 ++ sp.map (behindQ h s o l[i]))) = some found := e
        cases q2 : bandsByQ h s.bands (firesQ o l[i]) with
        | none =>
          rw [q2] at e2
          cases e2
        | some sp =>
          rw [q2] at e2
          have e3 := Option.some.inj e2
          subst e3
          have := bands_len w q2
          rw [List.length_append, List.length_map]
          omega
    · rw [List.take_of_length_le (by omega)] at e
      rw [← List.take_of_length_le (show l.length ≤ i by omega)] at e
      have := led_len w l i e
      omega
end SK
/-! Plain Lean: counting. -/
namespace SK
theorem nodup_le {α : Type} [DecidableEq α] : ∀ (l m : List α), l.Nodup → (∀ x ∈ l, x ∈ m) → l.length ≤ m.length
  | [], m, _, _ => Nat.zero_le _
  | x :: l, m, hn, hs => by
    have hx := hs x (List.mem_cons_self ..)
    have h1 := List.nodup_cons.mp hn
    have ih := nodup_le l (m.erase x) h1.2 fun y hy => by
      have ne : y ≠ x := fun z => h1.1 (z ▸ hy)
      exact (List.mem_erase_of_ne ne).mpr (hs y (List.mem_cons_of_mem _ hy))
    have e := List.length_erase_of_mem hx
    have : 0 < m.length := List.length_pos_of_mem hx
    rw [List.length_cons]
    omega
/-- all lists of n numbers below k -/
def allB (k : Nat) : Nat → List (List Nat)
  | 0 => [[]]
  | n + 1 => (List.range k).flatMap fun b => (allB k n).map (b :: ·)
theorem mem_allB {k : Nat} : ∀ {n : Nat} {l : List Nat}, l.length = n → (∀ x ∈ l, x < k) → l ∈ allB k n
  | 0, [], _, _ => List.mem_singleton.mpr rfl
  | n + 1, b :: l, hl, h => List.mem_flatMap.mpr ⟨b, List.mem_range.mpr (h b (List.mem_cons_self ..)), List.mem_map.mpr ⟨l, mem_allB (by simpa using hl) fun x hx => h x (List.mem_cons_of_mem _ hx), rfl⟩⟩
theorem allB_len {k : Nat} : ∀ n : Nat, (allB k n).length = k ^ n
  | 0 => rfl
  | n + 1 => by
    unfold allB
    rw [List.length_flatMap]
    have e : (List.range k).map (fun b => ((allB k n).map (b :: ·)).length) = List.replicate k (k ^ n) := by
      refine List.ext_getElem (by simp) fun i h1 h2 => ?_
      rw [List.getElem_map, List.length_map, allB_len n, List.getElem_replicate]
    rw [e, List.sum_replicate_nat, Nat.pow_succ, Nat.mul_comm]
theorem getD_all {l : List Nat} {n k : Nat} (hl : l.length = n) (h : ∀ r, r < n → l.getD r 0 < k) : ∀ x ∈ l, x < k := fun x hx => by
  obtain ⟨i, hi, rfl⟩ := List.mem_iff_getElem.mp hx
  have := h i (by omega)
  rw [List.getD_eq_getElem?_getD, List.getElem?_eq_getElem hi] at this
  exact this
end SK
set_option maxRecDepth 100000
set_option maxHeartbeats 4000000
namespace SK
open PySem L2 PyProof.Rows
section
variable {P : Program} {w : World} {K : PySem.W.Frag} {mg : Str → Option Value} {base : Heap}
def nI (n : Nat) : D := .int (n : Int)
def nL (l : List Nat) : D := .lst (l.map nI)
theorem shr_cast (b r : Nat) : (b : Int) / 2 ^ ((r : Int).toNat) = ((b / 2 ^ r : Nat) : Int) := by
  rw [Int.toNat_natCast, Int.natCast_ediv, Int.natCast_pow]
  rfl
def S_has_room (ds : List D) (d : D) : Prop := ∃ b r : Nat, ds = [nI b, nI r] ∧ d = .bl (b.testBit r)
theorem c_has_room (T : Prg K mg) : Cal P w K mg base 1 "has_room" ["bits", "room"] [] (spD K S_has_room) := by
  obtain ⟨fd, F⟩ := F_has_room T
  refine mkC F (g_has_room T) sc_has_room (fun _ _ _ _ _ _ us hl => match us, hl with | [_, _], _ => rfl) (fun ds d h => ?_) fun cdv A outer s H E ds d hr h => ?_
  · obtain ⟨b, r, rfl, rfl⟩ := h
    rfl
  · obtain ⟨b, r, rfl, rfl⟩ := h
    refine ds_ret (de_eq (de_mod (de_shr (nm 0) (nm 1) (Int.natCast_nonneg _)) de_int (by decide)) de_int) ?_
    show D.bl _ = D.bl _
    rw [shr_cast, Nat.testBit_eq_decide_div_mod_eq]
    congr 1
    refine decide_eq_decide.mpr ?_
    omega
/-! with_room, without_room -/
def S_with_room (ds : List D) (d : D) : Prop := ∃ b r : Nat, r < 64 ∧ ds = [nI b, nI r] ∧ d = nI (setb b r)
theorem shl_cast (r : Nat) : (1 : Int) * 2 ^ ((r : Int).toNat) = ((2 ^ r : Nat) : Int) := by
  rw [Int.toNat_natCast, Int.one_mul, Int.natCast_pow]
  rfl
theorem cpow1 {r : Nat} (h : r < 64) : CPow 1 (r : Int) := ⟨Int.natCast_nonneg _, by omega, by decide⟩
theorem c_with_room (T : Prg K mg) : Cal P w K mg base 1 "with_room" ["bits", "room"] [] (spD K S_with_room) := by
  obtain ⟨fd, F⟩ := F_with_room T
  refine mkC F (g_with_room T) sc_with_room (fun _ _ _ _ _ _ us hl => match us, hl with | [_, _], _ => rfl) (fun ds d h => ?_) fun cdv A outer s H E ds d hr h => ?_
  · obtain ⟨b, r, _, rfl, rfl⟩ := h
    rfl
  · obtain ⟨b, r, hl, rfl, rfl⟩ := h
    refine ds_ret (de_bor (nm 0) (de_shl de_int (nm 1) (cpow1 hl))) ?_
    show D.int _ = D.int _
    rw [shl_cast, Bits.bitOr_pp (Int.natCast_nonneg _) (Int.natCast_nonneg _)]
    rfl
def S_without_room (ds : List D) (d : D) : Prop := ∃ b r : Nat, r < 64 ∧ ds = [nI b, nI r] ∧ d = nI (clr b r)
theorem c_without_room (T : Prg K mg) : Cal P w K mg base 2 "without_room" ["bits", "room"] [] (spD K S_without_room) := by
  obtain ⟨fd, F⟩ := F_without_room T
  refine mkC F (g_without_room T) sc_without_room (fun _ _ _ _ _ _ us hl => match us, hl with | [_, _], _ => rfl) (fun ds d h => ?_) fun cdv A outer s H E ds d hr h => ?_
  · obtain ⟨b, r, _, rfl, rfl⟩ := h
    rfl
  · obtain ⟨b, r, hl, rfl, rfl⟩ := h
    refine ds_if (dt_val (call (c_has_room T) hr (da_cons (nm 0) (da_cons (nm 1) da_nil)) ⟨b, r, rfl, rfl⟩)) (fun hb => ?_) fun hb => ?_
    · refine ds_ret (de_sub (nm 0) (de_shl de_int (nm 1) (cpow1 hl))) ?_
      show D.int _ = D.int _
      rw [shl_cast, clr, if_pos hb]
      have h2 : 2 ^ r ≤ b := Nat.ge_two_pow_of_testBit hb
      congr 1
      omega
    · refine ds_nil (ds_ret (nm 0) ?_)
      show D.int _ = D.int _
      rw [clr, if_neg (by rw [hb]; decide)]
/-! members -/
theorem mem_end : ∀ b, b < 16 → ∀ k, k ≤ 4 → b / 2 ^ k = 0 → (List.range k).filter b.testBit = members b := by decide +kernel
theorem mem_next : ∀ b, b < 16 → ∀ k, k ≤ 4 → (List.range (k + 1)).filter b.testBit = if b / 2 ^ k % 2 = 1 then (List.range k).filter b.testBit ++ [k] else (List.range k).filter b.testBit := by decide +kernel
theorem mem_lt : ∀ b, b < 16 → ∀ k, k ≤ 4 → 0 < b / 2 ^ k → k < 4 := by decide +kernel
theorem filter_range_len (k : Nat) (f : Nat → Bool) : ((List.range k).filter f).length ≤ k := Nat.le_trans (List.length_filter_le _ _) (by rw [List.length_range]; exact Nat.le_refl _)
def S_members (ds : List D) (d : D) : Prop := ∃ b : Nat, b < 16 ∧ ds = [nI b] ∧ d = nL (members b)
theorem c_members (T : Prg K mg) : Cal P w K mg base 1 "members" ["bits"] [] (spD K S_members) := by
  obtain ⟨fd, F⟩ := F_members T
  refine mkC F (g_members T) sc_members (fun _ _ _ _ _ _ us hl => match us, hl with | [_], _ => rfl) (fun ds d h => ?_) fun cdv A outer s H E ds d hr h => ?_
  · obtain ⟨b, _, rfl, rfl⟩ := h
    rfl
  · obtain ⟨b, hl, rfl, rfl⟩ := h
    have nd := sc_members.nd
    refine own 1 nd (do_lst da_nil) (asg 2 nd de_int ?_)
    refine whl (fun m ρ' => ∃ k, k ≤ 4 ∧ m = b / 2 ^ k ∧ ρ' = [some (.val (nI (b / 2 ^ k))), some (.own (((List.range k).filter b.testBit).map nI)), some (.val (nI k))]) b ⟨0, by omega, by simp, by simp [rho0]; rfl⟩ ?_
    rintro m ρ' ⟨k, hk, rfl, rfl⟩
    refine ⟨_, dt_gt (nm 0) de_int, fun h1 => ?_, fun h1 => ?_⟩
    · have h2 : 0 < b / 2 ^ k := by
        have z := of_decide_eq_true h1
        generalize b / 2 ^ k = q at z ⊢
        omega
      have h3 := mem_lt b hl k hk h2
      have fin : ∀ l : List D, l = (((List.range (k + 1)).filter b.testBit).map nI) → DS (cx P w K mg base n_members "members" (defScope s_members) (He.ga K "members") cdv A outer s H E) [some (.val (nI (b / 2 ^ k))), some (.own l), some (.val (nI k))] ((defBody s_members).getD 2 (.Pass ⟨0, 0, 0, 0⟩) |> fun st => match st with | .While _ b _ _ => b.drop 1 | _ => [])
          ⟨fun ρ2 => ∃ m', m' < b / 2 ^ k ∧ ∃ k, k ≤ 4 ∧ m' = b / 2 ^ k ∧ ρ2 = [some (.val (nI (b / 2 ^ k))), some (.own (((List.range k).filter b.testBit).map nI)), some (.val (nI k))], fun d' => d' = nL (members b), fun _ => True⟩ := fun l el => by
        subst el
        refine asg 0 nd (de_div (nm 0) de_int ⟨by decide, by decide⟩) (asg 2 nd (de_add (nm 2) de_int) (ds_nil ?_))
        have e4 : b / 2 ^ (k + 1) = b / 2 ^ k / 2 := by rw [Nat.pow_succ, Nat.div_div_eq_div_mul]
        refine ⟨b / 2 ^ (k + 1), by omega, k + 1, by omega, rfl, ?_⟩
        show [_, _, _] = [_, _, _]
        rw [e4]
        rfl
      refine ds_if (dt_eq (de_mod (nm 0) de_int (by decide)) de_int) (fun h4 => ?_) fun h4 => ?_
      · refine app 1 (nm 2) ?_ (ds_nil (fin _ ?_))
        · rw [List.length_map]
          exact Nat.lt_of_le_of_lt (filter_range_len k _) (small1000 (by omega))
        have h5 : b / 2 ^ k % 2 = 1 := by
          have z := of_decide_eq_true h4
          generalize b / 2 ^ k = q at z ⊢
          omega
        rw [mem_next b hl k hk, if_pos h5, List.map_append]
        rfl
      · refine ds_nil (fin _ ?_)
        have h5 : ¬ b / 2 ^ k % 2 = 1 := by
          have z := of_decide_eq_false h4
          generalize b / 2 ^ k = q at z ⊢
          omega
        rw [mem_next b hl k hk, if_neg h5]
    · have h2 : b / 2 ^ k = 0 := by
        have z := of_decide_eq_false h1
        generalize b / 2 ^ k = q at z
        omega
      refine frz 1 (ds_ret (nm 1) ?_)
      show D.lst _ = D.lst _
      rw [mem_end b hl k hk h2]
def S_how_many (ds : List D) (d : D) : Prop := ∃ b : Nat, b < 16 ∧ ds = [nI b] ∧ d = nI (howMany b)
theorem c_how_many (T : Prg K mg) : Cal P w K mg base 2 "how_many" ["bits"] [] (spD K S_how_many) := by
  obtain ⟨fd, F⟩ := F_how_many T
  refine mkC F (g_how_many T) sc_how_many (fun _ _ _ _ _ _ us hl => match us, hl with | [_], _ => rfl) (fun ds d h => ?_) fun cdv A outer s H E ds d hr h => ?_
  · obtain ⟨b, _, rfl, rfl⟩ := h
    rfl
  · obtain ⟨b, hl, rfl, rfl⟩ := h
    have bl := b_len T
    refine ds_ret (len_L bl (call (c_members T) hr (da_one (nm 0)) ⟨b, hl, rfl, rfl⟩)) ?_
    rw [List.length_map]
    rfl
/-! bits_of -/
theorem foldl_next {α β : Type} (f : β → α → β) (z : β) {l : List α} {i : Nat} {a : α} (h : l[i]? = some a) : (l.take (i + 1)).foldl f z = f ((l.take i).foldl f z) a := by
  rw [take_next h, List.foldl_append]
  rfl
def S_bits_of (ds : List D) (d : D) : Prop := ∃ l : List Nat, (∀ r ∈ l, r < 64) ∧ ds = [nL l] ∧ d = nI (bitsOf l)
theorem c_bits_of (T : Prg K mg) : Cal P w K mg base 2 "bits_of" ["rooms"] [] (spD K S_bits_of) := by
  obtain ⟨fd, F⟩ := F_bits_of T
  refine mkC F (g_bits_of T) sc_bits_of (fun _ _ _ _ _ _ us hl => match us, hl with | [_], _ => rfl) (fun ds d h => ?_) fun cdv A outer s H E ds d hr h => ?_
  · obtain ⟨b, _, rfl, rfl⟩ := h
    rfl
  · obtain ⟨l, hl, rfl, rfl⟩ := h
    have nd := sc_bits_of.nd
    refine asg 1 nd de_int ?_
    refine forL l nI 2 nd (nm 0) (fun i ρ' => ∃ b, ρ' = [some (.val (nL l)), some (.val (nI ((l.take i).foldl setb 0))), b]) ⟨none, rfl⟩ ?_ ?_
    · rintro i r ρ' hi ⟨b, rfl⟩
      refine asg 1 nd (call (c_with_room T) hr (da_cons (nm 1) (da_cons (nm 2) da_nil)) ⟨_, r, hl r (List.mem_of_getElem? hi), rfl, rfl⟩) (ds_nil ⟨some (.val (nI r)), ?_⟩)
      rw [foldl_next setb 0 hi]
      rfl
    · rintro ρ' ⟨b, rfl⟩
      refine ds_ret (nm 1) ?_
      rw [List.take_length]
      rfl
/-! subsets -/
def S_subsets (ds : List D) (d : D) : Prop := ∃ b : Nat, b < 16 ∧ ds = [nI b] ∧ d = nL (subsets b)
def subF (f : List Nat) (r : Nat) : List Nat := f ++ f.map (· + 2 ^ r)
theorem filt {α : Type} (l : List α) : l.filter (fun _ => true) = l := List.filter_eq_self.mpr fun _ _ => rfl
theorem sub_len : ∀ b, b < 16 → ∀ i, i ≤ 4 → (((members b).take i).foldl subF [0]).length ≤ 16 := by decide +kernel
theorem mem_small : ∀ b, b < 16 → (members b).length ≤ 4 ∧ ∀ r ∈ members b, r < 4 := by decide +kernel
theorem c_subsets (T : Prg K mg) : Cal P w K mg base 2 "subsets" ["bits"] [] (spD K S_subsets) := by
  obtain ⟨fd, F⟩ := F_subsets T
  refine mkC F (g_subsets T) sc_subsets (fun _ _ _ _ _ _ us hl => match us, hl with | [_], _ => rfl) (fun ds d h => ?_) fun cdv A outer s H E ds d hr h => ?_
  · obtain ⟨b, _, rfl, rfl⟩ := h
    rfl
  · obtain ⟨b, hl, rfl, rfl⟩ := h
    have nd := sc_subsets.nd
    obtain ⟨m1, m2⟩ := mem_small b hl
    refine asg 1 nd (do_lst (da_one de_int)).see ?_
    refine forL (members b) nI 2 nd (call (c_members T) hr (da_one (nm 0)) ⟨b, hl, rfl, rfl⟩) (fun i ρ' => i ≤ (members b).length → ∃ b1 b2, ρ' = [some (.val (nI b)), some (.val (nL (((members b).take i).foldl subF [0]))), b1, b2]) (fun _ => ⟨none, none, rfl⟩) ?_ ?_
    · intro i r ρ' hi iv
      have hil := (List.getElem?_eq_some_iff.mp hi).1
      obtain ⟨b1, b2, rfl⟩ := iv (by omega)
      have hr4 : r < 4 := m2 r (List.mem_of_getElem? hi)
      have hs := sub_len b hl i (by omega)
      refine asg 1 nd (do_catL (nm 1) (lc 3 nd (((members b).take i).foldl subF [0]) nI (nm 1) (fun _ => true) (fun a => nI (a + 2 ^ r)) (fun a _ s0 H0 C cl fp => ⟨dq_nil, fun _ => ?_⟩) (small1000 (by omega)) (blkOk_by (N := n_subsets) (sc := defScope s_subsets) (by decide +kernel))).see ?_).see (ds_nil fun _ => ⟨some (.val (nI r)), b2, ?_⟩)
      · refine de_is (de_add (nm 3) (de_shl de_int (nm 2) (cpow1 (by omega)))) ?_
        show D.int _ = D.int _
        rw [shl_cast]
        congr 1
      · simp only [List.length_map, filt]
        exact Nat.le_trans (by omega) (Nat.le_of_lt (small1000 (n := 32) (by omega)))
      · rw [foldl_next subF [0] hi]
        show [_, _, _, _] = [_, _, _, _]
        simp only [filt, subF, nL, List.map_append, List.map_map]
        rfl
    · intro ρ' iv
      obtain ⟨b1, b2, rfl⟩ := iv (Nat.le_refl _)
      refine ds_ret (nm 1) ?_
      rw [List.take_length]
      rfl
end
end SK
set_option maxRecDepth 100000
set_option maxHeartbeats 4000000
namespace SK
open PySem L2 PyProof.Rows
section
variable {P : Program} {w : World} {K : PySem.W.Frag} {mg : Str → Option Value} {base : Heap}
def eQ (q : Q) : D := .tup [.int q.1, .int q.2]
def S_divisor (ds : List D) (d : D) : Prop := ∃ a b : Int, ds = [.int a, .int b] ∧ d = nI (Int.gcd a b)
theorem c_divisor (T : Prg K mg) : Cal P w K mg base 1 "divisor" ["one", "other"] [] (spD K S_divisor) := by
  obtain ⟨fd, F⟩ := F_divisor T
  refine mkC F (g_divisor T) sc_divisor (fun _ _ _ _ _ _ us hl => match us, hl with | [_, _], _ => rfl) (fun ds d h => ?_) fun cdv A outer s H E ds d hr h => ?_
  · obtain ⟨a, b, rfl, rfl⟩ := h
    rfl
  · obtain ⟨a, b, rfl, rfl⟩ := h
    have nd := sc_divisor.nd
    refine asg 2 nd (abs_ (b_abs T) (nm 0)) (asg 3 nd (abs_ (b_abs T) (nm 1)) ?_)
    refine whl (fun m ρ' => ∃ h x, Nat.gcd h m = Int.gcd a b ∧ ρ' = [some (.val (.int a)), some (.val (.int b)), some (.val (nI h)), some (.val (nI m)), x]) b.natAbs ⟨a.natAbs, none, rfl, rfl⟩ ?_
    rintro m ρ' ⟨h, x, hg, rfl⟩
    refine ⟨_, dt_ne (nm 3) de_int, fun h1 => ?_, fun h1 => ?_⟩
    · have h2 : 0 < m := by
        rcases Nat.eq_zero_or_pos m with z | z
        · subst z
          cases h1
        · exact z
      refine asg 4 nd (de_mod (nm 2) (nm 3) (by omega)) (asg 2 nd (nm 3) (asg 3 nd (nm 4) (ds_nil ⟨h % m, Nat.mod_lt _ h2, m, some (.val (nI (h % m))), ?_, rfl⟩)))
      rw [← hg, Nat.gcd_comm m, ← Nat.gcd_rec, Nat.gcd_comm]
    · have h2 : m = 0 := by
        rcases Nat.eq_zero_or_pos m with z | z
        · exact z
        · exfalso
          have e : decide ((m : Int) = 0) = false := decide_eq_false (by omega)
          rw [e] at h1
          cases h1
      subst h2
      refine ds_ret (nm 2) ?_
      rw [← hg, Nat.gcd_zero_right]
def S_fraction (ds : List D) (d : D) : Prop := ∃ (t b : Int) (n : Nat), 0 < b ∧ 0 < n ∧ n ≤ 8999 ∧ b.natAbs < 2 ^ n ∧ ds = [.int t, .int b] ∧ d = eQ (frQ t b)
theorem c_fraction (T : Prg K mg) : Cal P w K mg base 2 "fraction" ["top", "bottom"] [] (spD K S_fraction) := by
  obtain ⟨fd, F⟩ := F_fraction T
  refine mkC F (g_fraction T) sc_fraction (fun _ _ _ _ _ _ us hl => match us, hl with | [_, _], _ => rfl) (fun ds d h => ?_) fun cdv A outer s H E ds d hr h => ?_
  · obtain ⟨a, b, _, _, _, _, _, rfl, rfl⟩ := h
    rfl
  · obtain ⟨t, b, n, hb, n0, n9, hb2, rfl, rfl⟩ := h
    have nd := sc_fraction.nd
    have hg := gcd_pos (t := t) hb
    have hgb : (Int.gcd t b : Int).natAbs < 2 ^ n := by
      refine Nat.lt_of_le_of_lt ?_ hb2
      rw [Int.natAbs_natCast]
      exact Nat.le_of_dvd (by omega) (Nat.gcd_dvd_right ..)
    have cd : ∀ i : Int, CDivW i (Int.gcd t b : Nat) := fun i => wide_div (by omega) hgb n0 (by omega)
    refine ds_skip (dt_eq (nm 1) de_int) (decide_eq_false (by omega)) (asg 2 nd (call (c_divisor T) hr (da_cons (nm 0) (da_cons (nm 1) da_nil)) ⟨t, b, rfl, rfl⟩) ?_)
    refine ds_skip (dt_lt (nm 1) de_int) (decide_eq_false (by omega)) ?_
    exact ds_ret (de_tup (da_cons (de_div (nm 0) (nm 2) (cd t)) (da_cons (de_div (nm 1) (nm 2) (cd b)) da_nil))) rfl
theorem eQ0 (q : Q) : atI [D.int q.1, D.int q.2] 0 = some (.int q.1) := rfl
theorem eQ1 (q : Q) : atI [D.int q.1, D.int q.2] 1 = some (.int q.2) := rfl
theorem q0 {X : Cx} {ρ : Rho} {e : Expr} {q : Q} {pos p : Pos} {j : Nat} (h : DE X ρ e (eQ q)) (hs : PlainIx (.Constant (.int 0) j p) := by intro _ _; rfl) : DE X ρ (.Subscript e (.Constant (.int 0) j p) pos) (.int q.1) := de_ixT h de_int (eQ0 q) hs
theorem q1 {X : Cx} {ρ : Rho} {e : Expr} {q : Q} {pos p : Pos} {j : Nat} (h : DE X ρ e (eQ q)) (hs : PlainIx (.Constant (.int 1) j p) := by intro _ _; rfl) : DE X ρ (.Subscript e (.Constant (.int 1) j p) pos) (.int q.2) := de_ixT h de_int (eQ1 q) hs
theorem cmul {n m : Nat} {i j : Int} (hi : i.natAbs < 2 ^ n) (hj : j.natAbs < 2 ^ m) (hn : 0 < n) (hm : 0 < m) (h : n + m ≤ 1000000) : CMulW i j := wide_mul hi hj hn hm h
structure Two (a b : Q) : Prop where
  ex : ∃ n m, 0 < n ∧ 0 < m ∧ n + m ≤ 7999 ∧ Sm n a ∧ Sm m b
theorem Two.of {n m : Nat} {a b : Q} (ha : Sm n a) (hb : Sm m b) (h0 : 0 < n := by decide) (h1 : 0 < m := by decide) (h : n + m ≤ 7999 := by decide) : Two a b := ⟨n, m, h0, h1, h, ha, hb⟩
def S_two (f : Q → Q → D) (ds : List D) (d : D) : Prop := ∃ a b : Q, Two a b ∧ ds = [eQ a, eQ b] ∧ d = f a b
theorem c_plus (T : Prg K mg) : Cal P w K mg base 3 "plus" ["one", "other"] [] (spD K (S_two fun a b => eQ (plusQ a b))) := by
  obtain ⟨fd, F⟩ := F_plus T
  refine mkC F (g_plus T) sc_plus (fun _ _ _ _ _ _ us hl => match us, hl with | [_, _], _ => rfl) (fun ds d h => ?_) fun cdv A outer s H E ds d hr h => ?_
  · obtain ⟨a, b, _, rfl, rfl⟩ := h
    rfl
  · obtain ⟨a, b, ⟨n, m, h0, h1, hl, ha, hb⟩, rfl, rfl⟩ := h
    refine ds_ret (call (c_fraction T) hr (da_cons (de_add (de_mul (q0 (nm 0)) (q1 (nm 1)) (cmul ha.top hb.bot h0 h1 (by omega))) (de_mul (q0 (nm 1)) (q1 (nm 0)) (cmul hb.top ha.bot h1 h0 (by omega)))) (da_cons (de_mul (q1 (nm 0)) (q1 (nm 1)) (cmul ha.bot hb.bot h0 h1 (by omega))) da_nil))
      ⟨_, _, n + m, Int.mul_pos ha.pos hb.pos, by omega, by omega, lt_mul ha.bot hb.bot, rfl, rfl⟩) rfl
theorem c_minus (T : Prg K mg) : Cal P w K mg base 3 "minus" ["one", "other"] [] (spD K (S_two fun a b => eQ (minusQ a b))) := by
  obtain ⟨fd, F⟩ := F_minus T
  refine mkC F (g_minus T) sc_minus (fun _ _ _ _ _ _ us hl => match us, hl with | [_, _], _ => rfl) (fun ds d h => ?_) fun cdv A outer s H E ds d hr h => ?_
  · obtain ⟨a, b, _, rfl, rfl⟩ := h
    rfl
  · obtain ⟨a, b, ⟨n, m, h0, h1, hl, ha, hb⟩, rfl, rfl⟩ := h
    refine ds_ret (call (c_fraction T) hr (da_cons (de_sub (de_mul (q0 (nm 0)) (q1 (nm 1)) (cmul ha.top hb.bot h0 h1 (by omega))) (de_mul (q0 (nm 1)) (q1 (nm 0)) (cmul hb.top ha.bot h1 h0 (by omega)))) (da_cons (de_mul (q1 (nm 0)) (q1 (nm 1)) (cmul ha.bot hb.bot h0 h1 (by omega))) da_nil))
      ⟨_, _, n + m, Int.mul_pos ha.pos hb.pos, by omega, by omega, lt_mul ha.bot hb.bot, rfl, rfl⟩) rfl
theorem c_times (T : Prg K mg) : Cal P w K mg base 3 "times" ["one", "other"] [] (spD K (S_two fun a b => eQ (timesQ a b))) := by
  obtain ⟨fd, F⟩ := F_times T
  refine mkC F (g_times T) sc_times (fun _ _ _ _ _ _ us hl => match us, hl with | [_, _], _ => rfl) (fun ds d h => ?_) fun cdv A outer s H E ds d hr h => ?_
  · obtain ⟨a, b, _, rfl, rfl⟩ := h
    rfl
  · obtain ⟨a, b, ⟨n, m, h0, h1, hl, ha, hb⟩, rfl, rfl⟩ := h
    refine ds_ret (call (c_fraction T) hr (da_cons (de_mul (q0 (nm 0)) (q0 (nm 1)) (cmul ha.top hb.top h0 h1 (by omega))) (da_cons (de_mul (q1 (nm 0)) (q1 (nm 1)) (cmul ha.bot hb.bot h0 h1 (by omega))) da_nil))
      ⟨_, _, n + m, Int.mul_pos ha.pos hb.pos, by omega, by omega, lt_mul ha.bot hb.bot, rfl, rfl⟩) rfl
theorem c_under (T : Prg K mg) : Cal P w K mg base 1 "under" ["one", "other"] [] (spD K (S_two fun a b => .bl (underQ a b))) := by
  obtain ⟨fd, F⟩ := F_under T
  refine mkC F (g_under T) sc_under (fun _ _ _ _ _ _ us hl => match us, hl with | [_, _], _ => rfl) (fun ds d h => ?_) fun cdv A outer s H E ds d hr h => ?_
  · obtain ⟨a, b, _, rfl, rfl⟩ := h
    rfl
  · obtain ⟨a, b, ⟨n, m, h0, h1, hl, ha, hb⟩, rfl, rfl⟩ := h
    exact ds_ret (de_lt (de_mul (q0 (nm 0)) (q1 (nm 1)) (cmul ha.top hb.bot h0 h1 (by omega))) (de_mul (q0 (nm 1)) (q1 (nm 0)) (cmul hb.top ha.bot h1 h0 (by omega)))) rfl
end
end SK
set_option maxRecDepth 100000
set_option maxHeartbeats 4000000
namespace SK
open PySem L2 PyProof.Rows
def eSky (s : Q × Q × Q) : D := .tup [eQ s.1, eQ s.2.1, eQ s.2.2]
def eStv : Option Stv → D
  | none => .non
  | some s => .tup [eQ s.heat, nI s.wood, nI s.stay, nI s.fails]
def eQs (l : List Q) : D := .lst (l.map eQ)
def fH (h : HoldM) : List (Str × D) := [("most", nI h.most), ("cap", nI h.cap), ("load", nI h.load), ("my_marks", .lst (h.marks.map eQs)), ("my_flows", .lst (h.flows.map eQs)), ("my_skies", .lst (h.skies.map eSky)), ("my_stoves", .lst (h.stoves.map eStv))]
abbrev CH (K : PySem.W.Frag) : Addr := He.ga K "Hold"
abbrev eH (K : PySem.W.Frag) (h : HoldM) : D := .ins (CH K) (fH h)
theorem fH_most (h : HoldM) : (fH h).lookup ("most" : Str) = some (nI h.most) := rfl
theorem fH_cap (h : HoldM) : (fH h).lookup ("cap" : Str) = some (nI h.cap) := rfl
theorem fH_load (h : HoldM) : (fH h).lookup ("load" : Str) = some (nI h.load) := rfl
theorem fH_marks (h : HoldM) : (fH h).lookup ("my_marks" : Str) = some (.lst (h.marks.map eQs)) := rfl
theorem fH_flows (h : HoldM) : (fH h).lookup ("my_flows" : Str) = some (.lst (h.flows.map eQs)) := rfl
theorem fH_skies (h : HoldM) : (fH h).lookup ("my_skies" : Str) = some (.lst (h.skies.map eSky)) := rfl
theorem fH_stoves (h : HoldM) : (fH h).lookup ("my_stoves" : Str) = some (.lst (h.stoves.map eStv)) := rfl
theorem at_map {α : Type} {l : List α} {f : α → D} {r : Nat} (a : α) (h : r < l.length) : atI (l.map f) (r : Int) = some (f (l.getD r a)) := by
  refine atI_nat ?_
  rw [List.getElem?_map, List.getElem?_eq_getElem h, List.getD_eq_getElem?_getD, List.getElem?_eq_getElem h]
  rfl
section
variable {P : Program} {w : World} {K : PySem.W.Frag} {mg : Str → Option Value} {base : Heap}
section
variable {X : Cx} {ρ : Rho} {o e : Expr} {es : List Expr} {pos apos : Pos} {h : HoldM} {k : Nat} {m : Str} {ps : List Str} {S : List D → D → Prop} {ds : List D} {d : D}
theorem f_marks (T : Prg X.K mg) (a : DE X ρ o (eH X.K h)) (hb : attributeBase o "my_marks" X.env (eval o X.env) = eval o X.env := by rfl) : DE X ρ (.Attribute o "my_marks" pos) (.lst (h.marks.map eQs)) := de_fld a (cl_Hold T) (na_Hold_my_marks T) (fH_marks h) hb
theorem f_flows (T : Prg X.K mg) (a : DE X ρ o (eH X.K h)) (hb : attributeBase o "my_flows" X.env (eval o X.env) = eval o X.env := by rfl) : DE X ρ (.Attribute o "my_flows" pos) (.lst (h.flows.map eQs)) := de_fld a (cl_Hold T) (na_Hold_my_flows T) (fH_flows h) hb
theorem f_skies (T : Prg X.K mg) (a : DE X ρ o (eH X.K h)) (hb : attributeBase o "my_skies" X.env (eval o X.env) = eval o X.env := by rfl) : DE X ρ (.Attribute o "my_skies" pos) (.lst (h.skies.map eSky)) := de_fld a (cl_Hold T) (na_Hold_my_skies T) (fH_skies h) hb
theorem f_stoves (T : Prg X.K mg) (a : DE X ρ o (eH X.K h)) (hb : attributeBase o "my_stoves" X.env (eval o X.env) = eval o X.env := by rfl) : DE X ρ (.Attribute o "my_stoves" pos) (.lst (h.stoves.map eStv)) := de_fld a (cl_Hold T) (na_Hold_my_stoves T) (fH_stoves h) hb
theorem f_most (T : Prg X.K mg) (a : DE X ρ o (eH X.K h)) (hb : attributeBase o "most" X.env (eval o X.env) = eval o X.env := by rfl) : DE X ρ (.Attribute o "most" pos) (nI h.most) := de_fld a (cl_Hold T) (na_Hold_most T) (fH_most h) hb
theorem f_cap (T : Prg X.K mg) (a : DE X ρ o (eH X.K h)) (hb : attributeBase o "cap" X.env (eval o X.env) = eval o X.env := by rfl) : DE X ρ (.Attribute o "cap" pos) (nI h.cap) := de_fld a (cl_Hold T) (na_Hold_cap T) (fH_cap h) hb
theorem f_load (T : Prg X.K mg) (a : DE X ρ o (eH X.K h)) (hb : attributeBase o "load" X.env (eval o X.env) = eval o X.env := by rfl) : DE X ρ (.Attribute o "load" pos) (nI h.load) := de_fld a (cl_Hold T) (na_Hold_load T) (fH_load h) hb
theorem g_NOU (T : Prg X.K X.mg) (hg : Gl X "NOUGHT" := by rfl) : DE X ρ (.Name "NOUGHT" pos) (eQ q00) := de_glob (v := .ref (He.ga X.K "NOUGHT")) hg (g_NOUGHT T) rfl fun H => .tup (t_NOUGHT T H) (.cons .int (.cons .int .nil))
theorem g_ON (T : Prg X.K X.mg) (hg : Gl X "ONE" := by rfl) : DE X ρ (.Name "ONE" pos) (eQ (1, 1)) := de_glob (v := .ref (He.ga X.K "ONE")) hg (g_ONE T) rfl fun H => .tup (t_ONE T H) (.cons .int (.cons .int .nil))
end
def S_ask (K : PySem.W.Frag) (ds : List D) (d : D) : Prop := ∃ (h : HoldM) (r : Nat), r < h.many ∧ ds = [eH K h, nI r] ∧ d = .non
theorem c_ask_room (T : Prg K mg) : Met P w K mg base 1 (CH K) "ask_room" ["self", "room"] [] (spD K (S_ask K)) := by
  obtain ⟨fd, F⟩ := F_Hold_ask_room T
  refine mkM F (m_Hold_ask_room T) sc_Hold_ask_room (fun _ _ _ _ _ _ us hl => match us, hl with | [_, _], _ => rfl) (fun ds d h => ?_) fun cdv A outer s H E ds d hr h => ?_
  · obtain ⟨h, r, _, rfl, rfl⟩ := h
    rfl
  · obtain ⟨h, r, hl, rfl, rfl⟩ := h
    refine ds_skip (DW.dt (dw_or (dt_lt (nm 1) de_int) fun _ => dw_or1 (dt_ge (nm 1) (len_L (b_len T) (f_marks T (nm 0)))))) ?_ (ds_nil rfl)
    rw [List.length_map]
    have h1 : r < h.marks.length := hl
    simp only [Bool.or_eq_false_iff, decide_eq_false_iff_not]
    omega
theorem c_many (T : Prg K mg) : Met P w K mg base 1 (CH K) "many" ["self"] [] (spD K fun ds d => ∃ h : HoldM, ds = [eH K h] ∧ d = nI h.many) := by
  obtain ⟨fd, F⟩ := F_Hold_many T
  refine mkM F (m_Hold_many T) sc_Hold_many (fun _ _ _ _ _ _ us hl => match us, hl with | [_], _ => rfl) (fun ds d h => ?_) fun cdv A outer s H E ds d hr h => ?_
  · obtain ⟨h, rfl, rfl⟩ := h
    rfl
  · obtain ⟨h, rfl, rfl⟩ := h
    refine ds_ret (len_L (b_len T) (f_marks T (nm 0))) ?_
    rw [List.length_map]
    rfl
theorem c_marks (T : Prg K mg) : Met P w K mg base 2 (CH K) "marks" ["self", "room"] [] (spD K fun ds d => ∃ (h : HoldM) (r : Nat), r < h.many ∧ ds = [eH K h, nI r] ∧ d = eQs (h.mk_ r)) := by
  obtain ⟨fd, F⟩ := F_Hold_marks T
  refine mkM F (m_Hold_marks T) sc_Hold_marks (fun _ _ _ _ _ _ us hl => match us, hl with | [_, _], _ => rfl) (fun ds d h => ?_) fun cdv A outer s H E ds d hr h => ?_
  · obtain ⟨h, r, _, rfl, rfl⟩ := h
    rfl
  · obtain ⟨h, r, hl, rfl, rfl⟩ := h
    refine ds_expr (de_meth (nm 0) (cl_Hold T) (c_ask_room T) hr rfl (da_one (nm 1)) ⟨h, r, hl, rfl, rfl⟩) ?_
    exact ds_ret (list_L (b_list T) (de_ixL (f_marks T (nm 0)) (nm 1) (at_map [] hl))) rfl
theorem c_sky (T : Prg K mg) : Met P w K mg base 2 (CH K) "sky" ["self", "room"] [] (spD K fun ds d => ∃ (h : HoldM) (r : Nat), r < h.many ∧ r < h.skies.length ∧ ds = [eH K h, nI r] ∧ d = eSky (h.sk r)) := by
  obtain ⟨fd, F⟩ := F_Hold_sky T
  refine mkM F (m_Hold_sky T) sc_Hold_sky (fun _ _ _ _ _ _ us hl => match us, hl with | [_, _], _ => rfl) (fun ds d h => ?_) fun cdv A outer s H E ds d hr h => ?_
  · obtain ⟨h, r, _, _, rfl, rfl⟩ := h
    rfl
  · obtain ⟨h, r, hl, hs, rfl, rfl⟩ := h
    refine ds_expr (de_meth (nm 0) (cl_Hold T) (c_ask_room T) hr rfl (da_one (nm 1)) ⟨h, r, hl, rfl, rfl⟩) ?_
    exact ds_ret (de_ixL (f_skies T (nm 0)) (nm 1) (at_map sky0 hs)) rfl
theorem c_stove (T : Prg K mg) : Met P w K mg base 2 (CH K) "stove" ["self", "room"] [] (spD K fun ds d => ∃ (h : HoldM) (r : Nat), r < h.many ∧ r < h.stoves.length ∧ ds = [eH K h, nI r] ∧ d = eStv (h.st r)) := by
  obtain ⟨fd, F⟩ := F_Hold_stove T
  refine mkM F (m_Hold_stove T) sc_Hold_stove (fun _ _ _ _ _ _ us hl => match us, hl with | [_, _], _ => rfl) (fun ds d h => ?_) fun cdv A outer s H E ds d hr h => ?_
  · obtain ⟨h, r, _, _, rfl, rfl⟩ := h
    rfl
  · obtain ⟨h, r, hl, hs, rfl, rfl⟩ := h
    refine ds_expr (de_meth (nm 0) (cl_Hold T) (c_ask_room T) hr rfl (da_one (nm 1)) ⟨h, r, hl, rfl, rfl⟩) ?_
    exact ds_ret (de_ixL (f_stoves T (nm 0)) (nm 1) (at_map none hs)) rfl
theorem sky_0 (s : Q × Q × Q) : atI [eQ s.1, eQ s.2.1, eQ s.2.2] 0 = some (eQ s.1) := rfl
theorem sky_1 (s : Q × Q × Q) : atI [eQ s.1, eQ s.2.1, eQ s.2.2] 1 = some (eQ s.2.1) := rfl
theorem sky_2 (s : Q × Q × Q) : atI [eQ s.1, eQ s.2.1, eQ s.2.2] 2 = some (eQ s.2.2) := rfl
theorem c_taken (T : Prg K mg) : Met P w K mg base 4 (CH K) "taken_share" ["self", "room"] [] (spD K fun ds d => ∃ (h : HoldM) (r : Nat), TkOk h r ∧ ds = [eH K h, nI r] ∧ d = eQ (takenQ h r)) := by
  obtain ⟨fd, F⟩ := F_Hold_taken_share T
  refine mkM F (m_Hold_taken_share T) sc_Hold_taken_share (fun _ _ _ _ _ _ us hl => match us, hl with | [_, _], _ => rfl) (fun ds d h => ?_) fun cdv A outer s H E ds d hr h => ?_
  · obtain ⟨h, r, _, rfl, rfl⟩ := h
    rfl
  · obtain ⟨h, r, t, rfl, rfl⟩ := h
    have nd := sc_Hold_taken_share.nd
    refine asg 2 nd (de_ixT (de_ixL (f_skies T (nm 0)) (nm 1) (at_map sky0 t.s)) de_int (sky_0 _)) ?_
    refine forL (h.fl r) eQ 3 nd (de_ixL (f_flows T (nm 0)) (nm 1) (at_map [] t.f)) (fun i ρ' => ∃ b, ρ' = [some (.val (eH K h)), some (.val (nI r)), some (.val (eQ (((h.fl r).take i).foldl plusQ (h.sk r).1))), b]) ⟨none, rfl⟩ ?_ ?_
    · rintro i q ρ' hi ⟨b, rfl⟩
      refine asg 2 nd (call (c_plus T) hr (da_cons (nm 2) (da_cons (nm 3) da_nil)) ⟨_, q, Two.of (taken_part t i) (t.q q (List.mem_of_getElem? hi)), rfl, rfl⟩) (ds_nil ⟨some (.val (eQ q)), ?_⟩)
      rw [foldl_next plusQ _ hi]
      rfl
    · rintro ρ' ⟨b, rfl⟩
      refine ds_ret (nm 2) ?_
      rw [List.take_length]
      rfl
def S_share (K : PySem.W.Frag) (ds : List D) (d : D) : Prop := ∃ (h : HoldM) (i o : Nat), i < h.many ∧ o < h.many ∧ TkOk h i ∧ o < (h.fl i).length ∧ ds = [eH K h, nI i, nI o] ∧ d = eQ (shareQ h i o)
theorem c_share (T : Prg K mg) : Met P w K mg base 5 (CH K) "share" ["self", "into", "of"] [] (spD K (S_share K)) := by
  obtain ⟨fd, F⟩ := F_Hold_share T
  refine mkM F (m_Hold_share T) sc_Hold_share (fun _ _ _ _ _ _ us hl => match us, hl with | [_, _, _], _ => rfl) (fun ds d h => ?_) fun cdv A outer s H E ds d hr h => ?_
  · obtain ⟨h, i, o, _, _, _, _, rfl, rfl⟩ := h
    rfl
  · obtain ⟨h, i, o, hi, ho, t, hl, rfl, rfl⟩ := h
    refine ds_expr (de_meth (nm 0) (cl_Hold T) (c_ask_room T) (hr.mono (by decide)) rfl (da_one (nm 1)) ⟨h, i, hi, rfl, rfl⟩) (ds_expr (de_meth (nm 0) (cl_Hold T) (c_ask_room T) (hr.mono (by decide)) rfl (da_one (nm 2)) ⟨h, o, ho, rfl, rfl⟩) ?_)
    refine ds_if (dt_eq (nm 1) (nm 2)) (fun hb => ?_) fun hb => ds_nil ?_
    · have e : i = o := by have := of_decide_eq_true hb; omega
      refine ds_ret (call (c_minus T) (hr.mono (by decide)) (da_cons (g_ON T) (da_cons (de_meth (nm 0) (cl_Hold T) (c_taken T) hr rfl (da_one (nm 1)) ⟨h, i, t, rfl, rfl⟩) da_nil)) ⟨(1, 1), _, Two.of (n := 1) ⟨by decide, by decide, by decide⟩ (taken_sm t), rfl, rfl⟩) ?_
      rw [shareQ, if_pos e]
    · have e : ¬ i = o := by have := of_decide_eq_false hb; omega
      refine ds_ret (de_ixL (de_ixL (f_flows T (nm 0)) (nm 1) (at_map [] t.f)) (nm 2) (at_map q00 hl)) ?_
      rw [shareQ, if_neg e]
      rfl
end
end SK
set_option maxRecDepth 100000
set_option maxHeartbeats 4000000
namespace SK
open PySem L2 PyProof.Rows
structure BandsOk (h : HoldM) (bands : List Nat) : Prop where
  len : bands.length = h.many
  lt : ∀ o, o < h.many → bands.getD o 0 + 1 < (h.mk_ o).length
theorem small_many {h : HoldM} (w : WF h) : -(2 ^ 62) ≤ ((h.many : Nat) : Int) ∧ ((h.many : Nat) : Int) < 2 ^ 62 := by
  have := w.few
  omega
theorem range_next {α : Type} (f : Nat → Bool) (g : Nat → α) (i : Nat) : ((List.range (i + 1)).filter f).map g = if f i = true then ((List.range i).filter f).map g ++ [g i] else ((List.range i).filter f).map g := by
  rw [List.range_succ, List.filter_append, List.map_append]
  by_cases q : f i = true
  · rw [if_pos q, List.filter_cons, if_pos q]
    rfl
  · rw [if_neg q, List.filter_cons, if_neg q]
    show _ ++ [] = _
    rw [List.append_nil]
theorem at_last {α : Type} {l : List α} {f : α → D} (a : α) (h : 0 < l.length) : atI (l.map f) (-1) = some (f (l.getD (l.length - 1) a)) := by
  have e := at_map (f := f) a (show l.length - 1 < l.length by omega)
  unfold atI at e ⊢
  have h1 : ixN (l.map f).length (-1) = ixN (l.map f).length ((l.length - 1 : Nat) : Int) := by
    unfold ixN
    rw [List.length_map]
    rw [if_neg (by omega), if_pos (by omega), if_pos (by omega), if_pos (by omega)]
    congr 1
    omega
  rw [h1]
  exact e
section
variable {P : Program} {w : World} {K : PySem.W.Frag} {mg : Str → Option Value} {base : Heap}
def S_warmth (K : PySem.W.Frag) (ds : List D) (d : D) : Prop := ∃ (h : HoldM) (r : Nat) (airs : List Q) (we : Q) (f : Bool), WF h ∧ r < h.many ∧ airs.length = h.many ∧ (∀ q ∈ airs, Sm 100 q) ∧ Sm 100 we ∧ (f = true → (h.st r).isSome = true) ∧
  ds = [eH K h, nI r, eQs airs, eQ we, .bl f] ∧ d = eQ (warmthQ h r airs we f)
theorem stv_heat {h : HoldM} {r : Nat} (hs : (h.st r).isSome = true) : ∃ s, h.st r = some s ∧ heatQ h r = s.heat := by
  obtain ⟨s, e⟩ := Option.isSome_iff_exists.mp hs
  refine ⟨s, e, ?_⟩
  unfold heatQ
  rw [e]
theorem c_warmth (T : Prg K mg) : Cal P w K mg base 6 "warmth_of" ["hold", "room", "airs", "weather", "fired"] [] (spD K (S_warmth K)) := by
  obtain ⟨fd, F⟩ := F_warmth_of T
  refine mkC F (g_warmth_of T) sc_warmth_of (fun _ _ _ _ _ _ us hl => match us, hl with | [_, _, _, _, _], _ => rfl) (fun ds d h => ?_) fun cdv A outer s H E ds d hr h => ?_
  · obtain ⟨h, r, airs, we, f, _, _, _, _, _, _, rfl, rfl⟩ := h
    rfl
  · obtain ⟨h, r, airs, we, f, wf, hl, hal, ha, hw, hf, rfl, rfl⟩ := h
    have nd := sc_warmth_of.nd
    have r3 := hr.mono (show 3 ≤ 5 by decide)
    refine asg 5 nd (de_meth (nm 0) (cl_Hold T) (c_sky T) (hr.mono (by decide)) rfl (da_one (nm 1)) ⟨h, r, hl, by rw [wf.sk]; exact hl, rfl, rfl⟩) ?_
    refine asg 6 nd (call (c_times T) r3 (da_cons (de_ixT (nm 5) de_int (sky_0 _)) (da_cons (nm 3) da_nil)) ⟨_, _, Two.of (wf.qs r hl).1 hw, rfl, rfl⟩) ?_
    refine forR 7 nd (b_range T) (de_meth0 (nm 0) (cl_Hold T) (c_many T) (hr.mono (by decide)) rfl ⟨h, rfl, rfl⟩) (small_many wf) (fun i ρ' => ∃ b, ρ' = [some (.val (eH K h)), some (.val (nI r)), some (.val (eQs airs)), some (.val (eQ we)), some (.val (.bl f)), some (.val (eSky (h.sk r))), some (.val (eQ (sumQ h r airs (timesQ (h.sk r).1 we) i))), b]) ⟨none, rfl⟩ ?_ ?_
    · rintro o ρ' ho ⟨b, rfl⟩
      have ho2 : o < h.many := by omega
      have fs := (wf.flr r hl)
      refine asg 6 nd (call (c_plus T) r3 (da_cons (nm 6) (da_cons (call (c_times T) r3 (da_cons (de_meth (nm 0) (cl_Hold T) (c_share T) hr rfl (da_cons (nm 1) (da_one (nm 7))) ⟨h, r, o, hl, ho2, wf.tk hl, by rw [fs]; exact ho2, rfl, rfl⟩)
        (da_cons (de_ixL (nm 2) (nm 7) (at_map q00 (by rw [hal]; exact ho2))) da_nil)) ⟨_, _, Two.of (share_sm wf hl) (getD_sm ha o (by decide)), rfl, rfl⟩) da_nil))
        ⟨_, _, Two.of ((sum_sm wf hl ha (timesQ_sm (wf.qs r hl).1 hw) o).mono (show _ ≤ 3000 by have := wf.few; omega)) (timesQ_sm (share_sm wf hl (o := o)) (getD_sm ha o (by decide))), rfl, rfl⟩) (ds_nil ⟨some (.val (nI o)), ?_⟩)
      have e : sumQ h r airs (timesQ (h.sk r).1 we) (o + 1) = plusQ (sumQ h r airs (timesQ (h.sk r).1 we) o) (timesQ (shareQ h r o) (airs.getD o q00)) := by
        unfold sumQ
        rw [List.range_succ, List.foldl_append]
        rfl
      rw [e]
      rfl
    · rintro ρ' ⟨b, rfl⟩
      have sm := (sum_sm wf hl ha (timesQ_sm (wf.qs r hl).1 hw) h.many).mono (show _ ≤ 3000 by have := wf.few; omega)
      refine ds_if (dt_val (nm 4)) (fun hb => ?_) fun hb => ds_nil (ds_ret (nm 6) ?_)
      · obtain ⟨sv, e1, e2⟩ := stv_heat (hf hb)
        have q := (wf.qt r sv e1).1
        refine asg 6 nd (call (c_plus T) r3 (da_cons (nm 6) (da_cons (de_ixT (de_is (de_meth (nm 0) (cl_Hold T) (c_stove T) (hr.mono (by decide)) rfl (da_one (nm 1)) ⟨h, r, hl, by rw [wf.st]; exact hl, rfl, rfl⟩) (by rw [e1]; rfl)) de_int rfl) da_nil)) ⟨_, sv.heat, Two.of sm q, rfl, rfl⟩) (ds_nil (ds_ret (nm 6) ?_))
        unfold warmthQ
        rw [hb, e2]
        rfl
      · unfold warmthQ
        rw [hb]
        rfl
def S_span (K : PySem.W.Frag) (ds : List D) (d : D) : Prop := ∃ (h : HoldM) (r : Nat) (bands : List Nat) (f : Bool), WF h ∧ r < h.many ∧ BandsOk h bands ∧ (f = true → (h.st r).isSome = true) ∧
  ds = [eH K h, nI r, .tup (bands.map nI), .bl f] ∧ d = .tup [eQ (spanQ h r bands f).1, eQ (spanQ h r bands f).2]
theorem c_span (T : Prg K mg) : Cal P w K mg base 7 "span_of" ["hold", "room", "bands", "fired"] [] (spD K (S_span K)) := by
  obtain ⟨fd, F⟩ := F_span_of T
  refine mkC F (g_span_of T) sc_span_of (fun _ _ _ _ _ _ us hl => match us, hl with | [_, _, _, _], _ => rfl) (fun ds d h => ?_) fun cdv A outer s H E ds d hr h => ?_
  · obtain ⟨h, r, bands, f, _, _, _, _, rfl, rfl⟩ := h
    rfl
  · obtain ⟨h, r, bands, f, wf, hl, hb, hf, rfl, rfl⟩ := h
    have nd := sc_span_of.nd
    refine asg 4 nd (de_meth (nm 0) (cl_Hold T) (c_sky T) (hr.mono (by decide)) rfl (da_one (nm 1)) ⟨h, r, hl, by rw [wf.sk]; exact hl, rfl, rfl⟩) ?_
    have hsz : ((h.many : Nat) : Int).toNat < sizeLine := small1000 (by have := wf.few; omega)
    refine asgLcR 5 7 nd (b_range T) (de_meth0 (nm 0) (cl_Hold T) (c_many T) (hr.mono (by decide)) rfl ⟨h, rfl, rfl⟩) (small_many wf) (fun _ => true) (fun o => eQ ((h.mk_ o).getD (bands.getD o 0) q00)) (fun o ho s0 H0 C cl fp => ⟨dq_nil, fun _ => ?_⟩) hsz ?_
      (ok := blkOk_by (N := n_span_of) (sc := defScope s_span_of) (by decide +kernel))
    · have ho2 : o < h.many := by omega
      have lt := hb.lt o ho2
      exact de_ixL (de_meth (nm 0) (cl_Hold T) (c_marks T) (hr.mono (by decide)) rfl (da_one (nm 7)) ⟨h, o, ho2, rfl, rfl⟩) (de_ixT (nm 2) (nm 7) (at_map (l := bands) (f := nI) 0 (by rw [hb.len]; exact ho2))) (at_map q00 (by omega))
    refine asgLcR 6 7 nd (b_range T) (de_meth0 (nm 0) (cl_Hold T) (c_many T) (hr.mono (by decide)) rfl ⟨h, rfl, rfl⟩) (small_many wf) (fun _ => true) (fun o => eQ ((h.mk_ o).getD (bands.getD o 0 + 1) q00)) (fun o ho s0 H0 C cl fp => ⟨dq_nil, fun _ => ?_⟩) hsz ?_
      (ok := blkOk_by (N := n_span_of) (sc := defScope s_span_of) (by decide +kernel))
    · have ho2 : o < h.many := by omega
      have lt := hb.lt o ho2
      exact de_ixL (de_meth (nm 0) (cl_Hold T) (c_marks T) (hr.mono (by decide)) rfl (da_one (nm 7)) ⟨h, o, ho2, rfl, rfl⟩) (de_add (de_ixT (nm 2) (nm 7) (at_map (l := bands) (f := nI) 0 (by rw [hb.len]; exact ho2))) de_int) (at_map q00 (by omega))
    have e1 : D.lst (((List.range ((h.many : Nat) : Int).toNat).filter (fun _ => true)).map (fun o => eQ ((h.mk_ o).getD (bands.getD o 0) q00))) = eQs (lowsQ h bands) := by
      rw [filt, Int.toNat_natCast, eQs, lowsQ, List.map_map]
      rfl
    have e2 : D.lst (((List.range ((h.many : Nat) : Int).toNat).filter (fun _ => true)).map (fun o => eQ ((h.mk_ o).getD (bands.getD o 0 + 1) q00))) = eQs (highsQ h bands) := by
      rw [filt, Int.toNat_natCast, eQs, highsQ, List.map_map]
      rfl
    refine frz 5 (frz 6 ?_)
    rw [e1, e2]
    have ll : (lowsQ h bands).length = h.many := by rw [lowsQ, List.length_map, List.length_range]
    have lh : (highsQ h bands).length = h.many := by rw [highsQ, List.length_map, List.length_range]
    refine ds_ret (de_tup (da_cons (call (c_warmth T) hr (da_cons (nm 0) (da_cons (nm 1) (da_cons (nm 5) (da_cons (de_ixT (nm 4) de_int (sky_1 _)) (da_cons (nm 3) da_nil))))) ⟨h, r, _, _, f, wf, hl, ll, lows_sm wf bands, (wf.qs r hl).2.1, hf, rfl, rfl⟩)
      (da_cons (call (c_warmth T) hr (da_cons (nm 0) (da_cons (nm 1) (da_cons (nm 6) (da_cons (de_ixT (nm 4) de_int (sky_2 _)) (da_cons (nm 3) da_nil))))) ⟨h, r, _, _, f, wf, hl, lh, highs_sm wf bands, (wf.qs r hl).2.2, hf, rfl, rfl⟩) da_nil))) rfl
def S_tw (K : PySem.W.Frag) (f : HoldM → Nat → Q → Q → D) (ds : List D) (d : D) : Prop := ∃ (h : HoldM) (r : Nat) (a b : Q), WF h ∧ r < h.many ∧ Sm 3000 a ∧ Sm 3000 b ∧ ds = [eH K h, nI r, eQ a, eQ b] ∧ d = f h r a b
theorem c_touched (T : Prg K mg) : Cal P w K mg base 3 "touched" ["hold", "room", "least", "greatest"] [] (spD K (S_tw K fun h r a b => nL (touchedQ h r a b))) := by
  obtain ⟨fd, F⟩ := F_touched T
  refine mkC F (g_touched T) sc_touched (fun _ _ _ _ _ _ us hl => match us, hl with | [_, _, _, _], _ => rfl) (fun ds d h => ?_) fun cdv A outer s H E ds d hr h => ?_
  · obtain ⟨h, r, a, b, _, _, _, _, rfl, rfl⟩ := h
    rfl
  · obtain ⟨h, r, a, b, wf, hl, ha, hb, rfl, rfl⟩ := h
    have nd := sc_touched.nd
    have hm := wf.mks r hl
    refine asg 4 nd (de_meth (nm 0) (cl_Hold T) (c_marks T) hr rfl (da_one (nm 1)) ⟨h, r, hl, rfl, rfl⟩) (own 5 nd (do_lst da_nil) ?_)
    have en : (((h.mk_ r).length : Int) - 1).toNat = (h.mk_ r).length - 1 := by omega
    refine forR 6 nd (b_range T) (n := ((h.mk_ r).length : Int) - 1) (de_is (de_sub (len_L (b_len T) (nm 4)) de_int) (by rw [List.length_map])) (by omega)
      (fun i ρ' => ∃ x, ρ' = [some (.val (eH K h)), some (.val (nI r)), some (.val (eQ a)), some (.val (eQ b)), some (.val (eQs (h.mk_ r))), some (.own (((List.range i).filter fun k => !underQ b ((h.mk_ r).getD k q00) && !underQ ((h.mk_ r).getD (k + 1) q00) a).map nI)), x]) ⟨none, rfl⟩ ?_ ?_
    · rintro i ρ' hi ⟨x, rfl⟩
      rw [en] at hi
      refine ds_if (DW.dt (dw_and (dt_not (dt_val (call (c_under T) (hr.mono (by decide)) (da_cons (nm 3) (da_cons (de_ixL (nm 4) (nm 6) (at_map q00 (by omega))) da_nil)) ⟨_, _, Two.of hb (getD_sm (wf.qm r hl) i (by decide)), rfl, rfl⟩)))
        fun _ => dw_and1 (dt_not (dt_val (call (c_under T) (hr.mono (by decide)) (da_cons (de_ixL (nm 4) (de_add (nm 6) de_int) (at_map (l := h.mk_ r) (f := eQ) (r := i + 1) q00 (by omega))) (da_cons (nm 2) da_nil)) ⟨_, _, Two.of (getD_sm (wf.qm r hl) (i + 1) (by decide)) ha, rfl, rfl⟩))))) (fun hc => ?_) fun hc => ds_nil (ds_nil ⟨some (.val (nI i)), ?_⟩)
      · refine app 5 (nm 6) ?_ (ds_nil ?_)
        · rw [List.length_map]
          exact Nat.lt_of_le_of_lt (filter_range_len i _) (small1000 (by omega))
        · refine ds_nil ⟨some (.val (nI i)), ?_⟩
          rw [range_next, if_pos hc]
          rfl
      · rw [range_next, if_neg (by rw [hc]; decide)]
        rfl
    · rintro ρ' ⟨x, rfl⟩
      refine frz 5 (ds_ret (nm 5) ?_)
      rw [en]
      rfl
theorem c_within (T : Prg K mg) : Cal P w K mg base 3 "within" ["hold", "room", "least", "greatest"] [] (spD K (S_tw K fun h r a b => .bl (withinQ h r a b))) := by
  obtain ⟨fd, F⟩ := F_within T
  refine mkC F (g_within T) sc_within (fun _ _ _ _ _ _ us hl => match us, hl with | [_, _, _, _], _ => rfl) (fun ds d h => ?_) fun cdv A outer s H E ds d hr h => ?_
  · obtain ⟨h, r, a, b, _, _, _, _, rfl, rfl⟩ := h
    rfl
  · obtain ⟨h, r, a, b, wf, hl, ha, hb, rfl, rfl⟩ := h
    have nd := sc_within.nd
    have hm := wf.mks r hl
    refine asg 4 nd (de_meth (nm 0) (cl_Hold T) (c_marks T) hr rfl (da_one (nm 1)) ⟨h, r, hl, rfl, rfl⟩) ?_
    refine ds_ret (de_and (de_not (call (c_under T) (hr.mono (by decide)) (da_cons (nm 2) (da_cons (de_ixL (nm 4) de_int (at_map (l := h.mk_ r) (f := eQ) (r := 0) q00 (by omega))) da_nil)) ⟨_, _, Two.of ha (getD_sm (wf.qm r hl) 0 (by decide)), rfl, rfl⟩))
      fun _ => de_one (de_not (call (c_under T) (hr.mono (by decide)) (da_cons (de_ixL (nm 4) (de_neg de_int) (at_last q00 (by omega))) (da_cons (nm 3) da_nil)) ⟨_, _, Two.of (getD_sm (wf.qm r hl) _ (by decide)) hb, rfl, rfl⟩))) rfl
end
end SK
set_option maxRecDepth 100000
set_option maxHeartbeats 4000000
namespace SK
open PySem L2 PyProof.Rows
def eN (l : List Nat) : D := .tup (l.map nI)
def eS (s : SM) : D := .tup [eN s.bands, nI s.burn, eN s.waits, eN s.failed, nI s.heap]
theorem at_nat {l : List Nat} {r : Nat} (h : r < l.length) : atI (l.map nI) (r : Int) = some (nI (l.getD r 0)) := at_map (f := nI) 0 h
section
variable {X : Cx} {ρ : Rho} {e : Expr} {s : SM} {pos p : Pos} {j : Nat}
theorem sb (a : DE X ρ e (eS s)) (hs : PlainIx (.Constant (.int 0) j p) := by intro _ _; rfl) : DE X ρ (.Subscript e (.Constant (.int 0) j p) pos) (eN s.bands) := de_ixT a de_int rfl hs
theorem su (a : DE X ρ e (eS s)) (hs : PlainIx (.Constant (.int 1) j p) := by intro _ _; rfl) : DE X ρ (.Subscript e (.Constant (.int 1) j p) pos) (nI s.burn) := de_ixT a de_int rfl hs
theorem sw (a : DE X ρ e (eS s)) (hs : PlainIx (.Constant (.int 2) j p) := by intro _ _; rfl) : DE X ρ (.Subscript e (.Constant (.int 2) j p) pos) (eN s.waits) := de_ixT a de_int rfl hs
theorem sf (a : DE X ρ e (eS s)) (hs : PlainIx (.Constant (.int 3) j p) := by intro _ _; rfl) : DE X ρ (.Subscript e (.Constant (.int 3) j p) pos) (eN s.failed) := de_ixT a de_int rfl hs
theorem sh (a : DE X ρ e (eS s)) (hs : PlainIx (.Constant (.int 4) j p) := by intro _ _; rfl) : DE X ρ (.Subscript e (.Constant (.int 4) j p) pos) (nI s.heap) := de_ixT a de_int rfl hs
end
section
variable {P : Program} {w : World} {K : PySem.W.Frag} {mg : Str → Option Value} {base : Heap}
def S_fits (K : PySem.W.Frag) (ds : List D) (d : D) : Prop := ∃ (h : HoldM) (s : SM) (r : Nat), WF h ∧ Valid h s ∧ r < h.many ∧ ds = [eH K h, eS s, nI r] ∧ d = .bl true
theorem c_fits (T : Prg K mg) : Cal P w K mg base 3 "fits_room" ["hold", "state", "room"] [] (spD K (S_fits K)) := by
  obtain ⟨fd, F⟩ := F_fits_room T
  refine mkC F (g_fits_room T) sc_fits_room (fun _ _ _ _ _ _ us hl => match us, hl with | [_, _, _], _ => rfl) (fun ds d h => ?_) fun cdv A outer s H E ds d hr h => ?_
  · obtain ⟨h, s, r, _, _, _, rfl, rfl⟩ := h
    rfl
  · obtain ⟨h, s, r, wf, v, hl, rfl, rfl⟩ := h
    have nd := sc_fits_room.nd
    have ft := v.fit r hl
    unfold FitsR at ft
    obtain ⟨fb, ft⟩ := ft
    refine asg 3 nd (call (c_has_room T) (hr.mono (by decide)) (da_cons (su (nm 1)) (da_one (nm 2))) ⟨s.burn, r, rfl, rfl⟩) ?_
    refine asg 4 nd (de_ixT (sw (nm 1)) (nm 2) (at_nat (by rw [v.wl]; exact hl))) (asg 5 nd (de_ixT (sf (nm 1)) (nm 2) (at_nat (by rw [v.fl]; exact hl))) ?_)
    refine ds_skip (DW.dt (dw_or (dt_lt (de_ixT (sb (nm 1)) (nm 2) (at_nat (by rw [v.bl]; exact hl))) de_int) fun _ => dw_or1 (dt_gt (de_ixT (sb (nm 1)) (nm 2) (at_nat (by rw [v.bl]; exact hl))) (de_sub (len_L (b_len T) (de_meth (nm 0) (cl_Hold T) (c_marks T) hr rfl (da_one (nm 2)) ⟨h, r, hl, rfl, rfl⟩)) de_int)))) ?_ ?_
    · rw [List.length_map]
      simp only [Bool.or_eq_false_iff, decide_eq_false_iff_not]
      omega
    refine asg 6 nd (de_meth (nm 0) (cl_Hold T) (c_stove T) hr rfl (da_one (nm 2)) ⟨h, r, hl, by rw [wf.st]; exact hl, rfl, rfl⟩) ?_
    cases e : h.st r with
    | none =>
      rw [e] at ft
      obtain ⟨f1, f2, f3⟩ := ft
      refine ds_take (dt_isN (nm 6) de_non) rfl (ds_ret (de_and (de_not (nm 3)) fun _ => de_and (de_eq (nm 4) de_int) fun _ => de_one (de_eq (nm 5) de_int)) ?_)
      show D.bl _ = D.bl _
      rw [f1, show s.waits.getD r 0 = 0 from f2, show s.failed.getD r 0 = 0 from f3]
      rfl
    | some sv =>
      rw [e] at ft
      obtain ⟨f1, f2, f3⟩ := ft
      have f1' : s.waits.getD r 0 ≤ sv.stay := f1
      have f2' : s.failed.getD r 0 ≤ sv.fails := f2
      refine ds_skip (dt_isN (nm 6) de_non) rfl ?_
      refine ds_skip (DW.dt (dw_or (dt_lt (nm 4) de_int) fun _ => dw_or (dt_gt (nm 4) (de_ixT (ds := [eQ sv.heat, nI sv.wood, nI sv.stay, nI sv.fails]) (nm 6) de_int rfl)) fun _ => dw_or (dt_lt (nm 5) de_int) fun _ => dw_or1 (dt_gt (nm 5) (de_ixT (ds := [eQ sv.heat, nI sv.wood, nI sv.stay, nI sv.fails]) (nm 6) de_int rfl)))) ?_ ?_
      · simp only [Bool.or_eq_false_iff, decide_eq_false_iff_not]
        omega
      refine ds_ret (de_or (de_eq (nm 5) de_int) fun _ => de_one (de_and (de_not (nm 3)) fun _ => de_one (de_eq (nm 4) de_int))) ?_
      show D.bl _ = D.bl _
      rcases f3 with z | ⟨z1, z2⟩
      · rw [show s.failed.getD r 0 = 0 from z]
        rfl
      · rw [z1, show s.waits.getD r 0 = 0 from z2]
        simp
def S_state (K : PySem.W.Frag) (d0 : D) (ds : List D) (d : D) : Prop := ∃ (h : HoldM) (s : SM), WF h ∧ Valid h s ∧ ds = [eH K h, eS s] ∧ d = d0
theorem c_is_state (T : Prg K mg) : Cal P w K mg base 4 "is_state" ["hold", "state"] [] (spD K (S_state K (.bl true))) := by
  obtain ⟨fd, F⟩ := F_is_state T
  refine mkC F (g_is_state T) sc_is_state (fun _ _ _ _ _ _ us hl => match us, hl with | [_, _], _ => rfl) (fun ds d h => ?_) fun cdv A outer s H E ds d hr h => ?_
  · obtain ⟨h, s, _, _, rfl, rfl⟩ := h
    rfl
  · obtain ⟨h, s, wf, v, rfl, rfl⟩ := h
    have nd := sc_is_state.nd
    refine asg 2 nd (de_meth0 (nm 0) (cl_Hold T) (c_many T) (hr.mono (by decide)) rfl ⟨h, rfl, rfl⟩) ?_
    refine forT 3 nd (de_tup (da_cons (sb (nm 1)) (da_cons (sw (nm 1)) (da_one (sf (nm 1)))))) (fun i ρ' => ∃ b, ρ' = [some (.val (eH K h)), some (.val (eS s)), some (.val (nI h.many)), b, none]) ⟨none, rfl⟩ ?_ ?_
    · rintro i d ρ' hd ⟨b, rfl⟩
      obtain ⟨l, rfl, hl⟩ : ∃ l : List Nat, d = eN l ∧ l.length = h.many := by
        match i, hd with
        | 0, hd => exact ⟨s.bands, (Option.some.inj hd).symm, v.bl⟩
        | 1, hd => exact ⟨s.waits, (Option.some.inj hd).symm, v.wl⟩
        | 2, hd => exact ⟨s.failed, (Option.some.inj hd).symm, v.fl⟩
        | n + 3, hd => simp at hd
      refine ds_skip (dt_ne (len_T (ds := l.map nI) (b_len T) (nm 3)) (nm 2)) ?_ (ds_nil ⟨some (.val (eN l)), rfl⟩)
      rw [List.length_map, hl]
      simp
    · rintro ρ' ⟨b, rfl⟩
      have h16 := lt16 wf v.bu
      refine ds_skip (DW.dt (dw_or (dt_gt (de_shr (su (nm 1)) (nm 2) (Int.natCast_nonneg _)) de_int) fun _ => dw_or (dt_gt (call (c_how_many T) (hr.mono (by decide)) (da_one (su (nm 1))) ⟨s.burn, h16, rfl, rfl⟩) (f_most T (nm 0))) fun _ => dw_or (dt_lt (sh (nm 1)) de_int) fun _ => dw_or1 (dt_gt (sh (nm 1)) (f_cap T (nm 0))))) ?_ ?_
      · rw [shr_cast, Nat.div_eq_of_lt v.bu]
        have h1 := v.mo
        have h2 := v.hp
        simp only [Bool.or_eq_false_iff, decide_eq_false_iff_not]
        omega
      refine forR 4 nd (b_range T) (nm 2) (small_many wf) (fun i ρ' => ∃ b1 b2, ρ' = [some (.val (eH K h)), some (.val (eS s)), some (.val (nI h.many)), b1, b2]) ⟨b, none, rfl⟩ ?_ ?_
      · rintro i ρ' hi ⟨b1, b2, rfl⟩
        have hi2 : i < h.many := by omega
        exact ds_skip (dt_not (dt_val (call (c_fits T) hr (da_cons (nm 0) (da_cons (nm 1) (da_one (nm 4)))) ⟨h, s, i, wf, v, hi2, rfl, rfl⟩))) rfl (ds_nil ⟨b1, some (.val (nI i)), rfl⟩)
      · rintro ρ' ⟨b1, b2, rfl⟩
        exact ds_ret de_bl rfl
theorem c_ask_state (T : Prg K mg) : Cal P w K mg base 5 "ask_state" ["hold", "state"] [] (spD K (S_state K .non)) := by
  obtain ⟨fd, F⟩ := F_ask_state T
  refine mkC F (g_ask_state T) sc_ask_state (fun _ _ _ _ _ _ us hl => match us, hl with | [_, _], _ => rfl) (fun ds d h => ?_) fun cdv A outer s H E ds d hr h => ?_
  · obtain ⟨h, s, _, _, rfl, rfl⟩ := h
    rfl
  · obtain ⟨h, s, wf, v, rfl, rfl⟩ := h
    exact ds_skip (dt_not (dt_val (call (c_is_state T) hr (da_cons (nm 0) (da_one (nm 1))) ⟨h, s, wf, v, rfl, rfl⟩))) rfl (ds_nil rfl)
def S_wood (K : PySem.W.Frag) (ds : List D) (d : D) : Prop := ∃ (h : HoldM) (b : Nat), WF h ∧ b < 2 ^ h.many ∧ ds = [eH K h, nI b] ∧ d = nI (woodQ h b)
theorem c_wood (T : Prg K mg) : Cal P w K mg base 3 "wood_of" ["hold", "bits"] [] (spD K (S_wood K)) := by
  obtain ⟨fd, F⟩ := F_wood_of T
  refine mkC F (g_wood_of T) sc_wood_of (fun _ _ _ _ _ _ us hl => match us, hl with | [_, _], _ => rfl) (fun ds d h => ?_) fun cdv A outer s H E ds d hr h => ?_
  · obtain ⟨h, b, _, _, rfl, rfl⟩ := h
    rfl
  · obtain ⟨h, b, wf, hb, rfl, rfl⟩ := h
    have nd := sc_wood_of.nd
    refine asg 2 nd de_int ?_
    refine forL (members b) nI 3 nd (call (c_members T) (hr.mono (by decide)) (da_one (nm 1)) ⟨b, lt16 wf hb, rfl, rfl⟩) (fun i ρ' => ∃ b1 b2, ρ' = [some (.val (eH K h)), some (.val (nI b)), some (.val (nI (((members b).take i).foldl (fun w r => w + woodAt h r) 0))), b1, b2]) ⟨none, none, rfl⟩ ?_ ?_
    · rintro i r ρ' hi ⟨b1, b2, rfl⟩
      have hr4 := mem_many wf hb r (List.mem_of_getElem? hi)
      refine asg 4 nd (de_meth (nm 0) (cl_Hold T) (c_stove T) hr rfl (da_one (nm 3)) ⟨h, r, hr4, by rw [wf.st]; exact hr4, rfl, rfl⟩) ?_
      cases e : h.st r with
      | none =>
        refine ds_skip (dt_notN (nm 4) de_non) rfl (ds_nil ⟨some (.val (nI r)), some (.val .non), ?_⟩)
        rw [foldl_next (fun w r => w + woodAt h r) 0 hi, show woodAt h r = 0 by unfold woodAt; rw [e]]
        rfl
      | some sv =>
        refine ds_take (dt_notN (nm 4) de_non) rfl (asg 2 nd (de_add (nm 2) (de_ixT (ds := [eQ sv.heat, nI sv.wood, nI sv.stay, nI sv.fails]) (nm 4) de_int rfl)) (ds_nil (ds_nil ⟨some (.val (nI r)), some (.val (eStv (some sv))), ?_⟩)))
        rw [foldl_next (fun w r => w + woodAt h r) 0 hi, show woodAt h r = sv.wood by unfold woodAt; rw [e]]
        rfl
    · rintro ρ' ⟨b1, b2, rfl⟩
      refine ds_ret (nm 2) ?_
      rw [List.take_length]
      rfl
theorem c_bound (T : Prg K mg) : Cal P w K mg base 3 "bound_stoves" ["hold", "state"] [] (spD K fun ds d => ∃ (h : HoldM) (s : SM), WF h ∧ Valid h s ∧ ds = [eH K h, eS s] ∧ d = nI (boundB s)) := by
  obtain ⟨fd, F⟩ := F_bound_stoves T
  refine mkC F (g_bound_stoves T) sc_bound_stoves (fun _ _ _ _ _ _ us hl => match us, hl with | [_, _], _ => rfl) (fun ds d h => ?_) fun cdv A outer s H E ds d hr h => ?_
  · obtain ⟨h, s, _, _, rfl, rfl⟩ := h
    rfl
  · obtain ⟨h, s, wf, v, rfl, rfl⟩ := h
    have nd := sc_bound_stoves.nd
    have h16 := lt16 wf v.bu
    refine ds_ret (call (c_bits_of T) hr (da_one (lc 2 nd (members s.burn) nI (call (c_members T) (hr.mono (by decide)) (da_one (su (nm 1))) ⟨s.burn, h16, rfl, rfl⟩) (fun r => decide (0 < s.wt r)) nI (fun r hr' s0 H0 C cl fp => ⟨dq_one (dt_is (dt_gt (de_ixT (sw (nm 1)) (nm 2) (at_nat (by rw [v.wl]; exact mem_many wf v.bu r hr'))) de_int) (decide_eq_decide.mpr (Int.natCast_pos))), fun _ => nm 2⟩)
      (small1000 (by have := (mem_small _ h16).1; omega)) (blkOk_by (N := n_bound_stoves) (sc := defScope s_bound_stoves) (by decide +kernel))).see)
      ⟨(members s.burn).filter fun r => decide (0 < s.wt r), fun r hr' => by have := (mem_small _ h16).2 r (List.mem_filter.mp hr').1; omega, rfl, rfl⟩) rfl
theorem c_free (T : Prg K mg) : Cal P w K mg base 3 "free_stoves" ["hold", "state"] [] (spD K fun ds d => ∃ (h : HoldM) (s : SM), WF h ∧ Valid h s ∧ ds = [eH K h, eS s] ∧ d = nI (freeB h s)) := by
  obtain ⟨fd, F⟩ := F_free_stoves T
  refine mkC F (g_free_stoves T) sc_free_stoves (fun _ _ _ _ _ _ us hl => match us, hl with | [_, _], _ => rfl) (fun ds d h => ?_) fun cdv A outer s H E ds d hr h => ?_
  · obtain ⟨h, s, _, _, rfl, rfl⟩ := h
    rfl
  · obtain ⟨h, s, wf, v, rfl, rfl⟩ := h
    have nd := sc_free_stoves.nd
    have fw := wf.few
    refine ds_ret (call (c_bits_of T) hr (da_one (lcRg 2 nd (b_range T) (de_meth0 (nm 0) (cl_Hold T) (c_many T) (hr.mono (by decide)) rfl ⟨h, rfl, rfl⟩) (small_many wf) (fun r => (h.st r).isSome && decide (s.wt r = 0)) nI (fun r hr' s0 H0 C cl fp => ⟨dq_one ?_, fun _ => nm 2⟩)
      (small1000 (by omega)) (blkOk_by (N := n_free_stoves) (sc := defScope s_free_stoves) (by decide +kernel))).see)
      ⟨(List.range h.many).filter fun r => (h.st r).isSome && decide (s.wt r = 0), fun r hr' => by have := List.mem_range.mp (List.mem_filter.mp hr').1; omega, by rw [Int.toNat_natCast]; rfl, rfl⟩) rfl
    have hr2 : r < h.many := by omega
    refine dt_is (DW.dt (dw_and (dt_notN (de_meth (nm 0) (cl_Hold T) (c_stove T) hr rfl (da_one (nm 2)) ⟨h, r, hr2, by rw [wf.st]; exact hr2, rfl, rfl⟩) de_non) fun _ => dw_and1 (dt_eq (de_ixT (sw (nm 1)) (nm 2) (at_nat (by rw [v.wl]; exact hr2))) de_int))) ?_
    congr 1
    · cases h.st r <;> rfl
    · exact decide_eq_decide.mpr (by show ((s.wt r : Nat) : Int) = 0 ↔ _; omega)
end
end SK
set_option maxRecDepth 100000
set_option maxHeartbeats 4000000
namespace SK
open PySem L2 PyProof.Rows
section
variable {P : Program} {w : World} {K : PySem.W.Frag} {mg : Str → Option Value} {base : Heap}
theorem sorts_self {l : List Nat} (h : l.Pairwise (· ≤ ·)) : Sorts (l.map fun n => ((n : Nat) : Int)) (l.map fun n => ((n : Nat) : Int)) := ⟨List.Perm.refl _, by rw [List.pairwise_map]; exact h.imp fun h => by omega⟩
theorem map_ints (l : List Nat) : (l.map fun n => ((n : Nat) : Int)).map D.int = l.map nI := by
  rw [List.map_map]
  rfl
theorem c_orders (T : Prg K mg) : Cal P w K mg base 6 "orders_of" ["hold", "state"] [] (spD K fun ds d => ∃ (h : HoldM) (s : SM), WF h ∧ Valid h s ∧ ds = [eH K h, eS s] ∧ d = nL (ordersQ h s)) := by
  obtain ⟨fd, F⟩ := F_orders_of T
  refine mkC F (g_orders_of T) sc_orders_of (fun _ _ _ _ _ _ us hl => match us, hl with | [_, _], _ => rfl) (fun ds d h => ?_) fun cdv A outer s H E ds d hr h => ?_
  · obtain ⟨h, s, _, _, rfl, rfl⟩ := h
    rfl
  · obtain ⟨h, s, wf, v, rfl, rfl⟩ := h
    have nd := sc_orders_of.nd
    have f16 := lt16 wf (free_lt wf v)
    have sl := subs_len _ f16
    refine ds_expr (call (c_ask_state T) hr (da_cons (nm 0) (da_one (nm 1))) ⟨h, s, wf, v, rfl, rfl⟩) ?_
    refine asg 2 nd (call (c_bound T) (hr.mono (by decide)) (da_cons (nm 0) (da_one (nm 1))) ⟨h, s, wf, v, rfl, rfl⟩) ?_
    refine asgLc 3 4 nd (subsets (freeB h s)) nI (call (c_subsets T) (hr.mono (by decide)) (da_one (call (c_free T) (hr.mono (by decide)) (da_cons (nm 0) (da_one (nm 1))) ⟨h, s, wf, v, rfl, rfl⟩)) ⟨_, f16, rfl, rfl⟩) (fun _ => true) (fun o => nI (boundB s + o)) (fun o ho s0 H0 C cl fp => ⟨dq_nil, fun _ => de_is (de_add (nm 2) (nm 4)) rfl⟩) (small1000 (by omega)) ?_
      (ok := blkOk_by (N := n_orders_of) (sc := defScope s_orders_of) (by decide +kernel))
    have e1 : ((subsets (freeB h s)).filter fun _ => true).map (fun o => nI (boundB s + o)) = ((subsets (freeB h s)).map (boundB s + ·)).map nI := by
      rw [filt, List.map_map]
      rfl
    refine frz 3 ?_
    rw [e1]
    refine ds_ret (sorted_L (b_sorted T) (ns := (ordersQ h s).map fun n => ((n : Nat) : Int)) (de_is (lc 4 nd ((subsets (freeB h s)).map (boundB s + ·)) nI (nm 3) (fun o => decide (howMany o ≤ h.most) && decide (woodQ h o ≤ s.heap)) nI (fun o ho s0 H0 C cl fp => ?_) (by rw [List.length_map]; exact small1000 (by omega)) (blkOk_by (N := n_orders_of) (sc := defScope s_orders_of) (by decide +kernel))).see ?_) (sorts_self (orders_rise wf v))) ?_
    · obtain ⟨x, hx, rfl⟩ := List.mem_map.mp ho
      have ol := some_lt wf v hx
      refine ⟨dq_one (dt_is (DW.dt (dw_and (dt_le (call (c_how_many T) (hr.mono (by decide)) (da_one (nm 4)) ⟨_, lt16 wf ol, rfl, rfl⟩) (f_most T (nm 0))) fun _ => dw_and1 (dt_le (call (c_wood T) (hr.mono (by decide)) (da_cons (nm 0) (da_one (nm 4))) ⟨h, _, wf, ol, rfl, rfl⟩) (sh (nm 1))))) ?_), fun _ => nm 4⟩
      congr 1
      · exact decide_eq_decide.mpr (by omega)
      · exact decide_eq_decide.mpr (by omega)
    · rw [map_ints]
      rfl
    · rw [map_ints]
      rfl
theorem c_may (T : Prg K mg) : Cal P w K mg base 6 "may_fail" ["hold", "state", "order"] [] (spD K fun ds d => ∃ (h : HoldM) (s : SM) (o : Nat), WF h ∧ Valid h s ∧ o ∈ ordersQ h s ∧ ds = [eH K h, eS s, nI o] ∧ d = nI (mayQ h s o)) := by
  obtain ⟨fd, F⟩ := F_may_fail T
  refine mkC F (g_may_fail T) sc_may_fail (fun _ _ _ _ _ _ us hl => match us, hl with | [_, _, _], _ => rfl) (fun ds d h => ?_) fun cdv A outer s H E ds d hr h => ?_
  · obtain ⟨h, s, o, _, _, _, rfl, rfl⟩ := h
    rfl
  · obtain ⟨h, s, o, wf, v, ho, rfl, rfl⟩ := h
    have nd := sc_may_fail.nd
    have ol := orders_lt wf v ho
    have o16 := lt16 wf ol
    have ml := mem_small o o16
    have mm := mem_many wf ol
    refine ds_expr (call (c_ask_state T) hr (da_cons (nm 0) (da_one (nm 1))) ⟨h, s, wf, v, rfl, rfl⟩) ?_
    refine asgLc 3 4 nd (members o) nI (call (c_members T) (hr.mono (by decide)) (da_one (nm 2)) ⟨o, o16, rfl, rfl⟩) (fun r => !s.burn.testBit r) nI (fun r hr' s0 H0 C cl fp => ⟨dq_one (dt_not (dt_val (call (c_has_room T) (hr.mono (by decide)) (da_cons (su (nm 1)) (da_one (nm 4))) ⟨s.burn, r, rfl, rfl⟩))), fun _ => nm 4⟩) (small1000 (by omega)) ?_
      (ok := blkOk_by (N := n_may_fail) (sc := defScope s_may_fail) (by decide +kernel))
    refine frz 3 ?_
    refine ds_ret (call (c_bits_of T) (hr.mono (by decide)) (da_one (lc 4 nd ((members o).filter fun r => !s.burn.testBit r) nI (nm 3) (fun r => decide (s.fd r < failsAt h r)) nI (fun r hr' s0 H0 C cl fp => ⟨dq_one ?_, fun _ => nm 4⟩) (small1000 (Nat.le_trans (List.length_filter_le _ _) (by omega))) (blkOk_by (N := n_may_fail) (sc := defScope s_may_fail) (by decide +kernel))).see)
      ⟨((members o).filter fun r => !s.burn.testBit r).filter fun r => decide (s.fd r < failsAt h r), fun r hr' => by have := ml.2 r (List.mem_filter.mp (List.mem_filter.mp hr').1).1; omega, rfl, rfl⟩) rfl
    have hro := (List.mem_filter.mp hr').1
    have hr2 := mm r hro
    have hb := (mem_bit o o16 r (ml.2 r hro)).mp hro
    obtain ⟨sv, e⟩ := Option.isSome_iff_exists.mp ((orders_ok wf v ho hr2).1 hb)
    refine dt_is (dt_lt (de_ixT (sf (nm 1)) (nm 4) (at_nat (by rw [v.fl]; exact hr2))) (de_ixT (ds := [eQ sv.heat, nI sv.wood, nI sv.stay, nI sv.fails]) (de_is (de_meth (nm 0) (cl_Hold T) (c_stove T) (hr.mono (by decide)) rfl (da_one (nm 4)) ⟨h, r, hr2, by rw [wf.st]; exact hr2, rfl, rfl⟩) (by rw [e]; rfl)) de_int rfl)) ?_
    refine decide_eq_decide.mpr ?_
    rw [show failsAt h r = sv.fails by unfold failsAt; rw [e]]
    show ((s.fd r : Nat) : Int) < (sv.fails : Int) ↔ _
    omega
def eB (t : SM) : D := .tup [nI t.burn, eN t.waits, eN t.failed, nI t.heap]
theorem map_next {α : Type} (g : Nat → α) (i : Nat) : (List.range (i + 1)).map g = (List.range i).map g ++ [g i] := by
  rw [List.range_succ, List.map_append]
  rfl
theorem c_behind (T : Prg K mg) : Cal P w K mg base 6 "behind_turn" ["hold", "state", "order", "out"] [] (spD K fun ds d => ∃ (h : HoldM) (s : SM) (o u : Nat), WF h ∧ Valid h s ∧ Tn h s o u ∧ ds = [eH K h, eS s, nI o, nI u] ∧ d = eB (behindQ h s o u [])) := by
  obtain ⟨fd, F⟩ := F_behind_turn T
  refine mkC F (g_behind_turn T) sc_behind_turn (fun _ _ _ _ _ _ us hl => match us, hl with | [_, _, _, _], _ => rfl) (fun ds d h => ?_) fun cdv A outer s H E ds d hr h => ?_
  · obtain ⟨h, s, o, u, _, _, _, rfl, rfl⟩ := h
    rfl
  · obtain ⟨h, s, o, u, wf, v, t, rfl, rfl⟩ := h
    have nd := sc_behind_turn.nd
    have fw := wf.few
    refine ds_expr (call (c_ask_state T) hr (da_cons (nm 0) (da_one (nm 1))) ⟨h, s, wf, v, rfl, rfl⟩) ?_
    have e4 : ((o : Nat) : Int) - ((u : Nat) : Int) = ((o - u : Nat) : Int) := by have := t.le; omega
    refine asg 4 nd (de_is (de_sub (nm 2) (nm 3)) (congrArg D.int e4)) (own 5 nd (do_lst da_nil) (own 6 nd (do_lst da_nil) ?_))
    refine forR 7 nd (b_range T) (de_meth0 (nm 0) (cl_Hold T) (c_many T) (hr.mono (by decide)) rfl ⟨h, rfl, rfl⟩) (small_many wf) (fun i ρ' => ∃ b1 b2 b3, ρ' = [some (.val (eH K h)), some (.val (eS s)), some (.val (nI o)), some (.val (nI u)), some (.val (nI (o - u))), some (.own (((List.range i).map (waitQ h s (o - u))).map nI)), some (.own (((List.range i).map (failQ s (o - u) u)).map nI)), b1, b2, b3, none]) ⟨none, none, none, rfl⟩ ?_ ?_
    · rintro r ρ' hr' ⟨b1, b2, b3, rfl⟩
      have hr2 : r < h.many := by omega
      refine asg 8 nd (d := nI (s.wt r - 1)) (de_is (max_ (b_max T) de_int (de_sub (de_ixT (sw (nm 1)) (nm 7) (at_nat (by rw [v.wl]; exact hr2))) de_int)) (congrArg D.int ?_)) ?_
      · show max (0 : Int) (((s.wt r : Nat) : Int) - 1) = ((s.wt r - 1 : Nat) : Int)
        omega
      refine asg 9 nd (d := nI (s.fd r)) (de_ixT (sf (nm 1)) (nm 7) (at_nat (by rw [v.fl]; exact hr2))) ?_
      refine ifset 8 nd (d1 := nI (stayAt h r)) (d := nI (waitQ h s (o - u) r)) (dt_neB (call (c_has_room T) (hr.mono (by decide)) (da_cons (nm 4) (da_one (nm 7))) ⟨o - u, r, rfl, rfl⟩) (call (c_has_room T) (hr.mono (by decide)) (da_cons (su (nm 1)) (da_one (nm 7))) ⟨s.burn, r, rfl, rfl⟩)) (fun hb => ?_) ?_ ?_
      · have hst : (h.st r).isSome = true := by
          have ts := t.sub r hr2
          cases hbu : s.burn.testBit r with
          | true => exact fits_stove (v.fit r hr2) hbu
          | false =>
            rw [hbu, ts] at hb
            cases hob : o.testBit r with
            | true => exact t.stove r hr2 hob
            | false =>
              rw [hob] at hb
              cases hb
        obtain ⟨sv, e⟩ := Option.isSome_iff_exists.mp hst
        rw [show stayAt h r = sv.stay by unfold stayAt; rw [e]]
        exact de_ixT (ds := [eQ sv.heat, nI sv.wood, nI sv.stay, nI sv.fails]) (de_is (de_meth (nm 0) (cl_Hold T) (c_stove T) (hr.mono (by decide)) rfl (da_one (nm 7)) ⟨h, r, hr2, by rw [wf.st]; exact hr2, rfl, rfl⟩) (by rw [e]; rfl)) de_int rfl
      · unfold waitQ
        split <;> rfl
      refine ifset 9 nd (d1 := nI 0) (d := nI (if (o - u).testBit r = true then 0 else s.fd r)) (dt_val (call (c_has_room T) (hr.mono (by decide)) (da_cons (nm 4) (da_one (nm 7))) ⟨o - u, r, rfl, rfl⟩)) (fun _ => de_int) (by split <;> rfl) ?_
      refine ifset 9 nd (d1 := nI ((if (o - u).testBit r = true then 0 else s.fd r) + 1)) (d := nI (failQ s (o - u) u r)) (dt_val (call (c_has_room T) (hr.mono (by decide)) (da_cons (nm 3) (da_one (nm 7))) ⟨u, r, rfl, rfl⟩)) (fun _ => de_is (de_add (nm 9) de_int) rfl) (by unfold failQ; split <;> rfl) ?_
      refine app 5 (nm 8) ?_ ?_
      · rw [List.length_map, List.length_map, List.length_range]
        exact small1000 (by omega)
      refine app 6 (nm 9) ?_ ?_
      · rw [List.length_map, List.length_map, List.length_range]
        exact small1000 (by omega)
      refine ds_nil ⟨some (.val (nI r)), some (.val (nI (waitQ h s (o - u) r))), some (.val (nI (failQ s (o - u) u r))), ?_⟩
      rw [map_next, map_next, List.map_append, List.map_append]
      rfl
    · rintro ρ' ⟨b1, b2, b3, rfl⟩
      have hw := t.wood
      refine asg 10 nd (d := nI (heapQ h s (o - u))) (de_is (min_ (b_min T) (f_cap T (nm 0)) (de_add (de_sub (sh (nm 1)) (call (c_wood T) (hr.mono (by decide)) (da_cons (nm 0) (da_one (nm 4))) ⟨h, _, wf, Nat.lt_of_le_of_lt (Nat.sub_le _ _) t.o4, rfl, rfl⟩)) (f_load T (nm 0)))) (congrArg D.int ?_)) ?_
      · unfold heapQ
        omega
      refine ds_ret (de_tup (da_cons (nm 4) (da_cons (tup_O 5 (b_tuple T)) (da_cons (tup_O 6 (b_tuple T)) (da_one (nm 10)))))) ?_
      rw [Int.toNat_natCast]
      rfl
theorem c_fires (T : Prg K mg) : Cal P w K mg base 3 "fires_of" ["order", "out"] [] (spD K fun ds d => ∃ o u : Nat, ds = [nI o, nI u] ∧ d = nI (firesQ o u)) := by
  obtain ⟨fd, F⟩ := F_fires_of T
  refine mkC F (g_fires_of T) sc_fires_of (fun _ _ _ _ _ _ us hl => match us, hl with | [_, _], _ => rfl) (fun ds d h => ?_) fun cdv A outer s H E ds d hr h => ?_
  · obtain ⟨o, u, rfl, rfl⟩ := h
    rfl
  · obtain ⟨o, u, rfl, rfl⟩ := h
    have nd := sc_fires_of.nd
    refine asg 2 nd (nm 0) (forR 3 nd (b_range T) de_int (by decide) (fun i ρ' => ∃ b, ρ' = [some (.val (nI o)), some (.val (nI u)), some (.val (nI ((List.range i).foldl (fun f r => if u.testBit r = true then clr f r else f) o))), b]) ⟨none, rfl⟩ ?_ ?_)
    · rintro r ρ' hr' ⟨b, rfl⟩
      have hr4 : r < 4 := hr'
      refine ifset 2 nd (d1 := nI (clr ((List.range r).foldl (fun f r => if u.testBit r = true then clr f r else f) o) r)) (d := nI ((List.range (r + 1)).foldl (fun f r => if u.testBit r = true then clr f r else f) o)) (dt_val (call (c_has_room T) (hr.mono (by decide)) (da_cons (nm 1) (da_one (nm 3))) ⟨u, r, rfl, rfl⟩)) (fun _ => call (c_without_room T) hr (da_cons (nm 2) (da_one (nm 3))) ⟨_, r, by omega, rfl, rfl⟩) ?_ (ds_nil ⟨some (.val (nI r)), rfl⟩)
      rw [List.range_succ, List.foldl_append]
      show _ = nI (if u.testBit r = true then clr _ r else _)
      split <;> rfl
    · rintro ρ' ⟨b, rfl⟩
      exact ds_ret (nm 2) rfl
end
end SK
set_option maxRecDepth 100000
set_option maxHeartbeats 4000000
/-! Dicts whose keys are nested tuples, tracked. -/
namespace SK
open PySem PySem.Spec L2 PyProof.Rows
/-! ### data as keys -/
mutual
def keyOf : D → NestedKey
  | .non => .none
  | .bl b => .num (if b = true then 1 else 0)
  | .int i => .num i
  | .tup ds => .tup (keysOf ds)
  | .lst _ => .none
  | .seq _ => .none
  | .ins _ _ => .none
  | .adr _ => .none
def keysOf : List D → List NestedKey
  | [] => []
  | d :: ds => keyOf d :: keysOf ds
end
mutual
def isKey : D → Bool
  | .non => true
  | .bl _ => true
  | .int _ => true
  | .tup ds => areKeys ds
  | .lst _ => false
  | .seq _ => false
  | .ins _ _ => false
  | .adr _ => false
def areKeys : List D → Bool
  | [] => true
  | d :: ds => isKey d && areKeys ds
end
theorem keysOf_map {α : Type} (f : α → D) : ∀ l : List α, keysOf (l.map f) = l.map fun a => keyOf (f a)
  | [] => rfl
  | a :: l => by
    show keyOf (f a) :: keysOf (l.map f) = keyOf (f a) :: l.map _
    rw [keysOf_map f l]
section
variable {X : Cx} {pins : List (Addr × Obj)} {σ : L2.St} {H H1 : Hp} {s : Shared}
mutual
theorem nested_of (I : Inv X pins σ H1 s) (e : Same H H1) : ∀ {d : D} {v : V} {u : Value}, Rep X.K H d v → isKey d = true → RelV v u → NestedIs s.heap (keyOf d) u
  | _, _, _, .non, _, r => by
    cases r
    exact .none
  | _, _, _, .bl, _, r => by
    cases r
    exact .bool rfl
  | _, _, _, .int, _, r => by
    obtain ⟨t, rfl⟩ := r
    exact .int _ t
  | _, _, _, .tup h rs, k, r => by
    cases r
    obtain ⟨its, rv, ⟨o, h1, h2, n, h3⟩, _⟩ := I.tuple (same_t e h)
    exact .tup h1 h2 h3 (by simpa using nesteds_of I e rs k rv)
  | _, _, _, .lst h rs, k, r => by cases k
  | _, _, _, .seq h rs, k, r => by cases k
  | _, _, _, .ins h rs, k, r => by cases k
  | _, _, _, .adr, k, r => by cases k
theorem nesteds_of (I : Inv X pins σ H1 s) (e : Same H H1) : ∀ {ds : List D} {vs : List V} {us : List Value}, Reps X.K H ds vs → areKeys ds = true → Vals vs us → NestedAll s.heap (keysOf ds) us
  | _, _, _, .nil, _, r => by
    cases r
    exact .nil
  | _, _, _, .cons h rs, k, r => by
    cases r with
    | cons r1 r2 =>
      have k2 := Bool.and_eq_true_iff.mp (show (isKey _ && areKeys _) = true from k)
      exact .cons (nested_of I e h k2.1 r1) (nesteds_of I e rs k2.2 r2)
end
end

/-! ### the tracked dict -/
abbrev NKV := List (NestedKey × Addr × V)
abbrev NR : NKV → List (NestedKey × Addr × Value) → Prop := Paired fun p q => p.1 = q.1 ∧ p.2.1 = q.2.1 ∧ RelV p.2.2 q.2.2
def rawN (P : Program) (w : World) (a : Addr) (kvs : NKV) (h : Heap) : Prop := kvs.length ≤ sizeLine ∧ (a == sysModules) = false ∧ ∃ xs : List (NestedKey × Addr × Value), NR kvs xs ∧
  ∃ o es ep, h.get? a = some o ∧ o.ExactDict ∧ o.data = .dict es ep ∧ es.toList = xs.map (entryOfKey (nestedKind P w)) ∧ (xs.map (·.1)).Nodup
def dN (P : Program) (w : World) (a : Addr) (kvs : NKV) : HO := .ext (rawN P w a kvs)
theorem rawN_ok {P : Program} {w : World} {a : Addr} {kvs : NKV} {h : Heap} {H : Hp} (r : rawN P w a kvs h) : ObjOk P w H h a (dN P w a kvs) := by
  refine ⟨r, ?_, fun h1 h2 q k => ?_⟩
  · obtain ⟨_, _, _, _, o, _, _, ho, _⟩ := r
    exact ⟨o, ho⟩
  · obtain ⟨z, y, xs, r, o, es, ep, ho, c⟩ := q
    exact ⟨z, y, xs, r, o, es, ep, k _ ho, c⟩
def nVal (kvs : NKV) (k : NestedKey) : Option V := (kvs.find? fun x => decide (x.1 = k)).map (·.2.2)
def nPut (kvs : NKV) (k : NestedKey) (b : Addr) (v : V) : NKV := if (nVal kvs k).isSome then kvs.map (fun x => if x.1 = k then (x.1, x.2.1, v) else x) else kvs ++ [(k, b, v)]
theorem NR.val {kvs : NKV} {xs : List (NestedKey × Addr × Value)} (r : NR kvs xs) (k : NestedKey) : RelO (nVal kvs k) ((atKey xs k).map (·.2)) := by
  induction r with
  | nil => exact True.intro
  | @cons p q ps qs h t ih =>
    obtain ⟨h1, _, h2⟩ := h
    by_cases e : p.1 = k
    · have e' : q.1 = k := h1.symm.trans e
      have b : atKey (q :: qs) k = some q.2 := by simp [atKey, List.find?_cons, e']
      have c : nVal (p :: ps) k = some p.2.2 := by simp [nVal, List.find?_cons, e]
      rw [c, b]
      exact h2
    · have e' : ¬ q.1 = k := fun z => e (h1.trans z)
      have b : atKey (q :: qs) k = atKey qs k := by simp [atKey, List.find?_cons, e']
      have c : nVal (p :: ps) k = nVal ps k := by simp [nVal, List.find?_cons, e]
      rw [c, b]
      exact ih
theorem NR.repl {kvs : NKV} {xs : List (NestedKey × Addr × Value)} (r : NR kvs xs) (k : NestedKey) {y : V} {u : Value} (ry : RelV y u) : NR (kvs.map fun x => if x.1 = k then (x.1, x.2.1, y) else x) (xs.map (putAt k u)) := by
  induction r with
  | nil => exact .nil
  | @cons p q ps qs h t ih =>
    rw [List.map_cons, List.map_cons]
    refine .cons ?_ ih
    obtain ⟨h1, h2, h3⟩ := h
    unfold putAt
    by_cases e : p.1 = k
    · rw [if_pos e, if_pos (h1.symm.trans e)]
      exact ⟨h1, h2, ry⟩
    · rw [if_neg e, if_neg (fun z => e (h1.trans z))]
      exact ⟨h1, h2, h3⟩
theorem NR.put {kvs : NKV} {xs : List (NestedKey × Addr × Value)} (r : NR kvs xs) (k : NestedKey) (b : Addr) {y : V} {u : Value} (ry : RelV y u) : NR (nPut kvs k b y) (storedH xs k b u) := by
  have e : (nVal kvs k).isSome = (atKey xs k).isSome := by
    have := (r.val k).isSome_eq
    rw [this, Option.isSome_map]
  unfold nPut storedH
  rw [e]
  by_cases q : (atKey xs k).isSome = true
  · rw [if_pos q, if_pos q]
    exact r.repl k ry
  · rw [if_neg q, if_neg q]
    exact Paired.snoc r ⟨rfl, rfl, ry⟩
theorem nPut_len (kvs : NKV) (k : NestedKey) (b : Addr) (v : V) : (nPut kvs k b v).length ≤ kvs.length + 1 := by
  unfold nPut
  split
  · rw [List.length_map]
    omega
  · rw [List.length_append, List.length_singleton]
    omega
/-- the keys' tuples as they are seen -/
def KOk (K : PySem.W.Frag) (G : Hp) (kvs : NKV) : Prop := ∀ x ∈ kvs, ∃ d, keyOf d = x.1 ∧ isKey d = true ∧ (keyOf d).depth ≤ 8 ∧ Rep K G d (.ref x.2.1)
theorem KOk.mono {K : PySem.W.Frag} {G G' : Hp} {kvs : NKV} (h : KOk K G kvs) (e : Same G G') : KOk K G' kvs := fun x hx => let ⟨d, a, b, c, r⟩ := h x hx; ⟨d, a, b, c, r.mono e⟩
structure NAt (K : PySem.W.Frag) (P : Program) (w : World) (H : Hp) (a : Addr) (kvs : NKV) (d : D) (y : V) : Prop where
  ex : ∃ G, Same G H ∧ Rd H a (dN P w a kvs) ∧ KOk K G kvs ∧ isKey d = true ∧ (keyOf d).depth ≤ 8 ∧ Rep K G d y ∧ ∃ b, y = .ref b
section
variable {X : Cx} {pins : List (Addr × Obj)} {σ : L2.St} {H G : Hp} {s : Shared} {a : Addr} {kvs : NKV} {d : D} {y v : V} {u r : Value} {A : Around} {E : Value → Shared → Prop}
theorem n_rd (I : Inv X pins σ H s) (e : Same G H) (h : Rd H a (dN X.prog X.w a kvs)) (k : KOk X.K G kvs) : ∃ xs, NR kvs xs ∧ s.heap.DictOfH (nestedKind X.prog X.w) a xs ∧ (a == sysModules) = false ∧ kvs.length ≤ sizeLine := by
  obtain ⟨z, hs, xs, rel, o, es, ep, ho, c1, c2, c3, c4⟩ := (show ObjOk X.prog X.w H s.heap a (dN X.prog X.w a kvs) from h.ok I.hok).1
  refine ⟨xs, rel, ⟨o, es, ep, ho, c1, c2, c3, ?_, c4⟩, hs, z⟩
  have all : ∀ {l : NKV} {m : List (NestedKey × Addr × Value)}, NR l m → KOk X.K G l → ∀ x ∈ m, (nestedKind X.prog X.w).is s.heap x.1 x.2.1 := by
    intro l m q
    induction q with
    | nil => intro _ x hx; exact nomatch hx
    | @cons p q ps qs hq t ih =>
      intro hk x hx
      rcases List.mem_cons.mp hx with e2 | hx
      · subst e2
        obtain ⟨d, a1, a2, a3, a4⟩ := hk p (List.mem_cons_self ..)
        have n := nested_of I e a4 a2 (u := .ref p.2.1) rfl
        refine ⟨?_, ?_⟩
        · rw [← hq.1, ← a1, ← hq.2.1]
          exact n
        · rw [← hq.1, ← a1]
          exact a3
      · exact ih (fun x hx => hk x (List.mem_cons_of_mem _ hx)) x hx
  exact all rel k
theorem n_key (I : Inv X pins σ H s) (g : NAt X.K X.prog X.w H a kvs d y) (ry : RelV y u) : ∃ b, y = .ref b ∧ u = .ref b ∧ (nestedKind X.prog X.w).is s.heap (keyOf d) b := by
  obtain ⟨G, e, _, _, k1, k2, r, b, rfl⟩ := g.ex
  cases ry
  exact ⟨b, rfl, rfl, nested_of I e r k1 rfl, k2⟩
theorem room_n (hu : A.units + 64 < cLine) : (nestedKind X.prog X.w).room A.in1 := by
  show A.in1.units + 8 < cLine
  rw [Around.in1_units]
  omega
/-- d[y], there -/
theorem n_getItem {Q : Value → Shared → Prop} (hu : A.units + 64 < cLine) (I : Inv X pins σ H s) (g : NAt X.K X.prog X.w H a kvs d y) (l : nVal kvs (keyOf d) = some v) (ry : RelV y u) (h : ∀ w' s', Inv X pins σ H s' → RelV v w' → Q w' s') :
    wpAny (model X.prog X.w) A (getItem (.ref a) u) Q E s := by
  obtain ⟨b, _, rfl, hk⟩ := n_key I g ry
  obtain ⟨G, e, rd, ko, _⟩ := g.ex
  obtain ⟨xs, rel, dd, _⟩ := n_rd I e rd ko
  obtain ⟨w', hw, rw'⟩ := RelO.some_of (v := v) (o := (atKey xs (keyOf d)).map (·.2)) (by rw [← l]; exact rel.val _)
  obtain ⟨p, hp, hp2⟩ := Option.map_eq_some_iff.mp hw
  refine wpAny_getItem_heap (room_n hu) hk dd hp ?_
  rw [hp2]
  exact h w' _ (I.tok _) rw'
theorem n_notIn {Q : Value → Shared → Prop} (hu : A.units + 64 < cLine) (I : Inv X pins σ H s) (g : NAt X.K X.prog X.w H a kvs d y) (ry : RelV y u) (h : ∀ s', Inv X pins σ H s' → Q (.bool (!(nVal kvs (keyOf d)).isSome)) s') :
    wpAny (model X.prog X.w) A (compareOp .NotIn u (.ref a)) Q E s := by
  obtain ⟨b, _, rfl, hk⟩ := n_key I g ry
  obtain ⟨G, e, rd, ko, _⟩ := g.ex
  obtain ⟨xs, rel, dd, hs, _⟩ := n_rd I e rd ko
  refine wpAny_notIn_heap (room_n hu) hk hs dd ?_
  have q := (rel.val (keyOf d)).isSome_eq
  rw [Option.isSome_map] at q
  rw [← q]
  exact h _ (I.tok _)
/-- d[y] = v -/
theorem n_setItem {Q : Unit → Shared → Prop} {b : Addr} (hu : A.units + 64 < cLine) (I : Inv X pins σ H s) (g : NAt X.K X.prog X.w H a kvs d (.ref b)) (hH : H a = some (dN X.prog X.w a kvs)) (hl : kvs.length < sizeLine) (rv : RelV v r)
    (h : ∀ s', Inv X pins σ (upd H a (dN X.prog X.w a (nPut kvs (keyOf d) b v))) s' → Q () s') : wpAny (model X.prog X.w) A (setItem (.ref a) (.ref b) r) Q E s := by
  obtain ⟨b', e1, _, hk⟩ := n_key I g (u := .ref b) rfl
  cases e1
  obtain ⟨G, e, rd, ko, _⟩ := g.ex
  obtain ⟨xs, rel, dd, hs, hz⟩ := n_rd I e rd ko
  have hz2 : xs.length ≤ sizeLine := by rw [← Paired.length rel]; exact hz
  refine wpAny_setItem_heap (hsz := hz2) (room_n hu) hk dd fun h' dd' hs' => h _ ?_
  obtain ⟨q, es, ep, hq, h2, h3, h4, _, h5⟩ := dd'
  refine I.write (x := a) (e := a) (by rw [hH]; exact True.intro) (.inl rfl) (fun b u hb z => (hs'.2 b hb).trans z) ⟨q, hq⟩ (rawN_ok ⟨?_, hs, _, rel.put (keyOf d) b rv, q, es, ep, hq, h2, h3, h4, h5⟩)
  have := nPut_len kvs (keyOf d) b v
  omega
end

/-! ### readings -/
def tNGet (X : Cx) (td ty : TE) : TE := fun σ H Q => td σ H fun x H1 => ty σ H1 fun y H2 => ∃ a kvs d v, x = .ref a ∧ NAt X.K X.prog X.w H2 a kvs d y ∧ nVal kvs (keyOf d) = some v ∧ Q v H2
def tNNotIn (X : Cx) (ty td : TE) : TE := fun σ H Q => ty σ H fun y H1 => td σ H1 fun x H2 => ∃ a kvs d, x = .ref a ∧ NAt X.K X.prog X.w H2 a kvs d y ∧ Q (.bl (!(nVal kvs (keyOf d)).isSome)) H2
def sNPut (X : Cx) (td ty tv : TE) : TS := fun D σ H => tv σ H fun v H1 => td σ H1 fun x H2 => ty σ H2 fun y H3 => ∃ a kvs d b, x = .ref a ∧ y = .ref b ∧ NAt X.K X.prog X.w H3 a kvs d (.ref b) ∧ H3 a = some (dN X.prog X.w a kvs) ∧ kvs.length < sizeLine ∧
  D.nx σ (upd H3 a (dN X.prog X.w a (nPut kvs (keyOf d) b v)))
def tNNew (X : Cx) : TE := fun _ H Q => ∀ p, H p = none → Q (.ref p) (upd H p (dN X.prog X.w p []))
theorem n_typeIs {X : Cx} {pins : List (Addr × Obj)} {σ : L2.St} {H : Hp} {s : Shared} {a : Addr} {kvs : NKV} (I : Inv X pins σ H s) (h : Rd H a (dN X.prog X.w a kvs)) : s.TypeIs (.ref a) "dict" := by
  obtain ⟨z, hs, xs, rel, o, es, ep, ho, c1, c2, c3, c4⟩ := (show ObjOk X.prog X.w H s.heap a (dN X.prog X.w a kvs) from h.ok I.hok).1
  exact ⟨o, ho, c1.1⟩
section
variable {X : Cx} {o i e value : Expr} {pos pos' tpos : Pos} {td ty tv : TE}
theorem pe_nget (hu : X.A.units + 64 < cLine) (ho : PE X o td) (hi : PE X i ty) (hs : NoSl i) : PE X (.Subscript o i pos) (tNGet X td ty) := by
  refine ⟨fun pins s σ H Q I h => ?_⟩
  refine subD_of PySem.F.slot_dict_getitem.lookup hs (thn (ho.run pins s σ H _ I h) fun u s1 ⟨x, H1, I1, rx, q1⟩ => thn (hi.run pins s1 σ H1 _ I1 q1) fun iv s2 ⟨y, H2, I2, ry, a, kvs, d, v, ex, g, l, q2⟩ => ?_)
  subst ex
  obtain rfl : u = Value.ref a := rx
  obtain ⟨G, _, rd, _⟩ := g.ex
  exact ⟨n_typeIs I2 rd, n_getItem hu I2 g l ry fun w' s3 I3 rw' => ⟨v, H2, I3, rw', q2⟩⟩
theorem pc_nnotin (hu : X.A.units + 64 < cLine) (hi : PE X i ty) (ho : PE X o td) : PC X .NotIn i o (tNNotIn X ty td) := by
  refine ⟨fun pins s σ H Q I h => ?_⟩
  refine thn (hi.run pins s σ H _ I h) fun iv s1 ⟨y, H1, I1, ry, q1⟩ => thn (ho.run pins s1 σ H1 _ I1 q1) fun u s2 ⟨x, H2, I2, rx, a, kvs, d, ex, g, q2⟩ => ?_
  subst ex
  obtain rfl : u = Value.ref a := rx
  exact n_notIn hu I2 g ry fun s3 I3 => ⟨.bl _, H2, I3, rfl, q2⟩
theorem ps_nput (hu : X.A.units + 64 < cLine) (ho : PE X o td) (hi : PE X i ty) (hv : PE X value tv) (hs : swapsWith value (some (.Subscript o i pos')) pos.line X.env = pure false) :
    PS X (.Assign [.Subscript o i pos'] value pos) (sNPut X td ty tv) := by
  refine ⟨fun pins s σ H D I h => ?_⟩
  refine wpAny_Assign_Subscript (thn (hv.run pins s σ H _ I h) fun r s1 ⟨v, H1, I1, rv, q1⟩ => thn (ho.run pins s1 σ H1 _ I1 q1) fun u s2 ⟨x, H2, I2, rx, q2⟩ => thn (hi.run pins s2 σ H2 _ I2 q2) fun iv s3 ⟨y, H3, I3, ry, a, kvs, d, b, ex, ey, g, hH, hl, q3⟩ => ?_) hs
  subst ex ey
  obtain rfl : u = Value.ref a := rx
  obtain rfl : iv = Value.ref b := ry
  exact n_setItem hu I3 g hH hl rv fun s4 I4 => ⟨σ, _, I4, q3⟩
theorem pe_dnewN : PE X (.Dict [] [] pos) (tNNew X) := ⟨fun pins s σ H Q I h =>
  wpAny_Dict_empty ⟨.ref s.heap.objs.size, _, I.laid (a := s.heap.objs.size) (o := dN X.prog X.w s.heap.objs.size []) (t' := s.toks) (fun _ _ q => Heap.get?_push_of_some _ q) (Nat.le_refl _)
    (rawN_ok ⟨Nat.zero_le _, beq_eq_false_iff_ne.mpr (Ne.symm (Nat.ne_of_lt I.big)), [], .nil, _, #[], 0, Heap.get?_push_size _ rfl, ⟨rfl, rfl, rfl⟩, rfl, rfl, List.nodup_nil⟩), rfl, h _ (I.hok.fresh (Nat.le_refl _))⟩⟩
end

/-! ### its keys, walked (locked) -/
theorem Inv.frzN {X : Cx} {pins : List (Addr × Obj)} {σ : L2.St} {H : Hp} {s : Shared} {d : Addr} {o : Obj} {kvs : NKV} (I : Inv X pins σ H s) (h : H d = some (.frz o (dN X.prog X.w d kvs))) :
    (d == sysModules) = false ∧ s.heap.get? d = some o ∧ o.ExactDict ∧ ∃ (es : Array DictEntry) (ep : Nat), o.data = .dict es ep ∧ es.size = kvs.length ∧
      ∀ (i : Nat) (x : NestedKey × Addr × V), kvs[i]? = some x → ∃ en : DictEntry, es[i]? = some en ∧ en.key = .ref x.2.1 := by
  obtain ⟨hd, ⟨z, hs, xs, pr, o', es, ep, ho, hx, hdt, he, _⟩, _⟩ := I.hok d _ h
  rw [hd] at ho
  cases ho
  refine ⟨hs, hd, hx, es, ep, hdt, ?_, fun i x e => ?_⟩
  · have l1 : es.size = xs.length := by rw [← Array.length_toList, he, List.length_map]
    have l2 : kvs.length = xs.length := Paired.length pr
    omega
  · obtain ⟨b, hb, e1, e2, _⟩ := paired_get pr e
    have q := entry_at he i
    rw [hb] at q
    exact ⟨_, q, congrArg Value.ref e2.symm⟩
def Itkn (P : Program) (w : World) (d : Addr) (o : Obj) (kvs : NKV) : It :=
  ⟨fun i H => H d = some (.frz o (dN P w d kvs)) ∧ i < kvs.length, fun i H x H' => H' = H ∧ ∃ y, kvs[i]? = some y ∧ x = .ref y.2.1, fun i H => H d = some (.frz o (dN P w d kvs)) ∧ kvs.length ≤ i⟩
theorem turn_keysN {P : Program} {w : World} {K : PySem.W.Frag} {tg : Expr} {d : Addr} {o : Obj} {es : Array DictEntry} {ep : Nat} {kvs : NKV} (it : Addr) (hod : o.data = .dict es ep) : Turn P w K tg (Itkn P w d o kvs) [it] it (fun i h => h.IsKeyIter it d i kvs.length ep) where
  mem := by simp
  obj := fun i h st b hb => by
    have e : b = it := by simpa using hb
    subst e
    obtain ⟨oi, e, c, dd⟩ := st
    exact ⟨oi, e, fun v z => by rw [dd] at z; cases z⟩
  keep := fun i h h' st k => st.at fun oi e => k it (by simp) oi e
  item := by
    intro X hP hw hK hc i pins s σ H E I hf st hg
    subst hP hw hK
    obtain ⟨hd, hi⟩ := hg
    obtain ⟨f0, f1, f2, f3, f4, f5⟩ := hf it (by simp)
    obtain ⟨hs, hgd, hx, es', ep', hdt, hsz, ent⟩ := Inv.frzN I hd
    obtain ⟨rfl, rfl⟩ := dict_ep hod hdt
    obtain ⟨y, hy⟩ : ∃ p, kvs[i]? = some p := ⟨kvs[i], List.getElem?_eq_getElem hi⟩
    obtain ⟨en, hen, hkey⟩ := ent i y hy
    refine next_key_item st hgd hdt hsz hen fun h' st' sb => ?_
    have I1 : Inv X pins σ H { s with heap := h' } := I.turned (t' := s.toks) (fun b ob hb e => (sb.2 b hb).trans e) f0 f1 f3 f4 f5
    obtain ⟨oi, e, c, dd⟩ := id st'
    exact ⟨en.key, rfl, go_of (s := { s with heap := h' }) e c dd (by decide) ⟨.ref y.2.1, H, I1, hkey, ⟨rfl, y, hy, rfl⟩, st', fun b hb => (hf b hb).1⟩⟩
  done := by
    intro X hP hw hK hc i pins s σ H E I hf st hg
    subst hP hw hK
    obtain ⟨hd, hi⟩ := hg
    obtain ⟨f0, f1, f2, f3, f4, f5⟩ := hf it (by simp)
    obtain ⟨hs, hgd, hx, es', ep', hdt, hsz, ent⟩ := Inv.frzN I hd
    obtain ⟨rfl, rfl⟩ := dict_ep hod hdt
    exact next_key_end (I.ok.hd hc) st hgd hdt hsz hi fun h' eb => ⟨rfl, I.turned (t' := s.toks) (fun b ob hb e => eb b ob hb e) f0 f1 f3 f4 f5⟩
  self := fun A i s Q E st h => by
    refine wpAny_pyIter_slot st.typeIs PySem.F.slot_dict_keyiterator_iter (wpAny_call_entry PySem.F.slot_dict_keyiterator_iter st.typeIs PySem.F.entry_dict_keyiterator_iter ?_ (PySem.F.args_dict_keyiterator_iter_1 _))
    show wpAny _ _ (ret (.ref it)) _ _ s
    exact wpAny_pure ⟨_, rfl, "dict_keyiterator", _, st.typeIs, PySem.F.slot_dict_keyiterator_next.lookup, h⟩
def iKeysN (X : Cx) (td : TE) : TI := fun σ H R => td σ H fun x H1 => ∃ d o kvs, x = .ref d ∧ H1 d = some (.frz o (dN X.prog X.w d kvs)) ∧ R (Itkn X.prog X.w d o kvs) H1
theorem pi_keysN {X : Cx} {tg e : Expr} {td : TE} (he : PE X e td) : PI X tg e (iKeysN X td) := by
  refine ⟨fun pins s σ H R I h => ?_⟩
  refine thn (he.run pins s σ H _ I h) fun u s1 ⟨x, H1, I1, rx, d, o, kvs, ex, hd, q⟩ => ?_
  subst ex
  obtain rfl : u = Value.ref d := rx
  obtain ⟨hs, hgd, hx, es, ep, hdt, hsz, ent⟩ := Inv.frzN I1 hd
  refine iter_keys hs hgd hx hdt (pi_one (tk := s1.toks) I1 _ (turn_keysN _ hdt) ⟨_, Heap.get?_push_size _ rfl, rfl, ?_⟩ q)
  rw [hsz] <;> rfl
/-- the loops over such an iterator -/
theorem for_J {J : It} {n : Nat} {g : TG} {tb : TS} {D : Ends} {σ : L2.St} {H : Hp} (Pv : Nat → L2.St → Hp → Prop) (h0 : Pv 0 σ H) (hgo : ∀ i σ H, i < n → Pv i σ H → J.go i H) (hst : ∀ σ H, Pv n σ H → J.stop n H)
    (hs : ∀ i x σ H H', i < n → Pv i σ H → J.yld i H x H' → g x σ H' fun σ2 H2 => tb { D with nx := Pv (i + 1), ct := Pv (i + 1), bk := D.nx } σ2 H2) (hd : ∀ σ H, Pv n σ H → D.nx σ H) :
    ∃ W : Nat → Nat → L2.St → Hp → Prop, (∃ m, W 0 m σ H) ∧ ∀ i m σ H, W i m σ H →
      (J.stop i H ∧ D.nx σ H) ∨ (J.go i H ∧ ∃ N : L2.St → Hp → Prop, (∀ σ' H', N σ' H' → ∃ m', m' < m ∧ W (i + 1) m' σ' H') ∧ ∀ x H', J.yld i H x H' → g x σ H' fun σ2 H2 => tb { D with nx := N, ct := N, bk := D.nx } σ2 H2) := by
  refine ⟨fun i m σ H => m = n - i ∧ i ≤ n ∧ Pv i σ H, ⟨n, by simp, Nat.zero_le _, h0⟩, ?_⟩
  rintro i m σ H ⟨rfl, hi, p⟩
  by_cases hlt : i < n
  · exact .inr ⟨hgo i σ H hlt p, Pv (i + 1), fun σ' H' p' => ⟨n - (i + 1), by omega, rfl, hlt, p'⟩, fun x H' y => hs i x σ H H' hlt p y⟩
  · have e : i = n := by omega
    subst e
    exact .inl ⟨hst σ H p, hd σ H p⟩
theorem lc_J {J : It} {n : Nat} {g : TG} {tt : TT} {te : TE} {vs : List Nat} {σ : L2.St} {H1 : Hp} {D : Addr} {Qd : Hp → Prop} (Pv : Nat → Hp → Prop) (h0 : Pv 0 (upd H1 D (.lst []))) (hgo : ∀ i H, i < n → Pv i H → J.go i H) (hst : ∀ H, Pv n H → J.stop n H)
    (hs : ∀ i x H H', i < n → Pv i H → J.yld i H x H' → g x (wipe σ vs) H' fun σ2 H2 => wipe σ2 vs = wipe σ vs ∧ tt σ2 H2 fun b H3 =>
      if b = true then te σ2 H3 fun y H4 => ∃ acc, H4 D = some (.lst acc) ∧ acc.length < sizeLine ∧ Pv (i + 1) (upd H4 D (.lst (acc ++ [y]))) else Pv (i + 1) H3) (hd : ∀ H, Pv n H → Qd H) :
    ∃ W : Nat → Nat → Hp → Prop, (∃ m, W 0 m (upd H1 D (.lst []))) ∧ ∀ i m H, W i m H →
      (J.stop i H ∧ Qd H) ∨ (J.go i H ∧ ∃ Nx : Hp → Prop, (∀ H', Nx H' → ∃ m', m' < m ∧ W (i + 1) m' H') ∧ ∀ x H', J.yld i H x H' → g x (wipe σ vs) H' fun σ2 H2 => wipe σ2 vs = wipe σ vs ∧ tt σ2 H2 fun b H3 =>
        if b = true then te σ2 H3 fun y H4 => ∃ acc, H4 D = some (.lst acc) ∧ acc.length < sizeLine ∧ Nx (upd H4 D (.lst (acc ++ [y]))) else Nx H3) := by
  refine ⟨fun i m H => m = n - i ∧ i ≤ n ∧ Pv i H, ⟨n, by simp, Nat.zero_le _, h0⟩, ?_⟩
  rintro i m H ⟨rfl, hi, p⟩
  by_cases hlt : i < n
  · exact .inr ⟨hgo i H hlt p, Pv (i + 1), fun H' p' => ⟨n - (i + 1), by omega, rfl, hlt, p'⟩, fun x H' y => hs i x H H' hlt p y⟩
  · have e : i = n := by omega
    subst e
    exact .inl ⟨hst H p, hd H p⟩
/-! ### d == {} -/
def rEqE : R2 := fun x y H Q => ∃ a b ks, x = .ref a ∧ y = .ref b ∧ Rd H a (.dK ks) ∧ Rd H b (.dK []) ∧ Q (.bl ks.isEmpty) H
def rNeE : R2 := fun x y H Q => ∃ a b ks, x = .ref a ∧ y = .ref b ∧ Rd H a (.dK ks) ∧ Rd H b (.dK []) ∧ Q (.bl (!ks.isEmpty)) H
section
variable {X : Cx}
theorem op_eqE (hu : X.A.units < cLine) : OpR X (compareOp .Eq) rEqE := by
  intro pins s σ H x y v u Q I rx ry h
  obtain ⟨a, b, ks, rfl, rfl, ea, eb, q⟩ := h
  obtain rfl : v = Value.ref a := rx
  obtain rfl : u = Value.ref b := ry
  obtain ⟨_, ya, va, ra, da⟩ := dk_rd I.hok ea
  obtain ⟨_, yb, vb, rb, db⟩ := dk_rd I.hok eb
  cases rb
  refine PySem.W.keq_eq (knd := mixKind X.prog X.w) (r := true) ya yb da db hu (fun hl => ?_) (fin_bl I q ?_)
  · cases va with
    | nil => exact .nil
    | cons _ _ => simp at hl
  · cases ra <;> rfl
theorem op_neE (hu : X.A.units < cLine) : OpR X (compareOp .NotEq) rNeE := by
  intro pins s σ H x y v u Q I rx ry h
  obtain ⟨a, b, ks, rfl, rfl, ea, eb, q⟩ := h
  obtain rfl : v = Value.ref a := rx
  obtain rfl : u = Value.ref b := ry
  obtain ⟨_, ya, va, ra, da⟩ := dk_rd I.hok ea
  obtain ⟨_, yb, vb, rb, db⟩ := dk_rd I.hok eb
  cases rb
  refine PySem.W.keq_ne (knd := mixKind X.prog X.w) (r := true) ya yb da db hu (fun hl => ?_) (fin_bl I q ?_)
  · cases va with
    | nil => exact .nil
    | cons _ _ => simp at hl
  · cases ra <;> rfl
end
end SK
set_option maxRecDepth 100000
set_option maxHeartbeats 4000000
namespace SK
open PySem L2 PyProof.Rows
/-! ### the memory of spans -/
def kS (r : Nat) (bands : List Nat) (f : Bool) : D := .tup [nI r, eN bands, .bl f]
def eSp (h : HoldM) (r : Nat) (bands : List Nat) (f : Bool) : D := .tup [eQ (spanQ h r bands f).1, eQ (spanQ h r bands f).2]
theorem areKeys_nats : ∀ l : List Nat, areKeys (l.map nI) = true
  | [] => rfl
  | a :: l => by
    show (isKey (nI a) && areKeys (l.map nI)) = true
    rw [areKeys_nats l]
    rfl
theorem isKey_kS (r : Nat) (bands : List Nat) (f : Bool) : isKey (kS r bands f) = true := by
  show (true && ((areKeys (bands.map nI)) && (true && true))) = true
  rw [areKeys_nats]
  rfl
theorem depthAll_nats : ∀ l : List Nat, NestedKey.depthAll (keysOf (l.map nI)) = 0
  | [] => rfl
  | a :: l => by
    show max 0 (NestedKey.depthAll (keysOf (l.map nI))) = 0
    rw [depthAll_nats l]
    rfl
theorem depth_kS (r : Nat) (bands : List Nat) (f : Bool) : (keyOf (kS r bands f)).depth ≤ 8 := by
  show max 0 (max (NestedKey.depthAll (keysOf (bands.map nI)) + 1) (max 0 0)) + 1 ≤ 8
  rw [depthAll_nats]
  decide
theorem keysOf_inj : ∀ {a b : List Nat}, keysOf (a.map nI) = keysOf (b.map nI) → a = b
  | [], [], _ => rfl
  | [], _ :: _, e => by cases e
  | _ :: _, [], e => by cases e
  | x :: xs, y :: ys, e => by
    have e1 : NestedKey.num (x : Int) :: keysOf (xs.map nI) = NestedKey.num (y : Int) :: keysOf (ys.map nI) := e
    injection e1 with e2 e3
    injection e2 with e4
    rw [keysOf_inj e3, Int.ofNat.inj e4]
theorem kS_inj {r r' : Nat} {b b' : List Nat} {f f' : Bool} (e : keyOf (kS r b f) = keyOf (kS r' b' f')) : r = r' ∧ b = b' ∧ f = f' := by
  have e0 : NestedKey.tup [.num (r : Int), .tup (keysOf (b.map nI)), .num (if f = true then 1 else 0)] = NestedKey.tup [.num (r' : Int), .tup (keysOf (b'.map nI)), .num (if f' = true then 1 else 0)] := e
  injection e0 with e1
  injection e1 with e2 e3
  injection e3 with e4 e5
  injection e5 with e6 _
  injection e2 with e7
  injection e4 with e8
  injection e6 with e9
  refine ⟨Int.ofNat.inj e7, keysOf_inj e8, ?_⟩
  cases f <;> cases f' <;> first | rfl | (simp at e9)
abbrev CS (K : PySem.W.Frag) : Addr := He.ga K "Spread"
def fS (p d : Addr) : List (Str × V) := [("my_hold", .ref p), ("my_spans", .ref d)]
structure SprAt (K : PySem.W.Frag) (P : Program) (w : World) (h : HoldM) (B H H1 : Hp) (sp d : Addr) (kvs : NKV) : Prop where
  ob : ∃ p dx, H1 sp = some (.ins (CS K) dx (fS p d)) ∧ Rep K H (eH K h) (.ref p)
  di : H1 d = some (dN P w d kvs)
  ks : KOk K H kvs
  sp : ∀ x ∈ kvs, ∃ r bands f, r < h.many ∧ BandsOk h bands ∧ x.1 = keyOf (kS r bands f) ∧ Rep K H (eSp h r bands f) x.2.2
  hd : H d = none
  bd : B d = none
  nd : (kvs.map (·.1)).Nodup
theorem dN_ne {P : Program} {w : World} {a : Addr} {kvs : NKV} {vs : List V} : HO.lst vs ≠ dN P w a kvs := fun z => by cases z
theorem SprAt.step {K : PySem.W.Frag} {P : Program} {w : World} {h : HoldM} {B H H1 G H2 : Hp} {sp d : Addr} {kvs : NKV} (s : SprAt K P w h B H H1 sp d kvs) (t : Step H H1 G H2) : SprAt K P w h B G H2 sp d kvs where
  ob := let ⟨p, dx, a, r⟩ := s.ob; ⟨p, dx, t.s3 _ _ a, r.mono t.s1⟩
  di := t.s3 _ _ s.di
  ks := s.ks.mono t.s1
  sp := fun x hx => let ⟨r, b, f, a1, a2, e, rp⟩ := s.sp x hx; ⟨r, b, f, a1, a2, e, rp.mono t.s1⟩
  hd := by
    cases q : G d with
    | none => rfl
    | some o =>
      rcases t.nw d o q with z | z
      · rw [s.hd] at z; cases z
      · rw [s.di] at z; cases z
  bd := s.bd
  nd := s.nd
def spr (K : PySem.W.Frag) (P : Program) (w : World) (h : HoldM) (sp : Addr) : Memo where
  ok := fun B H H1 a => a = sp ∧ ∃ d kvs, SprAt K P w h B H H1 sp d kvs
  step := fun ⟨e, d, kvs, s⟩ t => ⟨e, d, kvs, s.step t⟩
  jl := false
  put := fun {B H H1 a p vs vs'} _ ⟨ea, d, kvs, s⟩ hp => by
    obtain ⟨q, dx, e, r⟩ := s.ob
    have n1 : sp ≠ p := ne_of e hp (fun z => nomatch z)
    have n2 : d ≠ p := (ne_of hp s.di dN_ne).symm
    exact ⟨ea, d, kvs, ⟨q, dx, by rw [upd_ne n1]; exact e, r⟩, by rw [upd_ne n2]; exact s.di, s.ks, s.sp, s.hd, s.bd, s.nd⟩
  see := fun {B H H1 a p vs} _ ⟨ea, d, kvs, s⟩ hp h0 => by
    have n2 : d ≠ p := (ne_of hp s.di dN_ne).symm
    have sm : ∀ o, Same H (upd H p o) := fun o => Same.new h0
    obtain ⟨q, dx, e, r⟩ := s.ob
    exact ⟨ea, d, kvs, ⟨q, dx, e, r.mono (sm _)⟩, s.di, s.ks.mono (sm _), fun x hx => let ⟨r, b, f, a1, a2, e, rp⟩ := s.sp x hx; ⟨r, b, f, a1, a2, e, rp.mono (sm _)⟩, by rw [upd_ne n2]; exact s.hd, s.bd, s.nd⟩
/-- how many spans there are -/
theorem flat_len {α β : Type} (f : α → List β) (c : Nat) : ∀ l : List α, (∀ a ∈ l, (f a).length ≤ c) → (l.flatMap f).length ≤ l.length * c
  | [], _ => by simp
  | a :: l, h => by
    have h1 := h a (List.mem_cons_self ..)
    have h2 := flat_len f c l fun x hx => h x (List.mem_cons_of_mem _ hx)
    rw [List.flatMap_cons, List.length_append, List.length_cons, Nat.add_mul, Nat.one_mul]
    omega
theorem SprAt.few {K : PySem.W.Frag} {P : Program} {w : World} {h : HoldM} {B H H1 : Hp} {sp d : Addr} {kvs : NKV} (wf : WF h) (s : SprAt K P w h B H H1 sp d kvs) : kvs.length ≤ 196 := by
  have hw := wf.few
  have h1 := nodup_le (kvs.map (·.1)) ((List.range 2).flatMap fun r => (allB 7 h.many).flatMap fun b => [keyOf (kS r b true), keyOf (kS r b false)]) s.nd fun k hk => by
    obtain ⟨x, hx, rfl⟩ := List.mem_map.mp hk
    obtain ⟨r, b, f, hr, hb, e, _⟩ := s.sp x hx
    refine List.mem_flatMap.mpr ⟨r, List.mem_range.mpr (by omega), List.mem_flatMap.mpr ⟨b, mem_allB hb.len (getD_all hb.len fun o ho => ?_), ?_⟩⟩
    · have := hb.lt o ho
      have := (wf.mks o ho).2
      omega
    · rw [e]
      cases f <;> simp
  have h2 := flat_len (fun r => (allB 7 h.many).flatMap fun b => [keyOf (kS r b true), keyOf (kS r b false)]) 98 (List.range 2) fun r _ => by
    have h3 := flat_len (fun b => [keyOf (kS r b true), keyOf (kS r b false)]) 2 (allB 7 h.many) fun b _ => Nat.le_refl 2
    rw [allB_len] at h3
    have h4 : 7 ^ h.many ≤ 7 ^ 2 := Nat.pow_le_pow_right (by decide) hw
    exact Nat.le_trans h3 (by omega)
  rw [List.length_map] at h1
  rw [List.length_range] at h2
  omega
/-- the promise of a method that may fill the memory -/
def spM (K : PySem.W.Frag) (P : Program) (w : World) (S : HoldM → List D → D → Prop) : Sp := fun vs H1 Q _ => ∃ (h : HoldM) (a : Addr) (ws : List V) (ds : List D) (d : D) (B H : Hp), vs = .ref a :: ws ∧ Same H H1 ∧ Same B H1 ∧ (spr K P w h a).ok B H H1 a ∧ Reps K H ds ws ∧ S h ds d ∧
  ∀ v G H2, Same H G → Same G H2 → Same B H2 → (∀ x o, G x = some o → H x = some o ∨ B x = none) → (spr K P w h a).ok B G H2 a → Rep K G d v → Q v H2
def noMem (ρ : Rho) : Bool := ρ.all fun b => match b with
  | some (.mem _) => false
  | _ => true
theorem noMem_ok {M : Memo} {ρ : Rho} (h : noMem ρ = true) {j : Nat} {M' : Memo} (hj : (some (Bd.mem M) :: ρ)[j]? = some (some (.mem M'))) : j = 0 ∧ M = M' := by
  cases j with
  | zero =>
    cases hj
    exact ⟨rfl, rfl⟩
  | succ j =>
    rw [List.getElem?_cons_succ] at hj
    have := List.all_eq_true.mp h _ (List.mem_of_getElem? hj)
    cases this
theorem noMem_rho0 (N : List Str) (ds : List D) : noMem (rho0 N ds) = true := by
  unfold noMem rho0
  rw [List.all_append, Bool.and_eq_true]
  refine ⟨?_, ?_⟩
  · rw [List.all_map]
    exact List.all_eq_true.mpr fun _ _ => rfl
  · exact List.all_eq_true.mpr fun x hx => by rw [(List.mem_replicate.mp hx).2]
section
variable {P : Program} {w : World} {K : PySem.W.Frag} {mg : Str → Option Value} {base : Heap} {x qual : Str} {params : Arguments} {body : List Stmt} {scope : Scope} {dvs : List V} {kws : List (Str × V)} {f : Addr} {fd : FuncData}
theorem at_memo {H B H1 : Hp} {N : List Str} {ds : List D} {ws : List V} {a : Addr} {M : Memo} (e : Same H H1) (eb : Same B H1) (r : Reps K H ds ws) (m : M.ok B H H1 a) : At K H B (some (.mem M) :: rho0 N ds) (some (.ref a) :: L2.start N ws) H H1 := by
  have t : At K H H1 (rho0 N ds) (L2.start N ws) H H1 := At.start e r
  exact {
    up := e
    an := Same.refl _
    bn := eb
    nw := fun _ _ h => .inl h
    sl := fun i d h => match i with
      | 0 => by cases h
      | i + 1 => t.sl i d h
    ow := fun i es h => match i with
      | 0 => by cases h
      | i + 1 => by
        obtain ⟨p, vs, e1, e2, e3, e4, _⟩ := t.ow i es h
        rw [e4] at e2
        cases e2
    me := fun i M' h => by
      obtain ⟨rfl, rfl⟩ := noMem_ok (noMem_rho0 N ds) h
      exact ⟨a, rfl, m⟩
    ne := fun i j es es' _ h => match i with
      | 0 => by cases h
      | i + 1 => by
        obtain ⟨p, vs, e1, e2, e3, e4, _⟩ := t.ow i es h
        rw [e4] at e2
        cases e2
    jo := .inr (noOwn_rho0 N ds)
    ln := by rw [List.length_cons, List.length_cons, t.ln] }
theorem okM {n0 : Str} {N ps : List Str} {k : Nat} {S : HoldM → List D → D → Prop} (F : FunD K x qual params body scope dvs kws f fd) (SC : FnScope (n0 :: N) (n0 :: ps) scope) (len : ∀ h ds d, S h ds d → ds.length = ps.length)
    (hb : ∀ (cdv : Value) (A : Around) (outer : List Env) (s : Shared) (H : Hp) (E : XK) (h : HoldM) (a : Addr) (ds : List D) (d : D), Room k (A.deeper (envOfC qual scope s.heap.objs.size f cdv)) → S h ds d →
      DS (cx P w K mg base (n0 :: N) qual scope f cdv A outer s H E) (some (.mem (spr K P w h a)) :: rho0 N ds) body ⟨fun _ => False, fun d' => d' = d, fun ρ => ρ[0]? = some (some (.mem (spr K P w h a)))⟩) : FnOk P w K mg base CX0 (k + 1) f fd (n0 :: ps) (spM K P w S) := by
  refine F.ok SC (fun vs H Q E h => ?_) (fun cdv A outer s H vs Q E hr h => ?_)
  · obtain ⟨h, a, ws, ds, d, B, Hv, rfl, _, _, _, r, hS, _⟩ := h
    rw [List.length_cons, List.length_cons, ← r.length, len h ds d hS]
  · obtain ⟨h, a, ws, ds, d, B, Hv, rfl, e, eb, m, r, hS, q⟩ := h
    refine ⟨_, PSs.nox (pss_of (X := cx P w K mg base (n0 :: N) qual scope f cdv A outer s H E)), ?_⟩
    have t := at_memo (N := N) e eb r m
    have es : L2.start (n0 :: N) (V.ref a :: ws) = some (V.ref a) :: L2.start N ws := by
      unfold L2.start
      rw [List.map_cons, List.length_cons, List.length_cons, Nat.add_sub_add_right]
      rfl
    rw [es]
    refine hb cdv A outer s H E h a ds d hr hS _ B _ Hv H _ t ⟨fun ρ σ G H2 z => z.elim, fun d' v ρ σ G H2 a1 a2 b c r2 => ?_⟩
    have a3 : d' = d := a1
    subst a3
    obtain ⟨a', e1, m'⟩ := b.me 0 _ a2
    have e2 : a' = a := m'.1
    subst e2
    exact q v G H2 c b.up b.bn (fun x o z => b.nw x o z) m' r2
end
/-! ### what evaluates and may fill the memory -/
def DM (X : Cx) (ρ : Rho) (e : Expr) (d : D) : Prop := ∀ (A B : Hp) (σ : L2.St) (H H1 : Hp) (Q : VK), At X.K A B ρ σ H H1 → (∀ v G H2, At X.K A B ρ σ G H2 → Same H G → Rep X.K G d v → Q v H2) → teOf X e σ H1 Q
section
variable {X : Cx} {ρ : Rho} {M : Fin} {e : Expr} {es : List Expr} {d : D} {ds : List D} {st : List Stmt} {pos p apos : Pos} {x m n0 : Str} {k : Nat} {ps : List Str} {mg : Str → Option Value} {h : HoldM} {sp : Addr}
theorem asgM (i : Nat) (nd : X.N.Nodup) (he : DM X ρ e d) (rest : DS X (ρ.set i (some (.val d))) st M) (hi : X.N[i]? = some x := by rfl) (hx : Loc X.env.scope x := by first | exact Or.inl rfl | exact Or.inr rfl)
    (hs : swapsWith e (some (.Name x p)) pos.line X.env = pure false := by rfl) (hf : X.fn x = true ∨ X.env.scope.names.lookup x = some .local := by first | exact .inl rfl | exact .inr rfl) : DS X ρ (.Assign [.Name x p] e pos :: st) M :=
  fun A B σ H H1 E t f => ts_cons (ps_set nd hi hx pe_of hs hf) (he A B σ H H1 _ t fun v G H2 t2 sm r => rest A B _ G H2 E (t2.set i r) (f.mono sm))
theorem myhold (T : Prg X.K mg) (h0 : ρ[0]? = some (some (.mem (spr X.K X.prog X.w h sp))) := by rfl) (hN : X.N[0]? = some x := by rfl) (hv : Vis X.env.scope x := by first | exact Or.inl rfl | exact Or.inr (Or.inl rfl) | exact Or.inr (Or.inr rfl))
    (hb : attributeBase (.Name x p) "my_hold" X.env (eval (.Name x p) X.env) = eval (.Name x p) X.env := by rfl) (hd : (x == ("__debug__" : Str)) = false := by decide) (hcd : (x == ("__classdict__" : Str)) = false := by decide) : DE X ρ (.Attribute (.Name x p) "my_hold" pos) (eH X.K h) :=
  fun A B σ H H1 Q t q => te_run (pe_fld (pe_var hN hv hd hcd) hb) (by
    obtain ⟨a, e0, rfl, d0, kvs, s⟩ := t.me 0 _ h0
    obtain ⟨p, dx, hob, rp⟩ := s.ob
    exact ⟨_, e0, _, CS X.K, dx, fS p d0, .ref p, rfl, hob, cl_Spread T, na_Spread_my_hold T, rfl, q _ H H1 (Step.refl t.up) rp⟩)
/-- what is kept where the memory alone is written -/
theorem At.kept {K : PySem.W.Frag} {P : Program} {w : World} {A B : Hp} {ρ : Rho} {σ : L2.St} {G H2 G3 H3 : Hp} {d0 : Addr} {kvs : NKV} {v0 : Option V} (t2 : At K A B (some (.mem (spr K P w h sp)) :: ρ) σ G H2) (hn : noMem ρ = true) (s2 : SprAt K P w h B G H2 sp d0 kvs) (e0 : σ[0]? = some (some (.ref sp)))
    (g1 : Same G G3) (g2 : Same G3 H3) (g3 : ∀ x o, x ≠ d0 → H2 x = some o → H3 x = some o) (g4 : ∀ x o, G3 x = some o → G x = some o ∨ x = d0 ∨ H2 x = none) (m : ∃ d' kvs', SprAt K P w h B G3 H3 sp d' kvs') (hd0 : G3 d0 = none) : At K A B (some (.mem (spr K P w h sp)) :: ρ) σ G3 H3 where
  up := g2
  an := t2.an.trans g1
  bn := fun x o q => g3 x o (fun z => by rw [z, s2.bd] at q; cases q) (t2.bn x o q)
  nw := fun x o q => by
    rcases g4 x o q with z | z | z
    · exact t2.nw x o z
    · rw [z, hd0] at q
      cases q
    · exact .inr (t2.bn.free z)
  sl := fun i d h => let ⟨v, e, r⟩ := t2.sl i d h; ⟨v, e, r.mono g1⟩
  ow := fun i es h => by
    obtain ⟨p, vs, e1, e2, e3, e4, r⟩ := t2.ow i es h
    have np : p ≠ d0 := ne_of e2 s2.di dN_ne
    refine ⟨p, vs, e1, g3 p _ np e2, ?_, e4, r.mono g1⟩
    cases q : G3 p with
    | none => rfl
    | some o =>
      rcases g4 p o q with z | z | z
      · rw [e3] at z; cases z
      · exact absurd z np
      · rw [e2] at z; cases z
  jo := t2.jo
  me := fun i M' hi => by
    obtain ⟨rfl, rfl⟩ := noMem_ok hn hi
    obtain ⟨d', kvs', s'⟩ := m
    exact ⟨sp, e0, rfl, d', kvs', s'⟩
  ne := t2.ne
  ln := t2.ln
theorem dm_call {S : HoldM → List D → D → Prop} {pl : Sem Bool} (T : Prg X.K mg) (c : Met X.prog X.w X.K X.mg X.base k (CS X.K) m (n0 :: ps) [] (spM X.K X.prog X.w S)) (hr : Room k X.A) (ha : DA X (some (.mem (spr X.K X.prog X.w h sp)) :: ρ) (e :: es) ds) (hS : S h ds d) (hn : noMem ρ = true := by rfl)
    (hl : ∀ p d, (fS p d).lookup m = none := by intro _ _; rfl) (hN : X.N[0]? = some x := by rfl) (hv : Vis X.env.scope x := by first | exact Or.inl rfl | exact Or.inr (Or.inl rfl) | exact Or.inr (Or.inr rfl)) (hd : (x == ("__debug__" : Str)) = false := by decide) (hcd : (x == ("__classdict__" : Str)) = false := by decide)
    (hst : starEach (e :: es) X.env = (false, eval e X.env) :: starEach es X.env := by rfl) (hpl : (backTo pos (starEach es X.env)).any (·.1) = false := by rfl)
    (ht : eval (.Call (.Attribute (.Name x p) m apos) (e :: es) [] pos) X.env = (do
      let ov ← eval (.Name x p) X.env
      standAt apos.atName
      let (f, first) ← holding [ov] (getMethod ov m pl)
      callWith pos f first (backTo pos (starEach (e :: es) X.env)) (backToKw pos (keywordEach [] X.env))) := by rfl) : DM X (some (.mem (spr X.K X.prog X.w h sp)) :: ρ) (.Call (.Attribute (.Name x p) m apos) (e :: es) [] pos) d := by
  obtain ⟨f, fd, vds, hm, hb, hvv, F⟩ := c.ex
  exact fun A B σ H H1 Q t q => te_run (pe_meth (pe_var hN hv hd hcd) (cl_Spread T) hm F hr hb hvv pass0 pa_of hst hpl ht) (by
    obtain ⟨a, e0, rfl, d0, kvs, s⟩ := t.me 0 _ rfl
    obtain ⟨p, dx, hob, rp⟩ := s.ob
    refine ⟨_, e0, _, dx, _, rfl, hob, hl _ _, ha A B σ H H1 _ t fun vs G H2 st r => ?_⟩
    have t2 := t.step st
    have s2 := s.step st
    have sb : Same (fun x => if x = d0 then none else H2 x) H2 := fun x o z => by
      have z2 : (if x = d0 then none else H2 x) = some o := z
      split at z2
      · cases z2
      · exact z2
    have hB : ∀ x o, x ≠ d0 → H2 x = some o → (if x = d0 then none else H2 x) = some o := fun x o z q => by rw [if_neg z]; exact q
    refine ⟨h, a, vs, ds, d, fun x => if x = d0 then none else H2 x, G, by rw [List.append_nil], st.s2, sb, ⟨rfl, d0, kvs, { s2 with bd := if_pos rfl }⟩, r, hS, fun v G3 H3 g1 g2 g3 g4 m r3 => q v G3 H3 ?_ (st.s1.trans g1) r3⟩
    obtain ⟨_, d', kvs', s'⟩ := m
    have hd' : B d' = none := by
      cases z : B d' with
      | none => rfl
      | some o =>
        have n1 : d' ≠ d0 := fun y => by rw [y, s2.bd] at z; cases z
        have := s'.bd
        rw [if_neg n1, t2.bn d' o z] at this
        cases this
    have hd0 : G3 d0 = none := by
      cases z : G3 d0 with
      | none => rfl
      | some o =>
        exfalso
        have h3 := g2 d0 o z
        rcases g4 d0 o z with y | y
        · rw [s2.hd] at y; cases y
        · by_cases n1 : d' = d0
          · rw [← n1, s'.hd] at z
            cases z
          · have h4 := s'.bd
            have h5 : (if d' = d0 then none else H2 d') = none := h4
            rw [if_neg n1] at h5
            obtain ⟨p', dx', hob', _⟩ := s'.ob
            obtain ⟨p2, dx2, hob2, _⟩ := s2.ob
            have nsp : a ≠ d0 := ne_of hob2 s2.di (fun z => nomatch z)
            have h6 := g3 a _ (hB a _ nsp hob2)
            rw [hob'] at h6
            injection h6 with h7
            injection h7 with _ _ h8
            have h9 : [((("my_hold" : Str)), V.ref p'), (("my_spans" : Str), V.ref d')] = [(("my_hold" : Str), V.ref p2), (("my_spans" : Str), V.ref d0)] := h8
            simp only [List.cons.injEq, Prod.mk.injEq, V.ref.injEq, and_true, true_and] at h9
            exact n1 h9.2
    exact At.kept (v0 := none) t2 hn s2 e0 g1 g2 (fun x o n z => g3 x o (hB x o n z)) (fun x o z => (g4 x o z).imp id fun y => by
      by_cases n : x = d0
      · exact .inl n
      · have y2 : (if x = d0 then none else H2 x) = none := y
        rw [if_neg n] at y2
        exact .inr y2) ⟨d', kvs', { s' with bd := hd' }⟩ hd0)
end
end SK
set_option maxRecDepth 100000
set_option maxHeartbeats 4000000
namespace SK
open PySem L2 PyProof.Rows
section
variable {P : Program} {w : World} {K : PySem.W.Frag} {mg : Str → Option Value} {base : Heap}
theorem mkMM {k : Nat} {C : Addr} {x n0 : Str} {ps : List Str} {params : Arguments} {body : List Stmt} {scope : Scope} {f : Addr} {fd : FuncData} {N : List Str} {S : HoldM → List D → D → Prop} {qual : Str}
    (F : FunD K x qual params body scope [] [] f fd) (hm : Meth K C x f) (SC : FnScope (n0 :: N) (n0 :: ps) scope)
    (hb : ∀ (kV doc pm : Value) (an : Option Addr) (cdv ct : Value) (us : List Value), us.length = (n0 :: ps).length → bindArgs (PySem.W.fnOf x qual params body scope .none kV doc pm an cdv ct) ⟨us, []⟩ = pure ((n0 :: ps).zip us))
    (len : ∀ h ds d, S h ds d → ds.length = ps.length)
    (hB : ∀ (cdv : Value) (A : Around) (outer : List Env) (s : Shared) (H : Hp) (E : XK) (h : HoldM) (a : Addr) (ds : List D) (d : D), Room k (A.deeper (envOfC qual scope s.heap.objs.size f cdv)) → S h ds d →
      DS (cx P w K mg base (n0 :: N) qual scope f cdv A outer s H E) (some (.mem (spr K P w h a)) :: rho0 N ds) body ⟨fun _ => False, fun d' => d' = d, fun ρ => ρ[0]? = some (some (.mem (spr K P w h a)))⟩) : Met P w K mg base (k + 1) C x (n0 :: ps) [] (spM K P w S) :=
  ⟨f, fd, [], hm, F.bindsN hb, .nil, okM F SC len hB⟩
def S_span_by (h : HoldM) (ds : List D) (d : D) : Prop := WF h ∧ ∃ (r : Nat) (bands : List Nat) (f : Bool), r < h.many ∧ BandsOk h bands ∧ (f = true → (h.st r).isSome = true) ∧ ds = [nI r, eN bands, .bl f] ∧ d = eSp h r bands f
theorem nVal_mem {kvs : NKV} {k : NestedKey} {v : V} (h : nVal kvs k = some v) : ∃ x ∈ kvs, x.1 = k ∧ x.2.2 = v := by
  unfold nVal at h
  obtain ⟨x, h1, h2⟩ := Option.map_eq_some_iff.mp h
  have h3 := List.find?_some h1
  exact ⟨x, List.mem_of_find?_eq_some h1, of_decide_eq_true h3, h2⟩
theorem nVal_none {kvs : NKV} {k : NestedKey} (h : nVal kvs k = none) : k ∉ kvs.map (·.1) := by
  unfold nVal at h
  rw [Option.map_eq_none_iff, List.find?_eq_none] at h
  intro hk
  obtain ⟨x, hx, rfl⟩ := List.mem_map.mp hk
  exact h x hx (decide_eq_true rfl)
theorem nPut_new {kvs : NKV} {k : NestedKey} {b : Addr} {v : V} (h : nVal kvs k = none) : nPut kvs k b v = kvs ++ [(k, b, v)] := by
  unfold nPut
  rw [h]
  exact if_neg (by decide)
theorem nVal_app {kvs : NKV} {k : NestedKey} {b : Addr} {v : V} (h : nVal kvs k = none) : nVal (kvs ++ [(k, b, v)]) k = some v := by
  unfold nVal at h ⊢
  rw [Option.map_eq_none_iff] at h
  rw [List.find?_append, h]
  simp
theorem c_span_by (T : Prg K mg) : Met P w K mg base 8 (CS K) "span_by" ["self", "room", "bands", "fired"] [] (spM K P w S_span_by) := by
  obtain ⟨fd, F⟩ := F_Spread_span_by T
  refine mkMM F (m_Spread_span_by T) sc_Spread_span_by (fun _ _ _ _ _ _ us hl => match us, hl with | [_, _, _, _], _ => rfl) (fun h ds d hs => ?_) fun cdv A outer s H E h sp ds d hr hs => ?_
  · obtain ⟨_, r, bands, f, _, _, _, rfl, rfl⟩ := hs
    rfl
  · obtain ⟨wf, r, bands, f, hl, hb, hf, rfl, rfl⟩ := hs
    have nd := sc_Spread_span_by.nd
    have hu := hr.units
    refine asg 4 nd (d := kS r bands f) (de_tup (da_cons (nm 1) (da_cons (nm 2) (da_one (nm 3))))) ?_
    intro A1 B σ H0 H1 EE t ft
    -- the value is there: it is handed back
    have fin : ∀ (G H2 : Hp) (d0 : Addr) (kvs : NKV), At K A1 B [some (.mem (spr K P w h sp)), some (.val (nI r)), some (.val (eN bands)), some (.val (.bl f)), some (.val (kS r bands f))] σ G H2 → Same H0 G → SprAt K P w h B G H2 sp d0 kvs → (nVal kvs (keyOf (kS r bands f))).isSome = true →
        tsOf (cx P w K mg base n_Spread_span_by "Spread.span_by" (defScope s_Spread_span_by) (He.ma K (He.ga K "Spread") "span_by") cdv A outer s H E) ((defBody s_Spread_span_by).drop 2) EE σ H2 := fun G H2 d0 kvs t2 e2 s2 hv => by
      obtain ⟨v, hv⟩ := Option.isSome_iff_exists.mp hv
      obtain ⟨x, hx, ex, rfl⟩ := nVal_mem hv
      obtain ⟨r', b', f', h1, h2, e3, rp⟩ := s2.sp x hx
      obtain ⟨rfl, rfl, rfl⟩ := kS_inj (ex.symm.trans e3)
      obtain ⟨p, dx, hob, _⟩ := s2.ob
      obtain ⟨a0, e0, ea, _⟩ := t2.me 0 _ rfl
      obtain rfl : a0 = sp := ea
      obtain ⟨v4, e4, r4⟩ := t2.sl 4 _ rfl
      refine ts_cons (ps_ret (pe_nget hu (pe_fld (pv 0) rfl) (pv 4) (by intro _ _; rfl))) ?_
      refine ⟨_, e0, a0, CS K, dx, _, _, rfl, hob, cl_Spread T, na_Spread_my_spans T, rfl, _, e4, d0, kvs, kS r bands f, x.2.2, rfl, ⟨G, t2.up, .inl s2.di, s2.ks, isKey_kS _ _ _, depth_kS _ _ _, r4, ?_⟩, hv, ?_⟩
      · cases r4 with
        | tup _ _ => exact ⟨_, rfl⟩
      · exact ft.rt _ _ _ σ G H2 rfl rfl t2 e2 rp
    obtain ⟨a0, e0, ea, d0, kvs, s2⟩ := t.me 0 _ rfl
    obtain rfl : a0 = sp := ea
    obtain ⟨p, dx, hob, rp⟩ := s2.ob
    obtain ⟨v4, e4, r4⟩ := t.sl 4 (kS r bands f) rfl
    obtain ⟨kb, rfl⟩ : ∃ kb, v4 = .ref kb := by
      cases r4 with
      | tup _ _ => exact ⟨_, rfl⟩
    refine ts_cons (ps_if (pt_cmp (pc_nnotin hu (pv 4) (pe_fld (pv 0) rfl))) (pss_cons (ps_nput hu (pe_fld (pv 0) rfl) (pv 4) pe_of rfl) pss_nil) pss_nil) ?_
    refine ⟨_, e4, _, e0, a0, CS K, dx, _, _, rfl, hob, cl_Spread T, na_Spread_my_spans T, rfl, d0, kvs, kS r bands f, rfl, ⟨H0, t.up, .inl s2.di, s2.ks, isKey_kS _ _ _, depth_kS _ _ _, r4, kb, rfl⟩, _, rfl, ?_⟩
    cases ev : nVal kvs (keyOf (kS r bands f)) with
    | some v => exact fin H0 H1 d0 kvs t (Same.refl _) s2 (by rw [ev]; rfl)
    | none =>
      rw [if_pos (show (!(none : Option V).isSome) = true from rfl)]
      refine (call (c_span T) hr (da_cons (myhold T) (da_cons (nm 1) (da_cons (nm 2) (da_one (nm 3))))) ⟨h, r, bands, f, wf, hl, hb, hf, rfl, rfl⟩) A1 B σ H0 H1 _ t fun v G H2 st rv => ?_
      have s3 := s2.step st
      refine ⟨_, e0, a0, CS K, dx, _, _, rfl, st.s3 _ _ hob, cl_Spread T, na_Spread_my_spans T, rfl, _, e4, d0, kvs, kS r bands f, kb, rfl, rfl, ⟨G, st.s2, .inl s3.di, s3.ks, isKey_kS _ _ _, depth_kS _ _ _, r4.mono st.s1, kb, rfl⟩, s3.di, small1000 (by have := s3.few wf; omega), ?_⟩
      rw [nPut_new ev]
      have nsp : a0 ≠ d0 := ne_of hob s2.di (fun z => nomatch z)
      have s4 : SprAt K P w h B G (upd H2 d0 (dN P w d0 (kvs ++ [(keyOf (kS r bands f), kb, v)]))) a0 d0 (kvs ++ [(keyOf (kS r bands f), kb, v)]) := {
        ob := let ⟨p', dx', x1, x2⟩ := s3.ob; ⟨p', dx', by rw [upd_ne nsp]; exact x1, x2⟩
        di := upd_same
        ks := fun x hx => by
          rcases List.mem_append.mp hx with y | y
          · exact s3.ks x y
          · obtain rfl := List.mem_singleton.mp y
            exact ⟨kS r bands f, rfl, isKey_kS _ _ _, depth_kS _ _ _, r4.mono st.s1⟩
        sp := fun x hx => by
          rcases List.mem_append.mp hx with y | y
          · exact s3.sp x y
          · obtain rfl := List.mem_singleton.mp y
            exact ⟨r, bands, f, hl, hb, rfl, rv⟩
        hd := s3.hd
        bd := s3.bd
        nd := by
          rw [List.map_append]
          refine List.nodup_append.mpr ⟨s3.nd, by simp, fun x hx y hy => ?_⟩
          have hy2 : y = keyOf (kS r bands f) := by simpa using hy
          rw [hy2]
          exact fun z => nVal_none ev (z ▸ hx) }
      refine fin G _ d0 _ ?_ st.s1 s4 (by rw [nVal_app ev]; rfl)
      exact At.kept (v0 := none) (t.step st) rfl s3 e0 (Same.refl _) (fun x o q => by rw [upd_ne (ne_of_none q s3.hd)]; exact st.s2 x o q) (fun x o n q => by rw [upd_ne n]; exact q) (fun x o q => .inl q) ⟨d0, _, s4⟩ s3.hd
def eOpt {α : Type} (f : α → D) : Option α → D
  | none => .non
  | some a => f a
def eBB (l : List (List Nat)) : D := .lst (l.map eN)
def S_bands_by (h : HoldM) (ds : List D) (d : D) : Prop := WF h ∧ ∃ (bands : List Nat) (fires : Nat), BandsOk h bands ∧ (∀ r, r < h.many → fires.testBit r = true → (h.st r).isSome = true) ∧ ds = [eN bands, nI fires] ∧ d = eOpt eBB (bandsByQ h bands fires)
theorem c_bands_by (T : Prg K mg) : Met P w K mg base 9 (CS K) "bands_by" ["self", "bands", "fires"] [] (spM K P w S_bands_by) := by
  obtain ⟨fd, F⟩ := F_Spread_bands_by T
  refine mkMM F (m_Spread_bands_by T) sc_Spread_bands_by (fun _ _ _ _ _ _ us hl => match us, hl with | [_, _, _], _ => rfl) (fun h ds d hs => ?_) fun cdv A outer s H E h sp ds d hr hs => ?_
  · obtain ⟨_, bands, fires, _, _, rfl, rfl⟩ := hs
    rfl
  · obtain ⟨wf, bands, fires, hb, hf, rfl, rfl⟩ := hs
    have nd := sc_Spread_bands_by.nd
    have hu := hr.units
    have fw := wf.few
    refine asg 3 nd (do_lst (da_one (de_tup da_nil))).see ?_
    refine forR 4 nd (b_range T) (de_meth0 (myhold T) (cl_Hold T) (c_many T) (hr.mono (by decide)) rfl ⟨h, rfl, rfl⟩) (small_many wf) (fun i ρ' => ∃ found, partQ h bands fires i = some found ∧ ρ' = [some (.mem (spr K P w h sp)), some (.val (eN bands)), some (.val (nI fires)), some (.val (eBB found)), none, none, none, none, none]) ⟨[[]], rfl, rfl⟩ ?_ ?_
    · rintro r ρ' hr' ⟨found, hp, rfl⟩
      have hl : r < h.many := by omega
      have pk := part_ok wf (show r ≤ h.many by omega) hp
      have pn := part_next h bands fires r
      rw [hp] at pn
      have hf6 : found.length ≤ 6 := by
        have h1 := pk.few
        have h2 : 6 ^ r ≤ 6 ^ 1 := Nat.pow_le_pow_right (by decide) (by omega)
        omega
      refine asgM 5 nd (dm_call T (c_span_by T) hr (da_cons (nm 4) (da_cons (nm 1) (da_one (call (c_has_room T) (hr.mono (by decide)) (da_cons (nm 2) (da_one (nm 4))) ⟨fires, r, rfl, rfl⟩)))) ⟨wf, r, bands, fires.testBit r, hl, hb, hf r hl, rfl, rfl⟩) ?_
      have sm := span_sm wf hl bands (fires.testBit r)
      have i0 : ∀ {X : Cx} {ρ : Rho} {e : Expr} {pos p : Pos} {j : Nat}, DE X ρ e (eSp h r bands (fires.testBit r)) → PlainIx (.Constant (.int 0) j p) → DE X ρ (.Subscript e (.Constant (.int 0) j p) pos) (eQ (spanQ h r bands (fires.testBit r)).1) := fun a hs => de_ixT a de_int rfl hs
      have i1 : ∀ {X : Cx} {ρ : Rho} {e : Expr} {pos p : Pos} {j : Nat}, DE X ρ e (eSp h r bands (fires.testBit r)) → PlainIx (.Constant (.int 1) j p) → DE X ρ (.Subscript e (.Constant (.int 1) j p) pos) (eQ (spanQ h r bands (fires.testBit r)).2) := fun a hs => de_ixT a de_int rfl hs
      refine ds_if (dt_not (dt_val (call (c_within T) (hr.mono (by decide)) (da_cons (myhold T) (da_cons (nm 4) (da_cons (i0 (nm 5) (by intro _ _; rfl)) (da_one (i1 (nm 5) (by intro _ _; rfl)))))) ⟨h, r, _, _, wf, hl, sm.1, sm.2, rfl, rfl⟩))) (fun hw => ?_) fun hw => ds_nil ?_
      · refine ds_ret de_non ?_ rfl
        have hw2 : wthQ h r bands (fires.testBit r) = false := by simpa [wthQ] using hw
        have e1 : partQ h bands fires (r + 1) = none := by
          rw [pn]
          show (if wthQ h r bands (fires.testBit r) = true then _ else none) = none
          rw [hw2]
          rfl
        have e2 := part_none h bands fires e1 h.many (by omega)
        show D.non = eOpt eBB (partQ h bands fires h.many)
        rw [e2]
        rfl
      · have hw2 : wthQ h r bands (fires.testBit r) = true := by simpa [wthQ] using hw
        have tl := tch_len wf hl bands (fires.testBit r)
        have e1 : partQ h bands fires (r + 1) = some (wideQ (tchQ h r bands (fires.testBit r)) found) := by
          rw [pn]
          show (if wthQ h r bands (fires.testBit r) = true then _ else none) = _
          rw [hw2]
          rfl
        refine own 6 nd (do_lst da_nil) ?_
        refine forL found eN 7 nd (nm 3) (fun i ρ' => ρ' = [some (.mem (spr K P w h sp)), some (.val (eN bands)), some (.val (nI fires)), some (.val (eBB found)), some (.val (nI r)), some (.val (eSp h r bands (fires.testBit r))), some (.own ((wideQ (tchQ h r bands (fires.testBit r)) (found.take i)).map eN)), none, none]) rfl ?_ ?_
        · rintro i one ρ' hi rfl
          have hol := pk.len one (List.mem_of_getElem? hi)
          have wl := wide_take_len tl found i
          refine ext 6 (es := ((tchQ h r bands (fires.testBit r)).map fun b => one ++ [b]).map eN) (de_is (lc 8 nd (tchQ h r bands (fires.testBit r)) nI (call (c_touched T) (hr.mono (by decide)) (da_cons (myhold T) (da_cons (nm 4) (da_cons (i0 (nm 5) (by intro _ _; rfl)) (da_one (i1 (nm 5) (by intro _ _; rfl)))))) ⟨h, r, _, _, wf, hl, sm.1, sm.2, rfl, rfl⟩) (fun _ => true) (fun b => eN (one ++ [b])) (fun b hb' s0 H0 C cl fp => ⟨dq_nil, fun _ => ?_⟩) (small1000 (by omega)) (blkOk_by (N := n_Spread_bands_by) (sc := defScope s_Spread_bands_by) (by decide +kernel))).see ?_) ?_ ?_
          · refine de_is (de_catT (as := one.map nI) (nm 7) (de_tup (da_one (nm 8))) ?_) ?_
            · rw [List.length_map]
              exact Nat.le_of_lt (small1000 (show one.length + 1 ≤ 1000 by omega))
            · show D.tup _ = D.tup _
              rw [List.map_append]
              rfl
          · rw [filt, List.map_map]
            rfl
          · rw [List.length_map, List.length_map, List.length_map]
            exact Nat.le_of_lt (small1000 (by omega))
          · refine fgt 7 (ds_nil ?_)
            rw [take_next hi]
            have e7 : ((wideQ (tchQ h r bands (fires.testBit r)) (found.take i ++ [one])).map eN) = ((wideQ (tchQ h r bands (fires.testBit r)) (found.take i)).map eN) ++ (((tchQ h r bands (fires.testBit r)).map fun b => one ++ [b]).map eN) := by
              rw [wideQ, List.flatMap_append, List.map_append]
              simp only [List.flatMap_cons, List.flatMap_nil, List.append_nil]
              rfl
            rw [e7]
            rfl
        · rintro ρ' rfl
          rw [List.take_length]
          refine ds_move (i := 6) 3 rfl (by decide) ?_ nd rfl rfl (Or.inl rfl) (Or.inl rfl)
          refine frz 3 (fgt 4 (fgt 5 (ds_nil ⟨_, e1, rfl⟩)))
    · rintro ρ' ⟨found, hp, rfl⟩
      refine ds_ret (nm 3) ?_ rfl
      rw [Int.toNat_natCast] at hp
      show eBB found = eOpt eBB (partQ h bands fires h.many)
      rw [hp]
      rfl
end
end SK
set_option maxRecDepth 100000
set_option maxHeartbeats 4000000
namespace SK
open PySem L2 PyProof.Rows
theorem Valid.bands {h : HoldM} {s : SM} (v : Valid h s) : BandsOk h s.bands := ⟨v.bl, fun r hr => (v.fit r hr).1⟩
theorem led_next {h : HoldM} {s : SM} {o u : Nat} {l : List Nat} {i : Nat} (hi : l[i]? = some u) : (l.take (i + 1)).foldl (ledStep h s o) (some []) = ledStep h s o ((l.take i).foldl (ledStep h s o) (some [])) u := by
  rw [take_next hi, List.foldl_append]
  rfl
theorem fires_stove {h : HoldM} (w : WF h) {s : SM} {o u : Nat} (t : Tn h s o u) : ∀ r, r < h.many → (firesQ o u).testBit r = true → (h.st r).isSome = true := fun r hr hb => by
  have o16 := lt16 w t.o4
  have := t.le
  have := w.few
  exact t.stove r hr (fires_sub o o16 u (by omega) r (by omega) hb)
section
variable {P : Program} {w : World} {K : PySem.W.Frag} {mg : Str → Option Value} {base : Heap}
def eSS (l : List SM) : D := .lst (l.map eS)
def S_led (h : HoldM) (ds : List D) (d : D) : Prop := WF h ∧ ∃ (s : SM) (o : Nat), Valid h s ∧ o ∈ ordersQ h s ∧ ds = [eS s, nI o] ∧ d = eOpt eSS (ledQ h s o)
theorem c_led (T : Prg K mg) : Met P w K mg base 10 (CS K) "led" ["self", "state", "order"] [] (spM K P w S_led) := by
  obtain ⟨fd, F⟩ := F_Spread_led T
  refine mkMM F (m_Spread_led T) sc_Spread_led (fun _ _ _ _ _ _ us hl => match us, hl with | [_, _, _], _ => rfl) (fun h ds d hs => ?_) fun cdv A outer s H E h sp ds d hr hs => ?_
  · obtain ⟨_, bands, fires, _, _, rfl, rfl⟩ := hs
    rfl
  · obtain ⟨wf, s, o, v, ho, rfl, rfl⟩ := hs
    have nd := sc_Spread_led.nd
    have hu := hr.units
    have ml := may_lt wf v ho
    have sl := subs_len _ ml
    refine own 3 nd (do_lst da_nil) ?_
    refine forL (subsets (mayQ h s o)) nI 4 nd (call (c_subsets T) (hr.mono (by decide)) (da_one (call (c_may T) (hr.mono (by decide)) (da_cons (myhold T) (da_cons (nm 1) (da_one (nm 2)))) ⟨h, s, o, wf, v, ho, rfl, rfl⟩)) ⟨_, ml, rfl, rfl⟩)
      (fun i ρ' => ∃ found, ((subsets (mayQ h s o)).take i).foldl (ledStep h s o) (some []) = some found ∧ ρ' = [some (.mem (spr K P w h sp)), some (.val (eS s)), some (.val (nI o)), some (.own (found.map eS)), none, none, none, none]) ⟨[], rfl, rfl⟩ ?_ ?_
    · rintro i u ρ' hi ⟨found, hp, rfl⟩
      have hlen : i < (subsets (mayQ h s o)).length := (List.getElem?_eq_some_iff.mp hi).1
      have fl := led_len wf _ i hp
      have t := Tn.of wf v ho (List.mem_of_getElem? hi)
      have nx := led_next (h := h) (s := s) (o := o) hi
      rw [hp] at nx
      refine asgM 5 nd (dm_call T (c_bands_by T) hr (da_cons (sb (nm 1)) (da_one (call (c_fires T) (hr.mono (by decide)) (da_cons (nm 2) (da_one (nm 4))) ⟨o, u, rfl, rfl⟩))) ⟨wf, s.bands, firesQ o u, v.bands, fires_stove wf t, rfl, rfl⟩) ?_
      cases q : bandsByQ h s.bands (firesQ o u) with
      | none =>
        have nx2 : ((subsets (mayQ h s o)).take (i + 1)).foldl (ledStep h s o) (some []) = none := by
          rw [nx]
          show (match bandsByQ h s.bands (firesQ o u) with
            | none => none
            | some sp => some (found ++ sp.map (behindQ h s o u))) = none
          rw [q]
        refine ds_take (dt_isN (nm 5) de_non) rfl (ds_ret de_non ?_ rfl)
        show D.non = eOpt eSS (ledQ h s o)
        unfold ledQ
        rw [led_stop nx2]
        rfl
      | some spread =>
        have nx2 : ((subsets (mayQ h s o)).take (i + 1)).foldl (ledStep h s o) (some []) = some (found ++ spread.map (behindQ h s o u)) := by
          rw [nx]
          show (match bandsByQ h s.bands (firesQ o u) with
            | none => none
            | some sp => some (found ++ sp.map (behindQ h s o u))) = _
          rw [q]
        have bl := bands_len wf q
        refine ds_skip (dt_isN (nm 5) de_non) rfl ?_
        refine asg 6 nd (call (c_behind T) (hr.mono (by decide)) (da_cons (myhold T) (da_cons (nm 1) (da_cons (nm 2) (da_one (nm 4))))) ⟨h, s, o, u, wf, v, t, rfl, rfl⟩) ?_
        refine ext 3 (es := (spread.map (behindQ h s o u)).map eS) (de_is (lc 7 nd spread eN (nm 5) (fun _ => true) (fun b => eS (behindQ h s o u b)) (fun b hb' s0 H0 C cl fp => ⟨dq_nil, fun _ => ?_⟩) (small1000 (by omega)) (blkOk_by (N := n_Spread_led) (sc := defScope s_Spread_led) (by decide +kernel))).see ?_) ?_ ?_
        · refine de_is (de_catT (as := [eN b]) (de_tup (da_one (nm 7))) (nm 6) ?_) rfl
          exact Nat.le_of_lt (small1000 (show 5 ≤ 1000 by decide))
        · rw [filt, List.map_map]
          rfl
        · rw [List.length_map, List.length_map, List.length_map]
          exact Nat.le_of_lt (small1000 (by omega))
        · refine fgt 5 (fgt 6 (fgt 4 (ds_nil ⟨_, nx2, ?_⟩)))
          rw [List.map_append]
          rfl
    · rintro ρ' ⟨found, hp, rfl⟩
      rw [List.take_length] at hp
      refine frz 3 (ds_ret (nm 3) ?_ rfl)
      show eSS found = eOpt eSS (ledQ h s o)
      unfold ledQ
      rw [hp]
      rfl
end
end SK
set_option maxRecDepth 100000
set_option maxHeartbeats 4000000
/-! A hold under construction: objects that a def owns and no one else sees. -/
namespace SK
open PySem L2 PyProof.Rows
def OwnL (B H H1 : Hp) (L : List (Addr × HO)) : Prop := (L.map (·.1)).Nodup ∧ ∀ x ∈ L, H1 x.1 = some x.2 ∧ H x.1 = none ∧ B x.1 = none
section
variable {B H H1 G H2 : Hp} {L : List (Addr × HO)} {i : Nat} {p : Addr} {o o' : HO}
theorem OwnL.step (w : OwnL B H H1 L) (s : Step H H1 G H2) : OwnL B G H2 L := ⟨w.1, fun x hx => by
  obtain ⟨h1, h2, h3⟩ := w.2 x hx
  refine ⟨s.s3 _ _ h1, ?_, h3⟩
  cases q : G x.1 with
  | none => rfl
  | some o =>
    rcases s.nw _ _ q with z | z
    · rw [h2] at z; cases z
    · rw [h1] at z; cases z⟩
theorem OwnL.at_ (w : OwnL B H H1 L) (h : L[i]? = some (p, o)) : H1 p = some o ∧ H p = none ∧ B p = none := w.2 _ (List.mem_of_getElem? h)
theorem OwnL.put (w : OwnL B H H1 L) (h : L[i]? = some (p, o)) : OwnL B H (upd H1 p o') (L.set i (p, o')) := by
  have hl : i < L.length := (List.getElem?_eq_some_iff.mp h).1
  have e1 : (L.set i (p, o')).map (·.1) = L.map (·.1) := by
    rw [List.map_set]
    refine set_self ?_
    rw [List.getElem?_map, h]
    rfl
  refine ⟨by rw [e1]; exact w.1, fun x hx => ?_⟩
  obtain ⟨j, hj⟩ := List.mem_iff_getElem?.mp hx
  rw [List.getElem?_set] at hj
  by_cases q : i = j
  · rw [if_pos q] at hj
    rw [if_pos hl] at hj
    cases hj
    exact ⟨upd_same, (w.at_ h).2⟩
  · rw [if_neg q] at hj
    obtain ⟨a1, a2⟩ := w.2 x (List.mem_of_getElem? hj)
    refine ⟨?_, a2⟩
    rw [upd_ne ?_]
    · exact a1
    · intro z
      have e3 : (L.map (·.1))[i]? = some p := by rw [List.getElem?_map, h]; rfl
      have e4 : (L.map (·.1))[j]? = some p := by rw [List.getElem?_map, hj, ← z]; rfl
      have hl1 : i < (L.map (·.1)).length := by rw [List.length_map]; exact hl
      have hl2 : j < (L.map (·.1)).length := (List.getElem?_eq_some_iff.mp e4).1
      exact q ((List.getElem?_inj hl1 w.1).mp (e3.trans e4.symm))
theorem OwnL.new (w : OwnL B H H1 L) (e : Same H H1) (eb : Same B H1) (h : H1 p = none) : OwnL B H (upd H1 p o) (L ++ [(p, o)]) := by
  have hp : ∀ x ∈ L, x.1 ≠ p := fun x hx z => by
    have := (w.2 x hx).1
    rw [z, h] at this
    cases this
  refine ⟨?_, fun x hx => ?_⟩
  · rw [List.map_append]
    refine List.nodup_append.mpr ⟨w.1, by simp, fun x hx y hy => ?_⟩
    obtain ⟨z, hz, rfl⟩ := List.mem_map.mp hx
    have : y = p := by simpa using hy
    rw [this]
    exact hp z hz
  · rcases List.mem_append.mp hx with y | y
    · obtain ⟨a1, a2⟩ := w.2 x y
      exact ⟨by rw [upd_ne (hp x y)]; exact a1, a2⟩
    · obtain rfl := List.mem_singleton.mp y
      exact ⟨upd_same, e.free h, eb.free h⟩
/-- the owned things are seen, too -/
def ovl (L : List (Addr × HO)) (H : Hp) : Hp := fun x => match L.find? (fun y => y.1 == x) with
  | some y => some y.2
  | none => H x
theorem ovl_in (w : OwnL B H H1 L) {x : Addr × HO} (hx : x ∈ L) : ovl L H x.1 = some x.2 := by
  unfold ovl
  cases q : L.find? (fun y => y.1 == x.1) with
  | none =>
    rw [List.find?_eq_none] at q
    exact absurd (by simp) (q x hx)
  | some y =>
    have e1 : y.1 = x.1 := by simpa using List.find?_some q
    have hy := List.mem_of_find?_eq_some q
    have h1 := (w.2 x hx).1
    have h2 := (w.2 y hy).1
    rw [e1, h1] at h2
    exact h2.symm
theorem ovl_out {x : Addr} (h : ∀ y ∈ L, y.1 ≠ x) : ovl L H x = H x := by
  unfold ovl
  cases q : L.find? (fun y => y.1 == x) with
  | none => rfl
  | some y =>
    have e1 : y.1 = x := by simpa using List.find?_some q
    exact absurd e1 (h y (List.mem_of_find?_eq_some q))
theorem ovl_same (w : OwnL B H H1 L) : Same H (ovl L H) := fun x o q => by
  rw [ovl_out]
  · exact q
  · intro y hy z
    have := (w.2 y hy).2.1
    rw [z, q] at this
    cases this
theorem ovl_up (w : OwnL B H H1 L) (e : Same H H1) : Same (ovl L H) H1 := fun x o q => by
  by_cases h : ∃ y ∈ L, y.1 = x
  · obtain ⟨y, hy, rfl⟩ := h
    rw [ovl_in w hy] at q
    cases q
    exact (w.2 y hy).1
  · rw [ovl_out fun y hy z => h ⟨y, hy, z⟩] at q
    exact e x o q
theorem ovl_nw (w : OwnL B H H1 L) {x : Addr} {o : HO} (q : ovl L H x = some o) : H x = some o ∨ B x = none := by
  by_cases h : ∃ y ∈ L, y.1 = x
  · obtain ⟨y, hy, rfl⟩ := h
    exact .inr (w.2 y hy).2.2
  · rw [ovl_out fun y hy z => h ⟨y, hy, z⟩] at q
    exact .inl q
/-- and unseen again -/
def cut (L : List (Addr × HO)) (G : Hp) : Hp := fun x => match L.find? (fun y => y.1 == x) with
  | some _ => none
  | none => G x
theorem cut_in {x : Addr × HO} (hx : x ∈ L) : cut L G x.1 = none := by
  unfold cut
  cases q : L.find? (fun y => y.1 == x.1) with
  | none =>
    rw [List.find?_eq_none] at q
    exact absurd (by simp) (q x hx)
  | some y => rfl
theorem cut_out {x : Addr} (h : ∀ y ∈ L, y.1 ≠ x) : cut L G x = G x := by
  unfold cut
  cases q : L.find? (fun y => y.1 == x) with
  | none => rfl
  | some y =>
    have e1 : y.1 = x := by simpa using List.find?_some q
    exact absurd e1 (h y (List.mem_of_find?_eq_some q))
theorem cut_le {x : Addr} {o : HO} (q : cut L G x = some o) : G x = some o ∧ ∀ y ∈ L, y.1 ≠ x := by
  have h : ∀ y ∈ L, y.1 ≠ x := fun y hy z => by
    rw [← z, cut_in hy] at q
    cases q
  rw [cut_out h] at q
  exact ⟨q, h⟩
theorem cut_step (w : OwnL B H H1 L) (e : Same H H1) (s : Step (ovl L H) H1 G H2) : Step H H1 (cut L G) H2 where
  s1 := fun x o q => by
    have n : ∀ y ∈ L, y.1 ≠ x := fun y hy z => by
      have := (w.2 y hy).2.1
      rw [z, q] at this
      cases this
    rw [cut_out n]
    exact s.s1 x o (by rw [ovl_out n]; exact q)
  s2 := fun x o q => s.s2 x o (cut_le q).1
  s3 := s.s3
  nw := fun x o q => by
    obtain ⟨q1, n⟩ := cut_le q
    rcases s.nw x o q1 with z | z
    · rw [ovl_out n] at z
      exact .inl z
    · exact .inr z
end
/-! flat data: no list, no object in it -/
mutual
def flat : D → Bool
  | .non => true
  | .bl _ => true
  | .int _ => true
  | .tup ds => flats ds
  | .adr _ => true
  | _ => false
def flats : List D → Bool
  | [] => true
  | d :: ds => flat d && flats ds
end
mutual
theorem Rep.flat {K : PySem.W.Frag} {G G' : Hp} (e : ∀ p vs, SqT K G p vs → SqT K G' p vs) : ∀ {d : D} {v : V}, flat d = true → Rep K G d v → Rep K G' d v
  | _, _, _, .non => .non
  | _, _, _, .bl => .bl
  | _, _, _, .int => .int
  | _, _, f, .tup h r => .tup (e _ _ h) (Reps.flat e f r)
  | _, _, f, .lst h r => by cases f
  | _, _, f, .seq h r => by cases f
  | _, _, f, .ins h r => by cases f
  | _, _, _, .adr => .adr
theorem Reps.flat {K : PySem.W.Frag} {G G' : Hp} (e : ∀ p vs, SqT K G p vs → SqT K G' p vs) : ∀ {d : List D} {v : List V}, flats d = true → Reps K G d v → Reps K G' d v
  | _, _, _, .nil => .nil
  | _, _, f, .cons h r => by
    have f2 := Bool.and_eq_true_iff.mp (show (SK.flat _ && flats _) = true from f)
    exact .cons (Rep.flat e f2.1 h) (Reps.flat e f2.2 r)
end
/-- neither a tuple nor known -/
def plainO : HO → Bool
  | .lst _ => true
  | .ins _ _ _ => true
  | .ext _ => true
  | _ => false
theorem cut_tup {K : PySem.W.Frag} {B H H1 G H2 : Hp} {L : List (Addr × HO)} (w : OwnL B H H1 L) (hp : ∀ x ∈ L, plainO x.2 = true) (s3 : Same H1 H2) (s2 : Same G H2) {p : Addr} {vs : List V} (h : SqT K G p vs) : SqT K (cut L G) p vs := by
  rcases h with h | h
  · refine .inl ?_
    have key : ∀ o, G p = some o → plainO o = false → cut L G p = some o := fun o q n => by
      rw [cut_out]
      · exact q
      · intro y hy z
        have h1 := s3 _ _ (w.2 y hy).1
        rw [z, s2 _ _ q] at h1
        cases h1
        have := hp y hy
        rw [n] at this
        cases this
    rcases h with h | ⟨o, h⟩
    · exact .inl (key _ h rfl)
    · exact .inr ⟨o, key _ h rfl⟩
  · exact .inr h
theorem flats_map {α : Type} {f : α → D} (h : ∀ a, flat (f a) = true) : ∀ l : List α, flats (l.map f) = true
  | [] => rfl
  | a :: l => by
    show (flat (f a) && flats (l.map f)) = true
    rw [h, flats_map h l]
    rfl

/-! ### the hold under construction -/
def LH (K : PySem.W.Frag) (h : HoldM) (a dx mm mf ms mt : Addr) (vm : List V) (rs : List (Addr × List V)) (vs vt : List V) : List (Addr × HO) :=
  (a, .ins (CH K) dx [("most", .int h.most), ("cap", .int h.cap), ("load", .int h.load), ("my_marks", .ref mm), ("my_flows", .ref mf), ("my_skies", .ref ms), ("my_stoves", .ref mt)]) ::
  (mm, .lst vm) :: (mf, .lst (rs.map fun x => .ref x.1)) :: (ms, .lst vs) :: (mt, .lst vt) :: rs.map fun x => (x.1, .lst x.2)
def RowsOk (K : PySem.W.Frag) (H : Hp) (rs : List (Addr × List V)) (fl : List (List Q)) : Prop := rs.length = fl.length ∧ ∀ (i : Nat) (row : List Q), fl[i]? = some row → ∃ x : Addr × List V, rs[i]? = some x ∧ Reps K H (row.map eQ) x.2
structure HAt (K : PySem.W.Frag) (h : HoldM) (B H H1 : Hp) (a dx mm mf ms mt : Addr) (vm : List V) (rs : List (Addr × List V)) (vs vt : List V) : Prop where
  ow : OwnL B H H1 (LH K h a dx mm mf ms mt vm rs vs vt)
  rm : Reps K H (h.marks.map eQs) vm
  rr : RowsOk K H rs h.flows
  rk : Reps K H (h.skies.map eSky) vs
  rt : Reps K H (h.stoves.map eStv) vt
section
variable {K : PySem.W.Frag} {h : HoldM} {B H H1 G H2 : Hp} {a dx mm mf ms mt : Addr} {vm : List V} {rs : List (Addr × List V)} {vs vt : List V}
theorem HAt.step (w : HAt K h B H H1 a dx mm mf ms mt vm rs vs vt) (s : Step H H1 G H2) : HAt K h B G H2 a dx mm mf ms mt vm rs vs vt where
  ow := w.ow.step s
  rm := w.rm.mono s.s1
  rr := ⟨w.rr.1, fun i row hi => let ⟨x, e, r⟩ := w.rr.2 i row hi; ⟨x, e, r.mono s.s1⟩⟩
  rk := w.rk.mono s.s1
  rt := w.rt.mono s.s1
theorem LH_plain : ∀ x ∈ LH K h a dx mm mf ms mt vm rs vs vt, plainO x.2 = true := fun x hx => by
  unfold LH at hx
  simp only [List.mem_cons, List.mem_map] at hx
  rcases hx with rfl | rfl | rfl | rfl | rfl | ⟨y, _, rfl⟩ <;> rfl
theorem rows_see {H G : Hp} {rs : List (Addr × List V)} {fl : List (List Q)} (r : RowsOk K H rs fl) (e : Same H G) (g : ∀ x ∈ rs, G x.1 = some (.lst x.2)) : Reps K G (fl.map eQs) (rs.map fun x => .ref x.1) := by
  induction fl generalizing rs with
  | nil =>
    have : rs = [] := List.length_eq_zero_iff.mp r.1
    subst this
    exact .nil
  | cons row fl ih =>
    cases rs with
    | nil => have := r.1; simp at this
    | cons x rs =>
      refine .cons ?_ (ih ⟨by have := r.1; simpa using this, fun i row hi => r.2 (i + 1) row hi⟩ fun y hy => g y (List.mem_cons_of_mem _ hy))
      obtain ⟨x', e1, e2⟩ := r.2 0 row rfl
      cases e1
      exact .lst (g x (List.mem_cons_self ..)) (e2.mono e)
/-- the hold as a value -/
theorem HAt.rep (w : HAt K h B H H1 a dx mm mf ms mt vm rs vs vt) : Rep K (ovl (LH K h a dx mm mf ms mt vm rs vs vt) H) (eH K h) (.ref a) := by
  have sm := ovl_same w.ow
  have g : ∀ {x : Addr × HO}, x ∈ LH K h a dx mm mf ms mt vm rs vs vt → ovl (LH K h a dx mm mf ms mt vm rs vs vt) H x.1 = some x.2 := fun hx => ovl_in w.ow hx
  refine .ins (g (x := (a, _)) (List.mem_of_getElem? (i := 0) rfl)) ?_
  refine .cons .int (.cons .int (.cons .int (.cons ?_ (.cons ?_ (.cons ?_ (.cons ?_ .nil))))))
  · exact .lst (g (x := (mm, _)) (List.mem_of_getElem? (i := 1) rfl)) (w.rm.mono sm)
  · refine .lst (g (x := (mf, _)) (List.mem_of_getElem? (i := 2) rfl)) (rows_see w.rr sm fun x hx => ?_)
    exact g (x := (x.1, .lst x.2)) (List.mem_append_right [_, _, _, _, _] (List.mem_map.mpr ⟨x, hx, rfl⟩))
  · exact .lst (g (x := (ms, _)) (List.mem_of_getElem? (i := 3) rfl)) (w.rk.mono sm)
  · exact .lst (g (x := (mt, _)) (List.mem_of_getElem? (i := 4) rfl)) (w.rt.mono sm)
end
/-- the hold under construction, jealous -/
def hld (K : PySem.W.Frag) (h : HoldM) (a0 : Addr) : Memo where
  ok := fun B H H1 a => a = a0 ∧ ∃ dx mm mf ms mt vm rs vs vt, HAt K h B H H1 a0 dx mm mf ms mt vm rs vs vt
  step := fun ⟨e, dx, mm, mf, ms, mt, vm, rs, vs, vt, w⟩ t => ⟨e, dx, mm, mf, ms, mt, vm, rs, vs, vt, w.step t⟩
  jl := true
  put := fun z => by cases z
  see := fun z => by cases z
/-- just its address -/
def pinM (a : Addr) : Memo where
  ok := fun _ _ _ b => b = a
  step := fun e _ => e
  jl := false
  put := fun _ e _ => e
  see := fun _ e _ _ => e
section
variable {K : PySem.W.Frag} {A B A' B' H H1 G H2 : Hp} {ρ ρ' : Rho} {σ σ' : L2.St} {M M' : Memo} {a p : Addr} {o : HO} {d : D}
theorem At.jel (t : At K A B (some (.mem M) :: ρ) σ H H1) (j : M.jl = true) : noOwn ρ = true := by
  rcases t.jo with q | q
  · have : calmB (some (Bd.mem M)) = true := all_at q (i := 0) rfl
    rw [calmB, j] at this
    cases this
  · exact (Bool.and_eq_true_iff.mp (show (true && noOwn ρ) = true from q)).2
theorem tail_at {b : Option Bd} {i : Nat} {x : Option Bd} (h : ρ[i]? = some x) : (b :: ρ)[i + 1]? = some x := h
/-- slots but the first keep their say in another world -/
theorem At.swap (t : At K A B (some (.mem M) :: ρ) σ H H1) (hm : noMem ρ = true) (ho : noOwn ρ = true) (l : Lt A' B' G H2) (e : Same H G) (b : Bd) (hb : freeB_ (some b) = true)
    (h0 : match b with | .val d => ∃ v, σ[0]? = some (some v) ∧ Rep K G d v | .own _ => False | .mem M' => ∃ a, σ[0]? = some (some (.ref a)) ∧ M'.ok B' G H2 a) : At K A' B' (some b :: ρ) σ G H2 where
  toLt := l
  sl := fun i d hi => match i with
    | 0 => by cases hi; exact h0
    | i + 1 => let ⟨v, e1, r⟩ := t.sl (i + 1) d hi; ⟨v, e1, r.mono e⟩
  ow := fun i ds hi => match i with
    | 0 => by cases hi; exact h0.elim
    | i + 1 => by
      have := all_at (i := i) ho hi
      cases this
  me := fun i M' hi => match i with
    | 0 => by cases hi; exact h0
    | i + 1 => by
      have := all_at (i := i) hm hi
      cases this
  ne := fun i j ds ds' hij hi hj => match i, j with
    | 0, 0 => absurd rfl hij
    | 0, j + 1 => by
      have := all_at (i := j) ho hj
      cases this
    | i + 1, _ => by
      have := all_at (i := i) ho hi
      cases this
  jo := .inr (by
    show (freeB_ (some b) && noOwn ρ) = true
    rw [hb, ho]
    rfl)
  ln := t.ln
end
end SK
set_option maxRecDepth 100000
set_option maxHeartbeats 4000000
/-! What is said of a hold under construction. -/
namespace SK
open PySem L2 PyProof.Rows
section
variable {X : Cx} {ρ : Rho} {e : Expr} {d : D} {h h' : HoldM} {a : Addr} {st : List Stmt} {M : Fin} {pos p px apos : Pos} {x : Str} {mg : Str → Option Value}
theorem hld_see {K : PySem.W.Frag} {A B : Hp} {σ : L2.St} {H H1 : Hp} (t : At K A B (some (.mem (hld K h a)) :: ρ) σ H H1) (hm : noMem ρ = true) : ∃ L, OwnL B H H1 L ∧ (∀ x ∈ L, plainO x.2 = true) ∧ At K A B (some (.val (eH K h)) :: ρ) σ (ovl L H) H1 := by
  have ho := t.jel rfl
  obtain ⟨a', ea, rfl, dx, mm, mf, ms, mt, vm, rs, vs, vt, w⟩ := t.me 0 _ rfl
  exact ⟨_, w.ow, LH_plain, t.swap hm ho ⟨ovl_up w.ow t.up, t.an.trans (ovl_same w.ow), t.bn, fun x o q => (ovl_nw w.ow q).elim (t.nw x o) .inr⟩ (ovl_same w.ow) (.val (eH K h)) rfl ⟨_, ea, w.rep⟩⟩
/-- read as a value -/
theorem de_v (he : DE X (some (.val (eH X.K h)) :: ρ) e d) (hf : flat d = true := by rfl) (hm : noMem ρ = true := by rfl) : DE X (some (.mem (hld X.K h a)) :: ρ) e d := fun A B σ H H1 Q t k => by
  obtain ⟨L, w, hp, t2⟩ := hld_see t hm
  exact he A B σ _ H1 Q t2 fun v G H2 s r => k v (cut L G) H2 (cut_step w t.up s) (r.flat (fun p vs z => cut_tup w hp s.s3 s.s2 z) hf)
theorem dt_v {b : Bool} (he : DT X (some (.val (eH X.K h)) :: ρ) e b) (hm : noMem ρ = true := by rfl) : DT X (some (.mem (hld X.K h a)) :: ρ) e b := fun A B σ H H1 Q t k => by
  obtain ⟨L, w, hp, t2⟩ := hld_see t hm
  exact he A B σ _ H1 Q t2 fun G H2 s => k (cut L G) H2 (cut_step w t.up s)
theorem At.mut {K : PySem.W.Frag} {A B : Hp} {σ : L2.St} {H H1 : Hp} {Mm M' : Memo} {q : Addr} {o : HO} (t : At K A B (some (.mem Mm) :: ρ) σ H H1) (hm : noMem ρ = true) (j : Mm.jl = true) (e : σ[0]? = some (some (.ref a))) (h0 : H q = none) (hb : B q = none) (m : M'.ok B H (upd H1 q o) a) : At K A B (some (.mem M') :: ρ) σ H (upd H1 q o) :=
  t.swap hm (t.jel j) ⟨fun x u z => by rw [upd_ne (ne_of_none z h0)]; exact t.up x u z, t.an, fun x u z => by rw [upd_ne (ne_of_none z hb)]; exact t.bn x u z, t.nw⟩ (Same.refl _) (.mem M') rfl ⟨a, e, m⟩
/-- a list of the hold's takes one more -/
structure AppOk (K : PySem.W.Frag) (h h' : HoldM) (F : Str) (d : D) : Prop where
  ex : ∀ B H H1 a dx mm mf ms mt vm rs vs vt, HAt K h B H H1 a dx mm mf ms mt vm rs vs vt → ∃ fs p us, H1 a = some (.ins (CH K) dx fs) ∧ fs.lookup F = some (.ref p) ∧ H1 p = some (.lst us) ∧ H p = none ∧ B p = none ∧ us.length < sizeLine ∧
    ∀ G H2 v, Step H H1 G H2 → Rep K G d v → (hld K h' a).ok B G (upd H2 p (.lst (us ++ [v]))) a
theorem ds_appF {F : Str} (T : Prg X.K mg) (ok : AppOk X.K h h' F d) (na : NoAttr X.K (CH X.K) F) (he : DE X (some (.mem (hld X.K h a)) :: ρ) e d) (rest : DS X (some (.mem (hld X.K h' a)) :: ρ) st M) (hm : noMem ρ = true := by rfl) {fpos cpos : Pos} (hN : X.N[0]? = some x := by rfl)
    (hv : Vis X.env.scope x := by first | exact Or.inl rfl | exact Or.inr (Or.inl rfl) | exact Or.inr (Or.inr rfl))
    (hpe : PE X (.Call (.Attribute (.Attribute (.Name x px) F fpos) "append" apos) [e] [] cpos) (tBM X.K "list" rAppend (tFld X.K (tVar 0) F) (tCons (teOf X e) tNil)) := by exact pe_bm PySem.F.plainAttrs_list PySem.F.slot_list_append PySem.F.type_list_append mt_append (pe_fld (pv _) rfl) (pa_cons pe_of pa_nil))
    (hs : swapsWith (.Call (.Attribute (.Attribute (.Name x px) F fpos) "append" apos) [e] [] cpos) none pos.line X.env = pure false := by rfl) : DS X (some (.mem (hld X.K h a)) :: ρ) (.Expr (.Call (.Attribute (.Attribute (.Name x px) F fpos) "append" apos) [e] [] cpos) pos :: st) M := fun A B σ H H1 E t f => ts_cons (ps_expr hpe hs) (by
  obtain ⟨a', ea, rfl, dx, mm, mf, ms, mt, vm, rs, vs, vt, w⟩ := t.me 0 _ rfl
  obtain ⟨fs, p, us, h1, h2, h3, h4, h5, h6, h7⟩ := ok.ex _ _ _ _ _ _ _ _ _ _ _ _ _ w
  refine ⟨_, ea, _, CH X.K, dx, fs, _, rfl, h1, cl_Hold T, na, h2, .inl ⟨rfl, us, SqL.of h3⟩, he A B σ H H1 _ t fun v G H2 s r => ?_⟩
  refine ⟨p, us, v, rfl, rfl, s.s3 _ _ h3, h6, ?_⟩
  have t2 := t.step s
  have g0 : G p = none := by
    cases q : G p with
    | none => rfl
    | some o =>
      rcases s.nw _ _ q with z | z
      · rw [h4] at z; cases z
      · rw [h3] at z; cases z
  exact rest A B σ G _ E (t2.mut hm rfl ea g0 h5 (h7 G H2 v s r)) (f.mono s.s1))
end
section
variable {K : PySem.W.Frag} {h : HoldM}
theorem app_marks {q : List Q} (hl : h.marks.length < 1000) : AppOk K h { h with marks := h.marks ++ [q] } "my_marks" (eQs q) := ⟨fun B H H1 a dx mm mf ms mt vm rs vs vt w => by
  obtain ⟨g1, g2, g3⟩ := w.ow.at_ (i := 1) rfl
  refine ⟨_, mm, vm, (w.ow.at_ (i := 0) rfl).1, rfl, g1, g2, g3, ?_, fun G H2 v s r => ⟨rfl, dx, mm, mf, ms, mt, vm ++ [v], rs, vs, vt, ?_⟩⟩
  · rw [← w.rm.length, List.length_map]
    exact small1000 (by omega)
  · have w2 := w.step s
    exact ⟨w2.ow.put (i := 1) rfl, by rw [List.map_append]; exact w2.rm.snoc r, w2.rr, w2.rk, w2.rt⟩⟩
theorem app_skies {q : Q × Q × Q} (hl : h.skies.length < 1000) : AppOk K h { h with skies := h.skies ++ [q] } "my_skies" (eSky q) := ⟨fun B H H1 a dx mm mf ms mt vm rs vs vt w => by
  obtain ⟨g1, g2, g3⟩ := w.ow.at_ (i := 3) rfl
  refine ⟨_, ms, vs, (w.ow.at_ (i := 0) rfl).1, rfl, g1, g2, g3, ?_, fun G H2 v s r => ⟨rfl, dx, mm, mf, ms, mt, vm, rs, vs ++ [v], vt, ?_⟩⟩
  · rw [← w.rk.length, List.length_map]
    exact small1000 (by omega)
  · have w2 := w.step s
    exact ⟨w2.ow.put (i := 3) rfl, w2.rm, w2.rr, by rw [List.map_append]; exact w2.rk.snoc r, w2.rt⟩⟩
theorem app_stoves {q : Option Stv} (hl : h.stoves.length < 1000) : AppOk K h { h with stoves := h.stoves ++ [q] } "my_stoves" (eStv q) := ⟨fun B H H1 a dx mm mf ms mt vm rs vs vt w => by
  obtain ⟨g1, g2, g3⟩ := w.ow.at_ (i := 4) rfl
  refine ⟨_, mt, vt, (w.ow.at_ (i := 0) rfl).1, rfl, g1, g2, g3, ?_, fun G H2 v s r => ⟨rfl, dx, mm, mf, ms, mt, vm, rs, vs, vt ++ [v], ?_⟩⟩
  · rw [← w.rt.length, List.length_map]
    exact small1000 (by omega)
  · have w2 := w.step s
    exact ⟨w2.ow.put (i := 4) rfl, w2.rm, w2.rr, w2.rk, by rw [List.map_append]; exact w2.rt.snoc r⟩⟩
end
end SK
set_option maxRecDepth 100000
set_option maxHeartbeats 4000000
namespace SK
open PySem L2 PyProof.Rows
section
variable {K : PySem.W.Frag} {h : HoldM} {B H H1 G H2 : Hp} {a dx mm mf ms mt : Addr} {vm : List V} {rs : List (Addr × List V)} {vs vt : List V}
theorem fst_set {rs : List (Addr × List V)} {i : Nat} {x : Addr × List V} {us : List V} (hx : rs[i]? = some x) : (rs.set i (x.1, us)).map (fun x => V.ref x.1) = rs.map fun x => V.ref x.1 := by
  rw [List.map_set]
  refine set_self ?_
  rw [List.getElem?_map, hx]
  rfl
theorem LH_set {i : Nat} {x : Addr × List V} {us : List V} {fl : List (List Q)} (hx : rs[i]? = some x) : LH K { h with flows := fl } a dx mm mf ms mt vm (rs.set i (x.1, us)) vs vt = (LH K h a dx mm mf ms mt vm rs vs vt).set (5 + i) (x.1, .lst us) := by
  unfold LH
  rw [fst_set hx, Nat.add_comm]
  show _ = _ :: _ :: _ :: _ :: _ :: (rs.map fun x => (x.1, HO.lst x.2)).set i _
  rw [List.map_set]
theorem LH_at {i : Nat} {x : Addr × List V} (hx : rs[i]? = some x) : (LH K h a dx mm mf ms mt vm rs vs vt)[5 + i]? = some (x.1, .lst x.2) := by
  unfold LH
  rw [Nat.add_comm]
  show (rs.map fun x => (x.1, HO.lst x.2))[i]? = _
  rw [List.getElem?_map, hx]
  rfl
theorem HAt.row (w : HAt K h B H H1 a dx mm mf ms mt vm rs vs vt) {i : Nat} {x : Addr × List V} {us : List V} {row : List Q} (hx : rs[i]? = some x) (r : Reps K H (row.map eQ) us) : HAt K { h with flows := h.flows.set i row } B H (upd H1 x.1 (.lst us)) a dx mm mf ms mt vm (rs.set i (x.1, us)) vs vt where
  ow := by
    rw [LH_set hx]
    exact w.ow.put (LH_at hx)
  rm := w.rm
  rr := ⟨by rw [List.length_set, List.length_set]; exact w.rr.1, fun k row' hk => by
    have hk2 : (h.flows.set i row)[k]? = some row' := hk
    have hi : i < rs.length := (List.getElem?_eq_some_iff.mp hx).1
    rw [List.getElem?_set] at hk2
    by_cases q : i = k
    · rw [if_pos q] at hk2
      rw [if_pos (by rw [← w.rr.1]; exact hi)] at hk2
      cases hk2
      exact ⟨(x.1, us), by rw [List.getElem?_set, if_pos q, if_pos hi], r⟩
    · rw [if_neg q] at hk2
      obtain ⟨y, e1, e2⟩ := w.rr.2 k row' hk2
      exact ⟨y, by rw [List.getElem?_set, if_neg q]; exact e1, e2⟩⟩
  rk := w.rk
  rt := w.rt
theorem OwnL.more {L : List (Addr × HO)} {p : Addr} {o : HO} (w : OwnL B H H1 L) (n : ∀ x ∈ L, x.1 ≠ p) (h1 : H1 p = some o) (h0 : H p = none) (hb : B p = none) : OwnL B H H1 (L ++ [(p, o)]) := by
  refine ⟨?_, fun x hx => ?_⟩
  · rw [List.map_append]
    refine List.nodup_append.mpr ⟨w.1, by simp, fun x hx y hy => ?_⟩
    obtain ⟨z, hz, rfl⟩ := List.mem_map.mp hx
    have : y = p := by simpa using hy
    rw [this]
    exact n z hz
  · rcases List.mem_append.mp hx with y | y
    · exact w.2 x y
    · obtain rfl := List.mem_singleton.mp y
      exact ⟨h1, h0, hb⟩
theorem HAt.newrow (w : HAt K h B H H1 a dx mm mf ms mt vm rs vs vt) {p : Addr} {us : List V} {row : List Q} (n : ∀ x ∈ LH K h a dx mm mf ms mt vm rs vs vt, x.1 ≠ p) (h1 : H1 p = some (.lst us)) (h0 : H p = none) (hb : B p = none) (r : Reps K H (row.map eQ) us) :
    HAt K { h with flows := h.flows ++ [row] } B H (upd H1 mf (.lst (rs.map (fun x => V.ref x.1) ++ [.ref p]))) a dx mm mf ms mt vm (rs ++ [(p, us)]) vs vt where
  ow := by
    have e : LH K { h with flows := h.flows ++ [row] } a dx mm mf ms mt vm (rs ++ [(p, us)]) vs vt = (LH K h a dx mm mf ms mt vm rs vs vt ++ [(p, HO.lst us)]).set 2 (mf, HO.lst (rs.map (fun x => V.ref x.1) ++ [V.ref p])) := by
      unfold LH
      rw [List.map_append, List.map_append]
      rfl
    rw [e]
    exact (w.ow.more n h1 h0 hb).put (i := 2) rfl
  rm := w.rm
  rr := ⟨by rw [List.length_append, List.length_append, w.rr.1]; rfl, fun k row' hk => by
    have hk2 : (h.flows ++ [row])[k]? = some row' := hk
    rw [List.getElem?_append] at hk2
    by_cases q : k < h.flows.length
    · rw [if_pos q] at hk2
      obtain ⟨y, e1, e2⟩ := w.rr.2 k row' hk2
      exact ⟨y, by rw [List.getElem?_append_left (by rw [w.rr.1]; exact q)]; exact e1, e2⟩
    · rw [if_neg q] at hk2
      have hk3 : k - h.flows.length = 0 := by
        have := (List.getElem?_eq_some_iff.mp hk2).1
        simpa using this
      rw [hk3] at hk2
      cases hk2
      exact ⟨(p, us), by rw [List.getElem?_append_right (by rw [w.rr.1]; omega), w.rr.1, hk3]; rfl, r⟩⟩
  rk := w.rk
  rt := w.rt
end
theorem free_step {H H1 G H2 : Hp} {p : Addr} {o : HO} (s : Step H H1 G H2) (h0 : H p = none) (h1 : H1 p = some o) : G p = none := by
  cases q : G p with
  | none => rfl
  | some o =>
    rcases s.nw _ _ q with z | z
    · rw [h0] at z; cases z
    · rw [h1] at z; cases z
section
variable {X : Cx} {ρ : Rho} {e ix ix2 : Expr} {d : D} {h h' : HoldM} {a : Addr} {st body : List Stmt} {M : Fin} {pos p px py apos : Pos} {x y : Str} {mg : Str → Option Value}
/-- self.my_flows.append(a list of its own) -/
theorem ds_appRow {row : List Q} (T : Prg X.K mg) (hl : h.flows.length < 1000) (he : DO X (some (.mem (hld X.K h a)) :: ρ) e (row.map eQ)) (rest : DS X (some (.mem (hld X.K { h with flows := h.flows ++ [row] } a)) :: ρ) st M) (hm : noMem ρ = true := by rfl) {fpos cpos : Pos} (hN : X.N[0]? = some x := by rfl)
    (hv : Vis X.env.scope x := by first | exact Or.inl rfl | exact Or.inr (Or.inl rfl) | exact Or.inr (Or.inr rfl))
    (hpe : PE X (.Call (.Attribute (.Attribute (.Name x px) "my_flows" fpos) "append" apos) [e] [] cpos) (tBM X.K "list" rAppend (tFld X.K (tVar 0) "my_flows") (tCons (teOf X e) tNil)) := by exact pe_bm PySem.F.plainAttrs_list PySem.F.slot_list_append PySem.F.type_list_append mt_append (pe_fld (pv _) rfl) (pa_cons pe_of pa_nil))
    (hs : swapsWith (.Call (.Attribute (.Attribute (.Name x px) "my_flows" fpos) "append" apos) [e] [] cpos) none pos.line X.env = pure false := by rfl) : DS X (some (.mem (hld X.K h a)) :: ρ) (.Expr (.Call (.Attribute (.Attribute (.Name x px) "my_flows" fpos) "append" apos) [e] [] cpos) pos :: st) M := fun A B σ H H1 E t f => ts_cons (ps_expr hpe hs) (by
  obtain ⟨a', ea, rfl, dx, mm, mf, ms, mt, vm, rs, vs, vt, w⟩ := t.me 0 _ rfl
  obtain ⟨g1, g2, g3⟩ := w.ow.at_ (i := 2) rfl
  refine ⟨_, ea, _, CH X.K, dx, _, _, rfl, (w.ow.at_ (i := 0) rfl).1, cl_Hold T, na_Hold_my_flows T, rfl, .inl ⟨rfl, _, SqL.of g1⟩, he A B σ H H1 _ t fun q us G H2 s n g h2 r => ?_⟩
  refine ⟨mf, _, .ref q, rfl, rfl, s.s3 _ _ g1, by rw [List.length_map, w.rr.1]; exact small1000 (by omega), ?_⟩
  have w2 := w.step s
  have t2 := t.step s
  have nq : ∀ x ∈ LH X.K h a' dx mm mf ms mt vm rs vs vt, x.1 ≠ q := fun x hx z => by
    have := (w.ow.2 x hx).1
    rw [z, n] at this
    cases this
  exact rest A B σ G _ E (t2.mut hm rfl ea (w2.ow.at_ (i := 2) rfl).2.1 g3 ⟨rfl, dx, mm, mf, ms, mt, vm, _, vs, vt, w2.newrow nq h2 g (t.bn.free n) r⟩) (f.mono s.s1))
/-- self.F[ix] = e -/
structure SetOk (K : PySem.W.Frag) (h h' : HoldM) (F : Str) (j : Nat) (d : D) : Prop where
  ex : ∀ B H H1 a dx mm mf ms mt vm rs vs vt, HAt K h B H H1 a dx mm mf ms mt vm rs vs vt → ∃ fs p us, H1 a = some (.ins (CH K) dx fs) ∧ fs.lookup F = some (.ref p) ∧ H1 p = some (.lst us) ∧ H p = none ∧ B p = none ∧ j < us.length ∧
    ∀ G H2 v, Step H H1 G H2 → Rep K G d v → (hld K h' a).ok B G (upd H2 p (.lst (us.set j v))) a
theorem ixN_nat {n j : Nat} (h : j < n) : ixN n (j : Int) = some j := by
  unfold ixN
  split <;> first | omega | skip
  all_goals first | rfl | (split <;> first | omega | rfl) | simp_all
theorem ds_setF {F : Str} {j : Nat} (T : Prg X.K mg) (ok : SetOk X.K h h' F j d) (na : NoAttr X.K (CH X.K) F) (he : DE X (some (.mem (hld X.K h a)) :: ρ) e d) (hi : DE X (some (.mem (hld X.K h a)) :: ρ) ix (nI j)) (rest : DS X (some (.mem (hld X.K h' a)) :: ρ) st M) (hm : noMem ρ = true := by rfl) {fpos : Pos} (hN : X.N[0]? = some x := by rfl)
    (hv : Vis X.env.scope x := by first | exact Or.inl rfl | exact Or.inr (Or.inl rfl) | exact Or.inr (Or.inr rfl))
    (hps : PS X (.Assign [.Subscript (.Attribute (.Name x px) F fpos) ix apos] e pos) (tAsg (teOf X e) (gSub (tFld X.K (tVar 0) F) (teOf X ix) rSetL)) := by exact ps_asg pe_of (pg_sub (pe_fld (pv _) rfl) pe_of set_list)) : DS X (some (.mem (hld X.K h a)) :: ρ) (.Assign [.Subscript (.Attribute (.Name x px) F fpos) ix apos] e pos :: st) M := fun A B σ H H1 E t f => ts_cons hps (he A B σ H H1 _ t fun v G H2 s r => by
  have t2 := t.step s
  obtain ⟨a', ea, rfl, dx, mm, mf, ms, mt, vm, rs, vs, vt, w⟩ := t2.me 0 _ rfl
  obtain ⟨fs, p, us, h1, h2, h3, h4, h5, h6, h7⟩ := ok.ex _ _ _ _ _ _ _ _ _ _ _ _ _ w
  refine ⟨_, ea, _, CH X.K, dx, fs, _, rfl, h1, cl_Hold T, na, h2, hi A B σ G H2 _ t2 fun u G2 H3 s2 r2 => ?_⟩
  cases r2
  refine ⟨p, us, j, j, rfl, rfl, s2.s3 _ _ h3, ixN_nat h6, ?_⟩
  exact rest A B σ G2 _ E ((t2.step s2).mut hm rfl ea (free_step s2 h4 h3) h5 (h7 G2 H3 v s2 (r.mono s2.s1))) (f.mono (s.s1.trans s2.s1)))
/-- self.my_flows[i][o] = e -/
theorem ds_setRow {i o : Nat} {q : Q} (T : Prg X.K mg) (hi : i < h.flows.length) (ho : o < (h.fl i).length) (he : DE X (some (.mem (hld X.K h a)) :: ρ) e (eQ q)) (hix : DE X (some (.mem (hld X.K h a)) :: ρ) ix (nI i)) (hix2 : DE X (some (.mem (hld X.K h a)) :: ρ) ix2 (nI o)) (rest : DS X (some (.mem (hld X.K { h with flows := h.flows.set i ((h.fl i).set o q) } a)) :: ρ) st M) (hm : noMem ρ = true := by rfl) {fpos ipos : Pos} (hN : X.N[0]? = some x := by rfl)
    (hv : Vis X.env.scope x := by first | exact Or.inl rfl | exact Or.inr (Or.inl rfl) | exact Or.inr (Or.inr rfl)) (hpi : PlainIx ix := by intro _ _; rfl)
    (hps : PS X (.Assign [.Subscript (.Subscript (.Attribute (.Name x px) "my_flows" fpos) ix ipos) ix2 apos] e pos) (tAsg (teOf X e) (gSub (tOp (rIxL X.K) (tFld X.K (tVar 0) "my_flows") (teOf X ix)) (teOf X ix2) rSetL)) := by exact ps_asg pe_of (pg_sub (pe_ix ix_list (pe_fld (pv _) rfl) pe_of (by intro _ _; rfl)) pe_of set_list)) : DS X (some (.mem (hld X.K h a)) :: ρ) (.Assign [.Subscript (.Subscript (.Attribute (.Name x px) "my_flows" fpos) ix ipos) ix2 apos] e pos :: st) M := fun A B σ H H1 E t f => ts_cons hps (he A B σ H H1 _ t fun v G H2 s r => by
  have t2 := t.step s
  obtain ⟨a', ea, rfl, dx, mm, mf, ms, mt, vm, rs, vs, vt, w⟩ := t2.me 0 _ rfl
  obtain ⟨g1, g2, g3⟩ := w.ow.at_ (i := 2) rfl
  have hrow : h.flows[i]? = some (h.fl i) := by
    unfold HoldM.fl
    rw [List.getD_eq_getElem?_getD, List.getElem?_eq_getElem hi]
    rfl
  obtain ⟨z, e1, e2⟩ := w.rr.2 i _ hrow
  refine ⟨_, ea, _, CH X.K, dx, _, _, rfl, (w.ow.at_ (i := 0) rfl).1, cl_Hold T, na_Hold_my_flows T, rfl, hix A B σ G H2 _ t2 fun u G2 H3 s2 r2 => ?_⟩
  cases r2
  have hz : (rs.map fun x => V.ref x.1)[i]? = some (.ref z.1) := by rw [List.getElem?_map, e1]; rfl
  refine ⟨mf, _, i, .ref z.1, rfl, rfl, SqL.of (s2.s3 _ _ g1), atI_nat hz, hix2 A B σ G2 H3 _ (t2.step s2) fun u2 G3 H4 s3 r3 => ?_⟩
  cases r3
  have s23 := s2.trans s3
  have w3 := w.step s23
  obtain ⟨k1, k2, k3⟩ := w3.ow.at_ (LH_at e1)
  have hl : o < z.2.length := by rw [← e2.length, List.length_map]; exact ho
  refine ⟨z.1, z.2, o, o, rfl, rfl, k1, ixN_nat hl, ?_⟩
  exact rest A B σ G3 _ E ((t2.step s23).mut hm rfl ea k2 k3 ⟨rfl, dx, mm, mf, ms, mt, vm, _, vs, vt, w3.row e1 (us := z.2.set o v) (row := (h.fl i).set o q) (by rw [List.map_set]; exact (e2.mono s23.s1).set o (r.mono s23.s1))⟩) (f.mono (s.s1.trans s23.s1)))
end
section
variable {K : PySem.W.Frag} {h : HoldM} {j : Nat}
theorem set_skies {q : Q × Q × Q} (hl : j < h.skies.length) : SetOk K h { h with skies := h.skies.set j q } "my_skies" j (eSky q) := ⟨fun B H H1 a dx mm mf ms mt vm rs vs vt w => by
  obtain ⟨g1, g2, g3⟩ := w.ow.at_ (i := 3) rfl
  refine ⟨_, ms, vs, (w.ow.at_ (i := 0) rfl).1, rfl, g1, g2, g3, ?_, fun G H2 v s r => ⟨rfl, dx, mm, mf, ms, mt, vm, rs, vs.set j v, vt, ?_⟩⟩
  · rw [← w.rk.length, List.length_map]
    exact hl
  · have w2 := w.step s
    exact ⟨w2.ow.put (i := 3) rfl, w2.rm, w2.rr, by rw [List.map_set]; exact w2.rk.set j r, w2.rt⟩⟩
theorem set_stoves {q : Option Stv} (hl : j < h.stoves.length) : SetOk K h { h with stoves := h.stoves.set j q } "my_stoves" j (eStv q) := ⟨fun B H H1 a dx mm mf ms mt vm rs vs vt w => by
  obtain ⟨g1, g2, g3⟩ := w.ow.at_ (i := 4) rfl
  refine ⟨_, mt, vt, (w.ow.at_ (i := 0) rfl).1, rfl, g1, g2, g3, ?_, fun G H2 v s r => ⟨rfl, dx, mm, mf, ms, mt, vm, rs, vs, vt.set j v, ?_⟩⟩
  · rw [← w.rt.length, List.length_map]
    exact hl
  · have w2 := w.step s
    exact ⟨w2.ow.put (i := 4) rfl, w2.rm, w2.rr, w2.rk, by rw [List.map_set]; exact w2.rt.set j r⟩⟩
end
end SK
set_option maxRecDepth 100000
set_option maxHeartbeats 4000000
namespace SK
open PySem L2 PyProof.Rows
section
variable {X : Cx} {ρ : Rho} {e : Expr} {d : D} {h h' : HoldM} {a : Addr} {st body : List Stmt} {M : Fin} {pos p px py apos : Pos} {x y : Str} {mg : Str → Option Value}
/-- for y in self.my_marks -/
theorem ds_forM (j : Nat) (T : Prg X.K mg) (nd : X.N.Nodup) (Inv : Nat → Rho → Prop) (h0 : Inv 0 ρ) (hm : ∀ i ρ', Inv i ρ' → noMem ρ' = true ∧ noOwn ρ' = true)
    (hs : ∀ (b : Option Bd) i q ρ', h.marks[i]? = some q → Inv i ρ' → DS X (b :: ρ'.set j (some (.val (eQs q)))) body ⟨fun ρ2 => ∃ ρ3, ρ2 = b :: ρ3 ∧ Inv (i + 1) ρ3, M.rt, fun _ => False⟩) (hd : ∀ ρ', Inv h.marks.length ρ' → DS X (some (.mem (hld X.K h a)) :: ρ') st M)
    (hp : PassesOwn (model X.prog X.w) X.A X.env X.xe := by exact PassesOwn.never) (hc : X.calm = true := by rfl) (hj : X.N[j + 1]? = some y := by rfl) (hx : Loc X.env.scope y := by first | exact Or.inl rfl | exact Or.inr rfl)
    (hf : X.fn y = true ∨ X.env.scope.names.lookup y = some .local := by first | exact .inl rfl | exact .inr rfl) {fpos : Pos} (hs2 : ∀ z, foldedSetIterable (.Attribute (.Name x px) "my_marks" fpos) X.env z = pure z := by intro _; rfl) (hN : X.N[0]? = some x := by rfl)
    (hpi : PI X (.Name y p) (.Attribute (.Name x px) "my_marks" fpos) (iList X.K (tFld X.K (tVar 0) "my_marks")) := by exact pi_list (pe_fld (pv _) rfl)) :
    DS X (some (.mem (hld X.K h a)) :: ρ) (.For (.Name y p) (.Attribute (.Name x px) "my_marks" fpos) body [] pos :: st) M := fun A B σ H H1 E t f =>
  ts_cons (ps_for hp hc hpi (pg_name nd hj hx hf) pss_of hs2) (by
    obtain ⟨a', ea, rfl, dx, mm, mf, ms, mt, vm, rs, vs, vt, w⟩ := t.me 0 _ rfl
    obtain ⟨g1, g2, g3⟩ := w.ow.at_ (i := 1) rfl
    refine ⟨_, ea, _, CH X.K, dx, _, _, rfl, (w.ow.at_ (i := 0) rfl).1, cl_Hold T, na_Hold_my_marks T, rfl, mm, rfl, ⟨vm, SqL.of g1⟩, for_list (xs := vm) (fun i σ' H' => ∃ ρ' G', Inv i ρ' ∧ At X.K H H1 (some (.mem (pinM a')) :: ρ') σ' G' H') ⟨ρ, H, h0, ?_⟩ ?_ ?_ ?_⟩
    · exact t.swap (hm 0 ρ h0).1 (hm 0 ρ h0).2 (Lt.start t.up) (Same.refl _) (.mem (pinM a')) rfl ⟨a', ea, rfl⟩
    · rintro i σ' H' _ ⟨ρ', G', _, t'⟩
      exact SqL.of (t'.bn _ _ g1)
    · rintro i z σ' H' hi ⟨ρ', G', iv, t'⟩
      obtain ⟨d0, hd', rd⟩ := w.rm.back hi
      rw [List.getElem?_map] at hd'
      obtain ⟨q, hq, rfl⟩ := Option.map_eq_some_iff.mp hd'
      refine hs (some (.mem (pinM a'))) i q ρ' hq iv H H1 _ G' H' _ (t'.set (j + 1) (rd.mono t'.an)) ⟨fun ρ2 σ2 G2 H3 ⟨ρ3, e3, a3⟩ b c => ?_, fun d v ρ2 σ2 G2 H3 _ m => m.elim⟩
      subst e3
      exact ⟨ρ3, G2, a3, b⟩
    · rintro σ' H' ⟨ρ', G', iv, t'⟩
      have hl : vm.length = h.marks.length := by rw [← w.rm.length, List.length_map]
      rw [hl] at iv
      have s := t'.toLt.toStep
      obtain ⟨a2, ea2, e3⟩ := t'.me 0 _ rfl
      have e4 : a2 = a' := e3
      subst e4
      exact hd ρ' iv A B σ' G' H' E (t'.swap (hm _ ρ' iv).1 (hm _ ρ' iv).2 (t.toLt.step s) (Same.refl _) (.mem (hld X.K h a2)) rfl ⟨a2, ea2, rfl, dx, mm, mf, ms, mt, vm, rs, vs, vt, w.step s⟩) (f.mono s.s1))
theorem part_set {α : Type} (g : α → α) {l : List α} {i : Nat} {b : α} (hb : l[i]? = some b) : ((l.take i).map g ++ l.drop i).set i (g b) = (l.take (i + 1)).map g ++ l.drop (i + 1) := by
  have hl : i < l.length := (List.getElem?_eq_some_iff.mp hb).1
  have e1 : ((l.take i).map g).length = i := by rw [List.length_map, List.length_take]; omega
  rw [List.set_append_right _ _ (by omega), e1, Nat.sub_self, take_next hb, List.map_append]
  have e2 : l.drop i = b :: l.drop (i + 1) := by
    rw [List.drop_eq_getElem_cons hl]
    congr 1
    have := List.getElem?_eq_getElem hl
    rw [this] at hb
    exact Option.some.inj hb
  rw [e2]
  show _ ++ (g b :: _) = _
  simp
theorem part_at {α : Type} (g : α → α) {l : List α} {i : Nat} {b : α} (hb : l[i]? = some b) : ((l.take i).map g ++ l.drop i)[i]? = some b := by
  have hl : i < l.length := (List.getElem?_eq_some_iff.mp hb).1
  have e1 : ((l.take i).map g).length = i := by rw [List.length_map, List.length_take]; omega
  rw [List.getElem?_append_right (by omega), e1, Nat.sub_self, List.getElem?_drop]
  exact hb
def addN (h : HoldM) (i : Nat) : HoldM := { h with flows := (h.flows.take i).map (· ++ [q00]) ++ h.flows.drop i }
/-- for y in self.my_flows: y.append(NOUGHT) -/
theorem ds_forRows (j : Nat) (T : Prg X.K mg) (nd : X.N.Nodup) (hr : ∀ row ∈ h.flows, row.length < 1000) (he : ∀ b : Option Bd, DE X (b :: ρ) e (eQ q00)) (hd : DS X (some (.mem (hld X.K (addN h h.flows.length) a)) :: ρ) st M) (hm : noMem ρ = true := by rfl) (hj0 : ρ.set j none = ρ := by rfl) (hjl : j < ρ.length := by exact Nat.le_of_ble_eq_true rfl)
    (hp : PassesOwn (model X.prog X.w) X.A X.env X.xe := by exact PassesOwn.never) (hc : X.calm = true := by rfl) (hj : X.N[j + 1]? = some y := by rfl) (hx : Loc X.env.scope y := by first | exact Or.inl rfl | exact Or.inr rfl)
    (hf : X.fn y = true ∨ X.env.scope.names.lookup y = some .local := by first | exact .inl rfl | exact .inr rfl) {fpos cpos bpos : Pos} (hs2 : ∀ z, foldedSetIterable (.Attribute (.Name x px) "my_flows" fpos) X.env z = pure z := by intro _; rfl) (hN : X.N[0]? = some x := by rfl)
    (hpi : PI X (.Name y p) (.Attribute (.Name x px) "my_flows" fpos) (iList X.K (tFld X.K (tVar 0) "my_flows")) := by exact pi_list (pe_fld (pv _) rfl))
    (hpb : PS X (.Expr (.Call (.Attribute (.Name y py) "append" apos) [e] [] cpos) bpos) (tDrop (tBM X.K "list" rAppend (tVar (j + 1)) (tCons (teOf X e) tNil))) := by exact ps_expr (pe_bm PySem.F.plainAttrs_list PySem.F.slot_list_append PySem.F.type_list_append mt_append (pv _) (pa_cons pe_of pa_nil)) (by rfl)) :
    DS X (some (.mem (hld X.K h a)) :: ρ) (.For (.Name y p) (.Attribute (.Name x px) "my_flows" fpos) [.Expr (.Call (.Attribute (.Name y py) "append" apos) [e] [] cpos) bpos] [] pos :: st) M := fun A B σ H H1 E t f =>
  ts_cons (ps_for hp hc hpi (pg_name nd hj hx hf) (pss_cons hpb pss_nil) hs2) (by
    obtain ⟨a', ea, rfl, dx, mm, mf, ms, mt, vm, rs, vs, vt, w⟩ := t.me 0 _ rfl
    obtain ⟨g1, g2, g3⟩ := w.ow.at_ (i := 2) rfl
    have hl : (rs.map fun x => V.ref x.1).length = h.flows.length := by rw [List.length_map]; exact w.rr.1
    refine ⟨_, ea, _, CH X.K, dx, _, _, rfl, (w.ow.at_ (i := 0) rfl).1, cl_Hold T, na_Hold_my_flows T, rfl, mf, rfl, ⟨_, SqL.of g1⟩,
      for_list (xs := rs.map fun x => V.ref x.1) (fun i σ' H' => i ≤ h.flows.length ∧ ∃ G' rs', rs'.map (fun x => V.ref x.1) = rs.map (fun x => V.ref x.1) ∧ At X.K A B (some (.mem (hld X.K (addN h i) a')) :: ρ) σ' G' H' ∧ σ'[0]? = some (some (.ref a')) ∧ HAt X.K (addN h i) B G' H' a' dx mm mf ms mt vm rs' vs vt ∧ Same H G') ⟨Nat.zero_le _, H, rs, rfl, t, ea, w, Same.refl _⟩ ?_ ?_ ?_⟩
    · rintro i σ' H' _ ⟨_, G', rs', e1, t', ea', w', _⟩
      rw [← e1]
      exact SqL.of (w'.ow.at_ (i := 2) rfl).1
    · rintro i z σ' H' hi ⟨hil, G', rs', e1, t', ea', w', sm⟩
      have hlt : i < h.flows.length := by
        have := (List.getElem?_eq_some_iff.mp hi).1
        rw [hl] at this
        exact this
      have hb : h.flows[i]? = some h.flows[i] := List.getElem?_eq_getElem hlt
      obtain ⟨y0, k1, k2⟩ := w'.rr.2 i _ (part_at (· ++ [q00]) hb)
      have hz : z = .ref y0.1 := by
        rw [← e1, List.getElem?_map, k1] at hi
        exact (Option.some.inj hi).symm
      subst hz
      have t2 := t'.drop (j + 1) (some (.ref y0.1))
      have e2 : (some (Bd.mem (hld X.K (addN h i) a')) :: ρ).set (j + 1) none = some (Bd.mem (hld X.K (addN h i) a')) :: ρ := by
        show _ :: ρ.set j none = _
        rw [hj0]
      rw [e2] at t2
      have ls : j + 1 < σ'.length := by rw [t'.ln]; exact Nat.succ_lt_succ hjl
      have es : (σ'.set (j + 1) (some (V.ref y0.1)))[j + 1]? = some (some (.ref y0.1)) := List.getElem?_set_self ls
      have ea2 : (σ'.set (j + 1) (some (V.ref y0.1)))[0]? = some (some (.ref a')) := by rw [List.getElem?_set_ne (by omega)]; exact ea'
      refine ⟨_, es, .inl ⟨rfl, _, SqL.of (w'.ow.at_ (LH_at k1)).1⟩, he _ A B _ G' H' _ t2 fun v G H2 s r => ?_⟩
      have w2 := w'.step s
      obtain ⟨c1, c2, c3⟩ := w2.ow.at_ (LH_at k1)
      refine ⟨y0.1, y0.2, v, rfl, rfl, c1, ?_, ?_⟩
      · rw [← k2.length, List.length_map]
        exact small1000 (Nat.le_of_lt (hr _ (List.getElem_mem hlt)))
      have hnew := w2.row (row := h.flows[i] ++ [q00]) k1 (us := y0.2 ++ [v]) (by rw [List.map_append]; exact (k2.mono s.s1).snoc r)
      have e3 : { addN h i with flows := (addN h i).flows.set i (h.flows[i] ++ [q00]) } = addN h (i + 1) := by
        show HoldM.mk _ _ _ _ (((h.flows.take i).map (· ++ [q00]) ++ h.flows.drop i).set i (h.flows[i] ++ [q00])) _ _ = _
        rw [part_set (· ++ [q00]) hb]
        rfl
      rw [e3] at hnew
      refine ⟨hlt, G, _, ?_, (t2.step s).mut hm rfl ea2 c2 c3 ⟨rfl, dx, mm, mf, ms, mt, vm, _, vs, vt, hnew⟩, ea2, hnew, sm.trans s.s1⟩
      rw [fst_set k1, e1]
    · rintro σ' H' ⟨_, G', rs', e1, t', ea', w', sm⟩
      rw [hl] at t'
      exact hd A B σ' G' H' E t' (f.mono sm))
end
/-- the promise of a method that writes the hold -/
def spG (K : PySem.W.Frag) (S : HoldM → List D → HoldM → D → Prop) : Sp := fun vs H1 Q _ => ∃ (h : HoldM) (a : Addr) (ws : List V) (ds : List D) (h' : HoldM) (d : D) (B H : Hp), vs = .ref a :: ws ∧ Same H H1 ∧ Same B H1 ∧ (hld K h a).ok B H H1 a ∧ Reps K H ds ws ∧ S h ds h' d ∧
  ∀ v G H2, Same H G → Same G H2 → Same B H2 → (∀ x o, G x = some o → H x = some o ∨ B x = none) → (hld K h' a).ok B G H2 a → Rep K G d v → Q v H2
section
variable {P : Program} {w : World} {K : PySem.W.Frag} {mg : Str → Option Value} {base : Heap} {x qual : Str} {params : Arguments} {body : List Stmt} {scope : Scope} {dvs : List V} {kws : List (Str × V)} {f : Addr} {fd : FuncData}
theorem okG {n0 : Str} {N ps : List Str} {k : Nat} {S : HoldM → List D → HoldM → D → Prop} (F : FunD K x qual params body scope dvs kws f fd) (SC : FnScope (n0 :: N) (n0 :: ps) scope) (len : ∀ h ds h' d, S h ds h' d → ds.length = ps.length)
    (hb : ∀ (cdv : Value) (A : Around) (outer : List Env) (s : Shared) (H : Hp) (E : XK) (h : HoldM) (a : Addr) (ds : List D) (h' : HoldM) (d : D), Room k (A.deeper (envOfC qual scope s.heap.objs.size f cdv)) → S h ds h' d →
      DS (cx P w K mg base (n0 :: N) qual scope f cdv A outer s H E) (some (.mem (hld K h a)) :: rho0 N ds) body ⟨fun ρ => d = .non ∧ ρ[0]? = some (some (.mem (hld K h' a))), fun d' => d' = d, fun ρ => ρ[0]? = some (some (.mem (hld K h' a)))⟩) : FnOk P w K mg base CX0 (k + 1) f fd (n0 :: ps) (spG K S) := by
  refine F.ok SC (fun vs H Q E h => ?_) (fun cdv A outer s H vs Q E hr h => ?_)
  · obtain ⟨h, a, ws, ds, h', d, B, Hv, rfl, _, _, _, r, hS, _⟩ := h
    rw [List.length_cons, List.length_cons, ← r.length, len h ds h' d hS]
  · obtain ⟨h, a, ws, ds, h', d, B, Hv, rfl, e, eb, m, r, hS, q⟩ := h
    refine ⟨_, PSs.nox (pss_of (X := cx P w K mg base (n0 :: N) qual scope f cdv A outer s H E)), ?_⟩
    have t := at_memo (N := N) e eb r m
    have es : L2.start (n0 :: N) (V.ref a :: ws) = some (V.ref a) :: L2.start N ws := by
      unfold L2.start
      rw [List.map_cons, List.length_cons, List.length_cons, Nat.add_sub_add_right]
      rfl
    rw [es]
    refine hb cdv A outer s H E h a ds h' d hr hS _ B _ Hv H _ t ⟨fun ρ σ G H2 z b c => ?_, fun d' v ρ σ G H2 a1 a2 b c r2 => ?_⟩
    · obtain ⟨e0, z2⟩ := z
      subst e0
      obtain ⟨a', e1, m'⟩ := b.me 0 _ z2
      have e2 : a' = a := m'.1
      subst e2
      exact q .non G H2 c b.up b.bn (fun x o z => b.nw x o z) m' .non
    · have a3 : d' = d := a1
      subst a3
      obtain ⟨a', e1, m'⟩ := b.me 0 _ a2
      have e2 : a' = a := m'.1
      subst e2
      exact q v G H2 c b.up b.bn (fun x o z => b.nw x o z) m' r2
theorem mkMG {k : Nat} {C : Addr} {n0 : Str} {ps : List Str} {N : List Str} {S : HoldM → List D → HoldM → D → Prop}
    (F : FunD K x qual params body scope dvs kws f fd) (hm : Meth K C x f) (SC : FnScope (n0 :: N) (n0 :: ps) scope) (hb : Binds K fd (n0 :: ps) [])
    (len : ∀ h ds h' d, S h ds h' d → ds.length = ps.length)
    (hB : ∀ (cdv : Value) (A : Around) (outer : List Env) (s : Shared) (H : Hp) (E : XK) (h : HoldM) (a : Addr) (ds : List D) (h' : HoldM) (d : D), Room k (A.deeper (envOfC qual scope s.heap.objs.size f cdv)) → S h ds h' d →
      DS (cx P w K mg base (n0 :: N) qual scope f cdv A outer s H E) (some (.mem (hld K h a)) :: rho0 N ds) body ⟨fun ρ => d = .non ∧ ρ[0]? = some (some (.mem (hld K h' a))), fun d' => d' = d, fun ρ => ρ[0]? = some (some (.mem (hld K h' a)))⟩) : Met P w K mg base (k + 1) C x (n0 :: ps) [] (spG K S) :=
  ⟨f, fd, [], hm, hb, .nil, okG F SC len hB⟩
end
end SK
set_option maxRecDepth 100000
set_option maxHeartbeats 4000000
namespace SK
open PySem L2 PyProof.Rows
section
variable {X : Cx} {ρ : Rho} {e : Expr} {pos p p2 : Pos}
theorem isi_int {i : Int} {T : Str} {b : Bool} {Tn : String} (hm : X.mg "isinstance" = none) (hT : X.mg T = none) (hv : bootBuiltins T = some (.type Tn)) (h : DE X ρ e (.int i)) (hb : kitB "int" Tn = some b) (hg : Gl X "isinstance" := by rfl) (hgT : Gl X T := by rfl)
    (hs : starEach [e, .Name T p2] X.env = (false, eval e X.env) :: starEach [.Name T p2] X.env := by rfl) (hs2 : starEach [.Name T p2] X.env = (false, eval (.Name T p2) X.env) :: starEach [] X.env := by rfl) (hn : T ≠ "__name__" := by decide) (hdb : (T == ("__debug__" : Str)) = false := by decide) :
    DE X ρ (.Call (.Name "isinstance" p) [e, .Name T p2] [] pos) (.bl b) := fun A B σ H H1 Q t k =>
  te_run (pe_callB call_isi hg hm PyProof.Rows.boot_isinstance (pa_cons pe_of (pa_cons (pe_bltn (v := .ty Tn) hgT hT hv rfl hn hdb) pa_nil hs2) hs) (he := hs) (hpl := by rw [hs2]; rfl)) (h A B σ H H1 _ t fun v G H2 s r => by
    cases r
    exact ⟨_, _, _, _, b, rfl, .ty Tn, .base (.int i), kit_ty hb, k _ G H2 s .bl⟩)
end
section
variable {P : Program} {w : World} {K : PySem.W.Frag} {mg : Str → Option Value} {base : Heap}
theorem c_is_bound (T : Prg K mg) : Cal P w K mg base 1 "is_bound" ["thing", "most"] [] (spD K fun ds d => ∃ (n m : Nat), n ≤ m ∧ ds = [nI n, nI m] ∧ d = .bl true) := by
  obtain ⟨fd, F⟩ := F_is_bound T
  refine mkC F (g_is_bound T) sc_is_bound (fun _ _ _ _ _ _ us hl => match us, hl with | [_, _], _ => rfl) (fun ds d h => ?_) fun cdv A outer s H E ds d hr h => ?_
  · obtain ⟨n, m, _, rfl, rfl⟩ := h
    rfl
  · obtain ⟨n, m, hl, rfl, rfl⟩ := h
    refine ds_ret (de_and (isi_int (b_isinstance T) (b_int T) PyProof.Rows.boot_int (nm 0) (b := true) (by decide +kernel)) fun _ => de_and (de_not (isi_int (b_isinstance T) (b_bool T) PyProof.Rows.boot_bool (nm 0) (b := false) (by decide +kernel))) fun _ => de_one (de_chain op_le op_le de_int (nm 0) (nm 1) (k1 := true) (k2 := true) ?_ ?_ fun ha hb hc => pe_chain op_le op_le ha hb hc)) rfl
    · exact dr_0 (fun _ => by rw [show decide ((0 : Int) ≤ (n : Int)) = true from decide_eq_true (by omega)]; exact .bl)
    · exact dr_0 (fun _ => by rw [show decide ((n : Int) ≤ (m : Int)) = true from decide_eq_true (by omega)]; exact .bl)
def Rises (l : List Q) : Prop := 2 ≤ l.length ∧ l.length ≤ 7 ∧ (∀ q ∈ l, Sm 100 q) ∧ ∀ k, k + 1 < l.length → underQ (l.getD k q00) (l.getD (k + 1) q00) = true
theorem c_do_rise (T : Prg K mg) : Cal P w K mg base 2 "do_rise" ["marks"] [] (spD K fun ds d => ∃ l : List Q, Rises l ∧ ds = [eQs l] ∧ d = .bl true) := by
  obtain ⟨fd, F⟩ := F_do_rise T
  refine mkC F (g_do_rise T) sc_do_rise (fun _ _ _ _ _ _ us hl => match us, hl with | [_], _ => rfl) (fun ds d h => ?_) fun cdv A outer s H E ds d hr h => ?_
  · obtain ⟨l, _, rfl, rfl⟩ := h
    rfl
  · obtain ⟨l, ⟨h1, h2, h3, h4⟩, rfl, rfl⟩ := h
    have nd := sc_do_rise.nd
    refine ds_skip (DW.dt (dw_or (dt_lt (len_L (b_len T) (nm 0)) de_int) fun _ => dw_or1 (dt_gt (len_L (b_len T) (nm 0)) de_int))) ?_ ?_
    · rw [List.length_map]
      simp only [Bool.or_eq_false_iff, decide_eq_false_iff_not]
      omega
    refine forR 1 nd (b_range T) (de_sub (len_L (b_len T) (nm 0)) de_int) (by rw [List.length_map]; omega) (fun i ρ' => ∃ b, ρ' = [some (.val (eQs l)), b]) ⟨none, rfl⟩ ?_ ?_
    · rintro k ρ' hk ⟨b, rfl⟩
      rw [List.length_map] at hk
      have hk2 : k + 1 < l.length := by omega
      refine ds_skip (dt_not (dt_val (call (c_under T) hr (da_cons (de_ixL (nm 0) (nm 1) (at_map q00 (show k < l.length by omega))) (da_one (de_ixL (nm 0) (de_is (d := nI (k + 1)) (de_add (nm 1) de_int) rfl) (at_map q00 hk2)))) ⟨_, _, Two.of (getD_sm h3 k (by decide)) (getD_sm h3 (k + 1) (by decide)), rfl, rfl⟩))) ?_ (ds_nil ⟨some (.val (nI k)), rfl⟩)
      rw [h4 k hk2]
      rfl
    · rintro ρ' ⟨b, rfl⟩
      exact ds_ret de_bl rfl
end
end SK
set_option maxRecDepth 100000
set_option maxHeartbeats 4000000
namespace SK
open PySem L2 PyProof.Rows
def putRoom (h : HoldM) (l : List Q) : HoldM :=
  { h with marks := h.marks ++ [l], flows := h.flows.map (· ++ [q00]) ++ [List.replicate (h.marks.length + 1) q00], skies := h.skies ++ [sky0], stoves := h.stoves ++ [none] }
def putFlow (h : HoldM) (i o : Nat) (q : Q) : HoldM := { h with flows := h.flows.set i ((h.fl i).set o q) }
def putSky (h : HoldM) (r : Nat) (s : Q × Q × Q) : HoldM := { h with skies := h.skies.set r s }
def putStove (h : HoldM) (r : Nat) (s : Stv) : HoldM := { h with stoves := h.stoves.set r (some s) }
theorem addN_all (h : HoldM) : addN h h.flows.length = { h with flows := h.flows.map (· ++ [q00]) } := by
  unfold addN
  rw [List.take_length, List.drop_length, List.append_nil]
section
variable {P : Program} {w : World} {K : PySem.W.Frag} {mg : Str → Option Value} {base : Heap}
def S_put_room (h : HoldM) (ds : List D) (h' : HoldM) (d : D) : Prop := ∃ l : List Q, Rises l ∧ h.marks.length ≤ 1 ∧ (∀ m ∈ h.marks, 2 ≤ m.length ∧ m.length ≤ 7) ∧ h.flows.length ≤ 1 ∧ (∀ row ∈ h.flows, row.length ≤ 1) ∧ h.skies.length ≤ 1 ∧ h.stoves.length ≤ 1 ∧ ds = [eQs l] ∧ h' = putRoom h l ∧ d = nI h.marks.length
theorem c_put_room (T : Prg K mg) : Met P w K mg base 3 (CH K) "put_room" ["self", "marks"] [] (spG K S_put_room) := by
  obtain ⟨fd, F⟩ := F_Hold_put_room T
  refine mkMG F (m_Hold_put_room T) sc_Hold_put_room (F.bindsN fun _ _ _ _ _ _ us hl => match us, hl with | [_, _], _ => rfl) (fun h ds h' d hs => ?_) fun cdv A outer s H E h a ds h' d hr hs => ?_
  · obtain ⟨l, _, _, _, _, _, _, _, rfl, _, _⟩ := hs
    rfl
  · obtain ⟨l, rl, hm, hml, hf, hfl, hk, ht, rfl, rfl, rfl⟩ := hs
    have nd := sc_Hold_put_room.nd
    refine ds_skip (dt_v (dt_eq (len_L (b_len T) (f_marks T (nm 0))) de_int)) ?_ ?_
    · rw [List.length_map]
      exact decide_eq_false (by omega)
    refine ds_skip (dt_not (dt_val (call (c_do_rise T) (hr.mono (by decide)) (da_one (nm 1)) ⟨l, rl, rfl, rfl⟩))) rfl ?_
    refine asg 2 nd (d := .int ((l.length : Int) - 1)) (de_is (de_sub (len_L (b_len T) (nm 1)) de_int) (by rw [List.length_map])) ?_
    refine ds_forM 2 T nd (fun i ρ' => ∃ (n : Int) (b : Option Bd), (∀ D, b ≠ some (.own D)) ∧ (∀ m, b ≠ some (.mem m)) ∧ (i = 0 → n ≤ 6) ∧ (i = 1 → n ≤ 36) ∧ 0 ≤ n ∧ ρ' = [some (.val (eQs l)), some (.val (.int n)), b, none]) ⟨_, none, (fun _ z => nomatch z), (fun _ z => nomatch z), fun _ => by have := rl.2.1; omega, by omega, by have := rl.1; omega, rfl⟩ ?_ ?_ ?_
    · rintro i ρ' ⟨n, b, h1, h2, _, _, _, rfl⟩
      cases b with
      | none => exact ⟨rfl, rfl⟩
      | some b =>
        cases b with
        | val _ => exact ⟨rfl, rfl⟩
        | own D => exact absurd rfl (h1 D)
        | mem m => exact absurd rfl (h2 m)
    · rintro b i q ρ' hi ⟨n, b', _, _, h3, h4, h5, rfl⟩
      have i0 : i = 0 := by
        have := (List.getElem?_eq_some_iff.mp hi).1
        omega
      subst i0
      have hq := hml q (List.mem_of_getElem? hi)
      have h6 := h3 rfl
      refine asg 2 nd (d := .int (n * ((q.length : Int) - 1))) (de_is (de_mul (nm 2) (de_sub (len_L (b_len T) (nm 3)) de_int) ?_) (by rw [List.length_map])) ?_
      · rw [List.length_map]
        exact cmul (n := 10) (m := 10) (by omega) (by omega) (by decide) (by decide) (by decide)
      · refine ds_nil ⟨_, rfl, _, some (.val (eQs q)), (fun _ z => nomatch z), (fun _ z => nomatch z), by omega, fun _ => ?_, ?_, rfl⟩
        · have h8 : n * ((q.length : Int) - 1) ≤ 6 * 6 := Int.mul_le_mul h6 (by omega) (by omega) (by decide)
          exact h8
        · exact Int.mul_nonneg h5 (by omega)
    · rintro ρ' ⟨n, b, hb1, hb2, h3, h4, _, rfl⟩
      have hn : n ≤ 36 := by
        rcases Nat.le_one_iff_eq_zero_or_eq_one.mp hm with z | z
        · have := h3 z; omega
        · exact h4 z
      refine ds_skip (dt_gt (nm 2) de_int) (decide_eq_false (by omega)) ?_
      refine fgt 3 ?_
      show DS _ [some (.mem (hld K h a)), some (.val (eQs l)), some (.val (.int n)), none, none] _ _
      refine ds_forRows 3 T nd (fun row hrow => by have := hfl row hrow; omega) (fun b => g_NOU T) ?_
      rw [addN_all]
      refine ds_appF T (app_marks (q := l) (by show h.marks.length < 1000; omega)) (na_Hold_my_marks T) (list_L (b_list T) (nm 1)) ?_
      refine ds_appRow (row := List.replicate (h.marks.length + 1) q00) T (by show (h.flows.map _).length < 1000; rw [List.length_map]; omega) ?_ ?_
      · have hl : ((h.marks ++ [l]).length : Int).toNat = h.marks.length + 1 := by rw [List.length_append]; rfl
        have e1 : (List.replicate (((h.marks ++ [l]).map eQs).length : Int).toNat [eQ q00]).flatten = (List.replicate (h.marks.length + 1) q00).map eQ := by
          rw [List.length_map, hl, List.map_replicate]
          generalize h.marks.length + 1 = n
          induction n with
          | zero => rfl
          | succ n ih => rw [List.replicate_succ, List.flatten_cons, ih, List.replicate_succ]; rfl
        rw [← e1]
        refine do_rep (do_lst (da_one (g_NOU T))).see (de_v (de_is (len_L (b_len T) (f_marks T (nm 0))) rfl)) (by omega) ?_ ?_
        · show ((((h.marks ++ [l]).map eQs).length : Nat) : Int) < _
          rw [List.length_map, List.length_append]
          show ((h.marks.length + 1 : Nat) : Int) < _
          omega
        · show [eQ q00].length * ((((h.marks ++ [l]).map eQs).length : Nat) : Int).toNat ≤ _
          rw [List.length_map, hl]
          exact Nat.le_of_lt (small1000 (show 1 * (h.marks.length + 1) ≤ 1000 by omega))
      refine ds_appF T (app_skies (q := sky0) (by show h.skies.length < 1000; omega)) (na_Hold_my_skies T) (de_tup (da_cons (g_NOU T) (da_cons (g_NOU T) (da_one (g_NOU T))))) ?_
      refine ds_appF T (app_stoves (q := none) (by show h.stoves.length < 1000; omega)) (na_Hold_my_stoves T) de_non ?_
      refine ds_ret (de_v (de_sub (len_L (b_len T) (f_marks T (nm 0))) de_int)) ?_ rfl
      rw [List.length_map]
      show D.int (((h.marks ++ [l]).length : Int) - 1) = nI h.marks.length
      rw [List.length_append]
      refine congrArg D.int ?_
      show ((h.marks.length + 1 : Nat) : Int) - 1 = _
      omega
def PutOk (h : HoldM) (r : Nat) (old new : Q) : Prop := r < h.many ∧ TkOk h r ∧ Sm 100 old ∧ Sm 100 new ∧ underQ new q00 = false ∧ underQ (1, 1) (plusQ (minusQ (takenQ h r) old) new) = false
def S_put_flow (h : HoldM) (ds : List D) (h' : HoldM) (d : D) : Prop := ∃ (i o : Nat) (q : Q), PutOk h i ((h.fl i).getD o q00) q ∧ o < h.many ∧ o < (h.fl i).length ∧ i ≠ o ∧ ds = [nI i, nI o, eQ q] ∧ h' = putFlow h i o q ∧ d = .non
theorem c_put_flow (T : Prg K mg) : Met P w K mg base 5 (CH K) "put_flow" ["self", "into", "of", "share"] [] (spG K S_put_flow) := by
  obtain ⟨fd, F⟩ := F_Hold_put_flow T
  refine mkMG F (m_Hold_put_flow T) sc_Hold_put_flow (F.bindsN fun _ _ _ _ _ _ us hl => match us, hl with | [_, _, _, _], _ => rfl) (fun h ds h' d hs => ?_) fun cdv A outer s H E h a ds h' d hr hs => ?_
  · obtain ⟨_, _, _, _, _, _, _, rfl, _, _⟩ := hs
    rfl
  · obtain ⟨i, o, q, ⟨hi, tk, so, sn, u1, u2⟩, ho, hol, hio, rfl, rfl, rfl⟩ := hs
    have nd := sc_Hold_put_flow.nd
    refine ds_expr (de_v (de_meth (nm 0) (cl_Hold T) (c_ask_room T) (hr.mono (by decide)) rfl (da_one (nm 1)) ⟨h, i, hi, rfl, rfl⟩)) ?_
    refine ds_expr (de_v (de_meth (nm 0) (cl_Hold T) (c_ask_room T) (hr.mono (by decide)) rfl (da_one (nm 2)) ⟨h, o, ho, rfl, rfl⟩)) ?_
    refine ds_skip (dt_eq (nm 1) (nm 2)) (decide_eq_false (by omega)) ?_
    refine asg 4 nd (d := eQ (plusQ (minusQ (takenQ h i) ((h.fl i).getD o q00)) q)) (de_v (call (c_plus T) (hr.mono (by decide)) (da_cons (call (c_minus T) (hr.mono (by decide)) (da_cons (de_meth (nm 0) (cl_Hold T) (c_taken T) hr rfl (da_one (nm 1)) ⟨h, i, tk, rfl, rfl⟩) (da_one (de_ixL (de_ixL (f_flows T (nm 0)) (nm 1) (at_map [] tk.f)) (nm 2) (at_map q00 hol)))) ⟨_, _, Two.of (taken_sm tk) so, rfl, rfl⟩) (da_one (nm 3))) ⟨_, _, Two.of (minusQ_sm (taken_sm tk) so) sn, rfl, rfl⟩)) ?_
    refine ds_skip (DW.dt (dw_or (dt_val (call (c_under T) (hr.mono (by decide)) (da_cons (nm 3) (da_one (g_NOU T))) ⟨_, _, Two.of sn q00_sm, rfl, rfl⟩)) fun _ => dw_or1 (dt_val (call (c_under T) (hr.mono (by decide)) (da_cons (g_ON T) (da_one (nm 4))) ⟨_, _, Two.of (n := 1) ⟨by decide, by decide, by decide⟩ (plusQ_sm (minusQ_sm (taken_sm tk) so) sn), rfl, rfl⟩)))) ?_ ?_
    · rw [u1, u2]
      rfl
    refine ds_setRow T tk.f hol (nm 3) (nm 1) (nm 2) ?_
    exact ds_nil ⟨rfl, rfl⟩
def S_put_sky (h : HoldM) (ds : List D) (h' : HoldM) (d : D) : Prop := ∃ (r : Nat) (s : Q × Q × Q), PutOk h r (h.sk r).1 s.1 ∧ Sm 100 s.2.1 ∧ Sm 100 s.2.2 ∧ underQ s.2.2 s.2.1 = false ∧ ds = [nI r, eQ s.1, eQ s.2.1, eQ s.2.2] ∧ h' = putSky h r s ∧ d = .non
theorem c_put_sky (T : Prg K mg) : Met P w K mg base 5 (CH K) "put_sky" ["self", "room", "share", "low", "high"] [] (spG K S_put_sky) := by
  obtain ⟨fd, F⟩ := F_Hold_put_sky T
  refine mkMG F (m_Hold_put_sky T) sc_Hold_put_sky (F.bindsN fun _ _ _ _ _ _ us hl => match us, hl with | [_, _, _, _, _], _ => rfl) (fun h ds h' d hs => ?_) fun cdv A outer s H E h a ds h' d hr hs => ?_
  · obtain ⟨_, _, _, _, _, _, rfl, _, _⟩ := hs
    rfl
  · obtain ⟨r, s, ⟨hi, tk, so, sn, u1, u2⟩, sl, sh', u3, rfl, rfl, rfl⟩ := hs
    have nd := sc_Hold_put_sky.nd
    refine ds_expr (de_v (de_meth (nm 0) (cl_Hold T) (c_ask_room T) (hr.mono (by decide)) rfl (da_one (nm 1)) ⟨h, r, hi, rfl, rfl⟩)) ?_
    refine ds_skip (dt_val (call (c_under T) (hr.mono (by decide)) (da_cons (nm 4) (da_one (nm 3))) ⟨_, _, Two.of sh' sl, rfl, rfl⟩)) u3 ?_
    refine asg 5 nd (d := eQ (plusQ (minusQ (takenQ h r) (h.sk r).1) s.1)) (de_v (call (c_plus T) (hr.mono (by decide)) (da_cons (call (c_minus T) (hr.mono (by decide)) (da_cons (de_meth (nm 0) (cl_Hold T) (c_taken T) hr rfl (da_one (nm 1)) ⟨h, r, tk, rfl, rfl⟩) (da_one (de_ixT (de_ixL (f_skies T (nm 0)) (nm 1) (at_map sky0 tk.s)) de_int (sky_0 _)))) ⟨_, _, Two.of (taken_sm tk) so, rfl, rfl⟩) (da_one (nm 2))) ⟨_, _, Two.of (minusQ_sm (taken_sm tk) so) sn, rfl, rfl⟩)) ?_
    refine ds_skip (DW.dt (dw_or (dt_val (call (c_under T) (hr.mono (by decide)) (da_cons (nm 2) (da_one (g_NOU T))) ⟨_, _, Two.of sn q00_sm, rfl, rfl⟩)) fun _ => dw_or1 (dt_val (call (c_under T) (hr.mono (by decide)) (da_cons (g_ON T) (da_one (nm 5))) ⟨_, _, Two.of (n := 1) ⟨by decide, by decide, by decide⟩ (plusQ_sm (minusQ_sm (taken_sm tk) so) sn), rfl, rfl⟩)))) ?_ ?_
    · rw [u1, u2]
      rfl
    refine ds_setF T (set_skies (q := s) tk.s) (na_Hold_my_skies T) (de_tup (da_cons (nm 2) (da_cons (nm 3) (da_one (nm 4))))) (nm 1) ?_
    exact ds_nil ⟨rfl, rfl⟩
def S_put_stove (h : HoldM) (ds : List D) (h' : HoldM) (d : D) : Prop := ∃ (r : Nat) (s : Stv), r < h.many ∧ r < h.stoves.length ∧ Sm 100 s.heat ∧ underQ s.heat q00 = false ∧ s.wood ≤ 9 ∧ s.stay ≤ 3 ∧ s.fails ≤ 3 ∧ ds = [nI r, eQ s.heat, nI s.wood, nI s.stay, nI s.fails] ∧ h' = putStove h r s ∧ d = .non
theorem c_put_stove (T : Prg K mg) : Met P w K mg base 2 (CH K) "put_stove" ["self", "room", "heat", "wood", "stay", "fails"] [] (spG K S_put_stove) := by
  obtain ⟨fd, F⟩ := F_Hold_put_stove T
  refine mkMG F (m_Hold_put_stove T) sc_Hold_put_stove ?_ (fun h ds h' d hs => ?_) fun cdv A outer s H E h a ds h' d hr hs => ?_
  · obtain ⟨ds, h1, h2⟩ := F.binds1 (ps := ["self", "room", "heat", "wood", "stay", "fails"]) 6 3 (fun z => nomatch z) rfl fun T kV doc pm an cdv ct us its hu hi => match us, its, hu, hi with | [_, _, _, _, _, _], [_, _, _], _, _ => ⟨_, rfl, rfl⟩
    cases h1
    exact h2
  · obtain ⟨_, _, _, _, _, _, _, _, _, rfl, _, _⟩ := hs
    rfl
  · obtain ⟨r, s, hi, ht, sh', u1, w1, w2, w3, rfl, rfl, rfl⟩ := hs
    have nd := sc_Hold_put_stove.nd
    refine ds_expr (de_v (de_meth (nm 0) (cl_Hold T) (c_ask_room T) hr rfl (da_one (nm 1)) ⟨h, r, hi, rfl, rfl⟩)) ?_
    refine ds_skip (DW.dt (dw_or (dt_val (call (c_under T) hr (da_cons (nm 2) (da_one (g_NOU T))) ⟨_, _, Two.of sh' q00_sm, rfl, rfl⟩)) fun _ => dw_or (dt_not (dt_val (call (c_is_bound T) hr (da_cons (nm 3) (da_one (de_is (d := nI 9) de_int rfl))) ⟨s.wood, 9, w1, rfl, rfl⟩))) fun _ => dw_or (dt_not (dt_val (call (c_is_bound T) hr (da_cons (nm 4) (da_one (de_is (d := nI 3) de_int rfl))) ⟨s.stay, 3, w2, rfl, rfl⟩))) fun _ => dw_or1 (dt_not (dt_val (call (c_is_bound T) hr (da_cons (nm 5) (da_one (de_is (d := nI 3) de_int rfl))) ⟨s.fails, 3, w3, rfl, rfl⟩))))) ?_ ?_
    · rw [u1]
      rfl
    refine ds_setF T (set_stoves (q := some s) ht) (na_Hold_my_stoves T) (de_tup (da_cons (nm 2) (da_cons (nm 3) (da_cons (nm 4) (da_one (nm 5)))))) (nm 1) ?_
    exact ds_nil ⟨rfl, rfl⟩
end
end SK
set_option maxRecDepth 100000
set_option maxHeartbeats 4000000
namespace SK
open PySem L2 PyProof.Rows
def newHold (n c l : Nat) : HoldM := ⟨n, c, l, [], [], [], []⟩
def ini (C a0 : Addr) (fs : List (Str × V)) (L : List (Addr × HO)) : Memo where
  ok := fun B H H1 a => a = a0 ∧ ∃ dx, OwnL B H H1 ((a0, .ins C dx fs) :: L)
  step := fun ⟨e, dx, w⟩ s => ⟨e, dx, w.step s⟩
  jl := true
  put := fun z => by cases z
  see := fun z => by cases z
section
variable {X : Cx} {ρ : Rho} {e : Expr} {es : List Expr} {d : D} {ds : List D} {h h' : HoldM} {C a : Addr} {st body : List Stmt} {M : Fin} {pos p px py apos cpos : Pos} {x y m : Str} {mg : Str → Option Value} {fs : List (Str × V)} {L : List (Addr × HO)} {k : Nat}
theorem ds_fldV {F : Str} {n : Int} (hC : Cls X.K C) (na : NoAttr X.K C F) (he : DE X (some (.mem (ini C a fs L)) :: ρ) e (.int n)) (hl : fs.length < 1000) (rest : DS X (some (.mem (ini C a (putF F (.int n) fs) L)) :: ρ) st M) (hm : noMem ρ = true := by rfl) (hN : X.N[0]? = some x := by rfl)
    (hv : Vis X.env.scope x := by first | exact Or.inl rfl | exact Or.inr (Or.inl rfl) | exact Or.inr (Or.inr rfl))
    (hps : PS X (.Assign [.Attribute (.Name x px) F apos] e pos) (sFld X.K (tVar 0) (teOf X e) F) := by exact ps_fld (pv _) pe_of (by rfl)) : DS X (some (.mem (ini C a fs L)) :: ρ) (.Assign [.Attribute (.Name x px) F apos] e pos :: st) M := fun A B σ H H1 E t f => ts_cons hps (he A B σ H H1 _ t fun v G H2 s r => by
  cases r
  have t2 := t.step s
  obtain ⟨a', ea, rfl, dx, w⟩ := t2.me 0 _ rfl
  obtain ⟨g1, g2, g3⟩ := w.at_ (i := 0) rfl
  refine ⟨_, ea, _, C, dx, fs, rfl, g1, hC, na, hl, ?_⟩
  exact rest A B σ G _ E (t2.mut hm rfl ea g2 g3 ⟨rfl, dx, w.put (i := 0) rfl⟩) (f.mono s.s1))
theorem ds_fldL {F : Str} (hC : Cls X.K C) (na : NoAttr X.K C F) (he : DO X (some (.mem (ini C a fs L)) :: ρ) e []) (hl : fs.length < 1000) (rest : ∀ q, DS X (some (.mem (ini C a (putF F (.ref q) fs) (L ++ [(q, .lst [])]))) :: ρ) st M) (hm : noMem ρ = true := by rfl) (hN : X.N[0]? = some x := by rfl)
    (hv : Vis X.env.scope x := by first | exact Or.inl rfl | exact Or.inr (Or.inl rfl) | exact Or.inr (Or.inr rfl))
    (hps : PS X (.Assign [.Attribute (.Name x px) F apos] e pos) (sFld X.K (tVar 0) (teOf X e) F) := by exact ps_fld (pv _) pe_of (by rfl)) : DS X (some (.mem (ini C a fs L)) :: ρ) (.Assign [.Attribute (.Name x px) F apos] e pos :: st) M := fun A B σ H H1 E t f => ts_cons hps (he A B σ H H1 _ t fun q us G H2 s n g h2 r => by
  cases r
  have t2 := t.step s
  obtain ⟨a', ea, rfl, dx, w⟩ := t.me 0 _ rfl
  have w2 := w.step s
  obtain ⟨g1, g2, g3⟩ := w2.at_ (i := 0) rfl
  refine ⟨_, ea, _, C, dx, fs, rfl, g1, hC, na, hl, ?_⟩
  have nq : ∀ x ∈ (a', HO.ins C dx fs) :: L, x.1 ≠ q := fun x hx z => by
    have := (w.2 x hx).1
    rw [z, n] at this
    cases this
  exact rest q A B σ G _ E (t2.mut hm rfl ea g2 g3 ⟨rfl, dx, (w2.more nq h2 g (t.bn.free n)).put (i := 0) rfl⟩) (f.mono s.s1))
/-- a slot whose memo is another from now on; no other slot holds one -/
theorem At.swapAt {K : PySem.W.Frag} {A B A' B' G H H1 H2 : Hp} {σ : L2.St} (i : Nat) (t : At K A B ρ σ H H1) (hm : noMem (ρ.set i none) = true) (ho : noOwn (ρ.set i none) = true) (l : Lt A' B' G H2) (e : Same H G) (b : Bd) (hb : freeB_ (some b) = true)
    (h0 : match b with | .val d => ∃ v, σ[i]? = some (some v) ∧ Rep K G d v | .own _ => False | .mem M' => ∃ a, σ[i]? = some (some (.ref a)) ∧ M'.ok B' G H2 a) : At K A' B' (ρ.set i (some b)) σ G H2 := by
  have key : ∀ (j : Nat) (b' : Bd), i ≠ j → ρ[j]? = some (some b') → (ρ.set i none)[j]? = some (some b') := fun j b' n q => by
    rw [List.getElem?_set_ne n]
    exact q
  have dead : ∀ (j : Nat) (ds : List D), i ≠ j → ρ[j]? = some (some (.own ds)) → False := fun j ds n q => by
    have := all_at (i := j) ho (key j _ n q)
    cases this
  exact {
    toLt := l
    sl := fun j d hj => by
      rcases rho_set hj with ⟨e1, e2, _⟩ | ⟨e1, e2⟩
      · subst e1
        cases e2
        exact h0
      · obtain ⟨v, e3, r⟩ := t.sl j d e2
        exact ⟨v, e3, r.mono e⟩
    ow := fun j ds hj => by
      rcases rho_set hj with ⟨e1, e2, _⟩ | ⟨e1, e2⟩
      · subst e1
        cases e2
        exact h0.elim
      · exact (dead j ds e1 e2).elim
    me := fun j M' hj => by
      rcases rho_set hj with ⟨e1, e2, _⟩ | ⟨e1, e2⟩
      · subst e1
        cases e2
        exact h0
      · have := all_at (i := j) hm (key j _ e1 e2)
        cases this
    ne := fun j j' ds ds' n hj hj' => by
      rcases rho_set hj with ⟨e1, e2, _⟩ | ⟨e1, e2⟩
      · cases e2
        exact h0.elim
      · exact (dead j ds e1 e2).elim
    jo := .inr (by
      have : ρ.set i (some b) = (ρ.set i none).set i (some b) := (List.set_set ..).symm
      unfold noOwn
      rw [this]
      exact all_set ho hb)
    ln := by rw [List.length_set]; exact t.ln }
theorem HAt.anchor {K : PySem.W.Frag} {B B' H H1 : Hp} {dx mm mf ms mt : Addr} {vm : List V} {rs : List (Addr × List V)} {vs vt : List V} (w : HAt K h B H H1 a dx mm mf ms mt vm rs vs vt) (hb : ∀ p, B p = none → B' p = none) : HAt K h B' H H1 a dx mm mf ms mt vm rs vs vt :=
  ⟨⟨w.ow.1, fun x hx => let ⟨a1, a2, a3⟩ := w.ow.2 x hx; ⟨a1, a2, hb _ a3⟩⟩, w.rm, w.rr, w.rk, w.rt⟩
/-- hold.put(..) -/
theorem ds_callG (i : Nat) {S : HoldM → List D → HoldM → D → Prop} {pl : Sem Bool} {ps : List Str} {n0 : Str} (T : Prg X.K mg) (c : Met X.prog X.w X.K X.mg X.base k (CH X.K) m (n0 :: ps) [] (spG X.K S)) (hr : Room k X.A) (ha : DA X ρ (e :: es) ds) (hS : S h ds h' d) (rest : DS X (ρ.set i (some (.mem (hld X.K h' a)))) st M) (hi : ρ[i]? = some (some (.mem (hld X.K h a))) := by rfl)
    (hm : noMem (ρ.set i none) = true := by rfl) (hl : (["most", "cap", "load", "my_marks", "my_flows", "my_skies", "my_stoves"] : List Str).contains m = false := by decide +kernel) (hN : X.N[i]? = some x := by rfl) (hv : Vis X.env.scope x := by first | exact Or.inl rfl | exact Or.inr (Or.inl rfl) | exact Or.inr (Or.inr rfl)) (hd : (x == ("__debug__" : Str)) = false := by decide) (hcd : (x == ("__classdict__" : Str)) = false := by decide)
    (hst : starEach (e :: es) X.env = (false, eval e X.env) :: starEach es X.env := by rfl) (hpl : (backTo cpos (starEach es X.env)).any (·.1) = false := by rfl)
    (ht : eval (.Call (.Attribute (.Name x p) m apos) (e :: es) [] cpos) X.env = (do
      let ov ← eval (.Name x p) X.env
      standAt apos.atName
      let (f, first) ← holding [ov] (getMethod ov m pl)
      callWith cpos f first (backTo cpos (starEach (e :: es) X.env)) (backToKw cpos (keywordEach [] X.env))) := by rfl) (hs : swapsWith (.Call (.Attribute (.Name x p) m apos) (e :: es) [] cpos) none pos.line X.env = pure false := by rfl) : DS X ρ (.Expr (.Call (.Attribute (.Name x p) m apos) (e :: es) [] cpos) pos :: st) M := by
  obtain ⟨f, fd, vds, hme, hb, hvv, F⟩ := c.ex
  refine fun A B σ H H1 E t f => ts_cons (ps_expr (pe_meth (pe_var hN hv hd hcd) (cl_Hold T) hme F hr hb hvv pass0 pa_of hst hpl ht) hs) ?_
  have hno : noOwn (ρ.set i none) = true := by
    have := t.jo
    rcases this with q | q
    · have := all_at (i := i) q hi
      cases this
    · exact all_set q rfl
  obtain ⟨a', ea, rfl, dx, mm, mf, ms, mt, vm, rs, vs, vt, w⟩ := t.me i _ hi
  have hlk : ([("most", V.int h.most), ("cap", V.int h.cap), ("load", V.int h.load), ("my_marks", V.ref mm), ("my_flows", V.ref mf), ("my_skies", V.ref ms), ("my_stoves", V.ref mt)] : List (Str × V)).lookup m = none := by
    simp only [List.contains_cons, List.contains_nil, Bool.or_eq_false_iff] at hl
    obtain ⟨l1, l2, l3, l4, l5, l6, l7, _⟩ := hl
    simp only [List.lookup_cons, l1, l2, l3, l4, l5, l6, l7, List.lookup_nil]
  refine ⟨_, ea, _, dx, _, rfl, (w.ow.at_ (i := 0) rfl).1, hlk, ha A B σ H H1 _ t fun us G H2 s r => ?_⟩
  have t2 := t.step s
  have w2 := w.step s
  refine ⟨h, a', us, ds, h', d, cut (LH X.K h a' dx mm mf ms mt vm rs vs vt) H2, G, by rw [List.append_nil], s.s2, fun x o q => (cut_le q).1, ⟨rfl, dx, mm, mf, ms, mt, vm, rs, vs, vt, ⟨⟨w2.ow.1, fun x hx => ⟨(w2.ow.2 x hx).1, (w2.ow.2 x hx).2.1, cut_in hx⟩⟩, w2.rm, w2.rr, w2.rk, w2.rt⟩⟩, r, hS, fun v G3 H3 g1 g2 g3 g4 ok _ => ?_⟩
  have bk : ∀ q, cut (LH X.K h a' dx mm mf ms mt vm rs vs vt) H2 q = none → B q = none := fun q z => by
    by_cases hq : ∃ y ∈ LH X.K h a' dx mm mf ms mt vm rs vs vt, y.1 = q
    · obtain ⟨y, hy, rfl⟩ := hq
      exact (w.ow.2 y hy).2.2
    · rw [cut_out fun y hy z => hq ⟨y, hy, z⟩] at z
      exact t2.bn.free z
  obtain ⟨_, dx', mm', mf', ms', mt', vm', rs', vs', vt', w3⟩ := ok
  have sb : Same B H3 := fun x o q => by
    refine g3 x o ?_
    rw [cut_out]
    · exact t2.bn x o q
    · intro y hy z
      have := (w.ow.2 y hy).2.2
      rw [z, q] at this
      cases this
  have l : Lt A B G3 H3 := ⟨g2, t2.an.trans g1, sb, fun x o q => (g4 x o q).elim (t2.nw x o) fun z => .inr (bk x z)⟩
  exact rest A B σ G3 H3 E (t2.swapAt i hm hno l g1 (.mem (hld X.K h' a')) rfl ⟨a', ea, rfl, dx', mm', mf', ms', mt', vm', rs', vs', vt', w3.anchor bk⟩) (f.mono (s.s1.trans g1))
/-- the hold is a value from now on -/
theorem frzH (i : Nat) (rest : DS X (ρ.set i (some (.val (eH X.K h)))) st M) (hi : ρ[i]? = some (some (.mem (hld X.K h a))) := by rfl) (hm : noMem (ρ.set i none) = true := by rfl) : DS X ρ st M := fun A B σ H H1 E t f => by
  have hno : noOwn (ρ.set i none) = true := by
    rcases t.jo with q | q
    · have := all_at (i := i) q hi
      cases this
    · exact all_set q rfl
  obtain ⟨a', ea, rfl, dx, mm, mf, ms, mt, vm, rs, vs, vt, w⟩ := t.me i _ hi
  exact rest A B σ _ H1 E (t.swapAt i hm hno ⟨ovl_up w.ow t.up, t.an.trans (ovl_same w.ow), t.bn, fun x o q => (ovl_nw w.ow q).elim (t.nw x o) .inr⟩ (ovl_same w.ow) (.val (eH X.K h)) rfl ⟨_, ea, w.rep⟩) (f.mono (ovl_same w.ow))
theorem At.memo {K : PySem.W.Frag} {A B H H1 : Hp} {σ : L2.St} {Mm : Memo} (t : At K A B ρ σ H H1) (i : Nat) (m : Mm.ok B H H1 a) (ho : noOwn ρ = true) (hm : noMem (ρ.set i none) = true) : At K A B (ρ.set i (some (.mem Mm))) (σ.set i (some (.ref a))) H H1 := by
  by_cases hl : i < ρ.length
  · have t2 := t.drop i (some (.ref a))
    have := t2.swapAt i (by rw [List.set_set]; exact hm) (by rw [List.set_set]; exact all_set ho rfl) t2.toLt (Same.refl _) (.mem Mm) rfl ⟨a, List.getElem?_set_self (by rw [t.ln]; exact hl), m⟩
    rw [List.set_set] at this
    exact this
  · have e1 : ρ.set i (some (.mem Mm)) = ρ := List.set_eq_of_length_le (by omega)
    have e2 : σ.set i (some (.ref a)) = σ := List.set_eq_of_length_le (by rw [t.ln]; omega)
    rw [e1, e2]
    exact t
end
/-! ### Hold.__init__ -/
def spI (K : PySem.W.Frag) : Sp := fun vs H1 Q _ => ∃ (a dx : Addr) (n c l : Nat) (B H : Hp), n ≤ 4 ∧ c ≤ 30 ∧ l ≤ 30 ∧ vs = [.ref a, .int n, .int c, .int l] ∧ H1 a = some (.ins (CH K) dx []) ∧ Same H H1 ∧ H a = none ∧ Same B H1 ∧ B a = none ∧
  ∀ G H2, Same H G → Same G H2 → Same B H2 → (∀ x o, G x = some o → H x = some o ∨ B x = none) → (hld K (newHold n c l) a).ok B G H2 a → Q .non H2
section
variable {P : Program} {w : World} {K : PySem.W.Frag} {mg : Str → Option Value} {base : Heap}
theorem f_init (T : Prg K mg) : ∃ fd, FnOk P w K mg base CX0 2 (He.ma K (CH K) "__init__") fd ["self", "most", "cap", "load"] (spI K) ∧ Binds K fd ["self", "most", "cap", "load"] [] := by
  obtain ⟨fd, F⟩ := F_Hold_init T
  refine ⟨fd, F.ok sc_Hold_init (fun vs H Q E h => ?_) (fun cdv A outer s H vs Q E hr h => ?_), ?_⟩
  · obtain ⟨a, dx, n, c, l, B, H, _, _, _, rfl, _⟩ := h
    rfl
  · obtain ⟨a, dx, n, c, l, B, Hv, h1, h2, h3, rfl, ha, e, h0, eb, hb, q⟩ := h
    refine ⟨_, PSs.nox (pss_of (X := cx P w K mg base n_Hold_init "Hold.__init__" (defScope s_Hold_init) (He.ma K (CH K) "__init__") cdv A outer s H E)), ?_⟩
    have ow : OwnL B Hv H [(a, .ins (CH K) dx [])] := ⟨by simp, fun x hx => by
      obtain rfl := List.mem_singleton.mp hx
      exact ⟨ha, h0, hb⟩⟩
    have t := at_memo (K := K) (N := ["most", "cap", "load"]) (M := ini (CH K) a [] []) (ds := [nI n, nI c, nI l]) (ws := [.int n, .int c, .int l]) e eb (.cons .int (.cons .int (.cons .int .nil))) ⟨rfl, dx, ow⟩
    have body : DS (cx P w K mg base n_Hold_init "Hold.__init__" (defScope s_Hold_init) (He.ma K (CH K) "__init__") cdv A outer s H E) (some (.mem (ini (CH K) a [] [])) :: rho0 ["most", "cap", "load"] [nI n, nI c, nI l]) (defBody s_Hold_init)
        ⟨fun ρ => ∃ mm mf ms mt, ρ[0]? = some (some (.mem (ini (CH K) a [("most", .int n), ("cap", .int c), ("load", .int l), ("my_marks", .ref mm), ("my_flows", .ref mf), ("my_skies", .ref ms), ("my_stoves", .ref mt)] [(mm, .lst []), (mf, .lst []), (ms, .lst []), (mt, .lst [])]))), fun _ => False, fun _ => False⟩ := by
      refine ds_skip (DW.dt (dw_or (dt_not (dt_val (call (c_is_bound T) hr (da_cons (nm 1) (da_one (de_is (d := nI 4) de_int rfl))) ⟨n, 4, h1, rfl, rfl⟩))) fun _ => dw_or (dt_not (dt_val (call (c_is_bound T) hr (da_cons (nm 2) (da_one (de_is (d := nI 30) de_int rfl))) ⟨c, 30, h2, rfl, rfl⟩))) fun _ => dw_or1 (dt_not (dt_val (call (c_is_bound T) hr (da_cons (nm 3) (da_one (de_is (d := nI 30) de_int rfl))) ⟨l, 30, h3, rfl, rfl⟩))))) rfl ?_
      refine ds_fldV (cl_Hold T) (na_Hold_most T) (nm 1) (by decide) ?_
      refine ds_fldV (cl_Hold T) (na_Hold_cap T) (nm 2) (Nat.lt_of_le_of_lt (Nat.le_of_ble_eq_true rfl) (show 7 < 1000 by decide)) ?_
      refine ds_fldV (cl_Hold T) (na_Hold_load T) (nm 3) (Nat.lt_of_le_of_lt (Nat.le_of_ble_eq_true rfl) (show 7 < 1000 by decide)) ?_
      refine ds_fldL (cl_Hold T) (na_Hold_my_marks T) (do_lst da_nil) (Nat.lt_of_le_of_lt (Nat.le_of_ble_eq_true rfl) (show 7 < 1000 by decide)) fun mm => ?_
      refine ds_fldL (cl_Hold T) (na_Hold_my_flows T) (do_lst da_nil) (Nat.lt_of_le_of_lt (Nat.le_of_ble_eq_true rfl) (show 7 < 1000 by decide)) fun mf => ?_
      refine ds_fldL (cl_Hold T) (na_Hold_my_skies T) (do_lst da_nil) (Nat.lt_of_le_of_lt (Nat.le_of_ble_eq_true rfl) (show 7 < 1000 by decide)) fun ms => ?_
      refine ds_fldL (cl_Hold T) (na_Hold_my_stoves T) (do_lst da_nil) (Nat.lt_of_le_of_lt (Nat.le_of_ble_eq_true rfl) (show 7 < 1000 by decide)) fun mt => ?_
      exact ds_nil ⟨mm, mf, ms, mt, rfl⟩
    refine body Hv B _ Hv H _ t ⟨fun ρ σ G H2 z b c' => ?_, fun d' v ρ σ G H2 z => z.elim⟩
    obtain ⟨mm, mf, ms, mt, z⟩ := z
    obtain ⟨a', ea, rfl, dx', w'⟩ := b.me 0 _ z
    exact q G H2 c' b.up b.bn (fun x o z => b.nw x o z) ⟨rfl, dx', mm, mf, ms, mt, [], [], [], [], ⟨w', .nil, ⟨rfl, fun i row hi => by simp [newHold] at hi⟩, .nil, .nil⟩⟩
  · obtain ⟨ds, h1, h2⟩ := F.binds1 (ps := ["self", "most", "cap", "load"]) 4 3 (fun z => nomatch z) rfl fun T kV doc pm an cdv ct us its hu hi => match us, its, hu, hi with | [_, _, _, _], [_, _, _], _, _ => ⟨_, rfl, rfl⟩
    cases h1
    exact h2
end
section
variable {X : Cx} {ρ : Rho} {e : Expr} {es : List Expr} {st : List Stmt} {M : Fin} {pos p cp cpos : Pos} {x : Str}
/-- x = Hold(most, cap, load) -/
theorem ds_newH (i : Nat) {n c l : Nat} (T : Prg X.K X.mg) (nd : X.N.Nodup) (hr : Room 3 X.A) (ha : DA X ρ (e :: es) [nI n, nI c, nI l]) (hn : n ≤ 4) (hc : c ≤ 30) (hl : l ≤ 30) (rest : ∀ a, DS X (ρ.set i (some (.mem (hld X.K (newHold n c l) a)))) st M) (hm : noMem (ρ.set i none) = true := by rfl) (ho : noOwn ρ = true := by rfl)
    (hi : X.N[i]? = some x := by rfl) (hx : Loc X.env.scope x := by first | exact Or.inl rfl | exact Or.inr rfl) (hg : Gl X "Hold" := by rfl)
    (hs : swapsWith (.Call (.Name "Hold" cp) (e :: es) [] cpos) (some (.Name x p)) pos.line X.env = pure false := by rfl) (hf : X.fn x = true ∨ X.env.scope.names.lookup x = some .local := by first | exact .inl rfl | exact .inr rfl)
    (hst : starEach (e :: es) X.env = (false, eval e X.env) :: starEach es X.env := by rfl) (hpl : (backTo cpos (starEach es X.env)).any (·.1) = false := by rfl) : DS X ρ (.Assign [.Name x p] (.Call (.Name "Hold" cp) (e :: es) [] cpos) pos :: st) M := by
  obtain ⟨fd, F, hb⟩ := f_init (P := X.prog) (w := X.w) (base := X.base) T
  refine fun A B σ H H1 E t f => ts_cons (ps_set nd hi hx (pe_make (mk_Hold T) F hr hg (g_Hold T) hb .nil pass0 pa_of (by decide) hst hpl) hs hf) (ha A B σ H H1 _ t fun vs G H2 s r => ?_)
  intro x dx nx ndx ne
  cases r with
  | cons r1 r =>
  cases r with
  | cons r2 r =>
  cases r with
  | cons r3 r =>
  cases r
  cases r1
  cases r2
  cases r3
  have t2 := t.step s
  have up2 : Same H2 (upd (upd H2 dx (.own x)) x (.ins (CH X.K) dx [])) := (Same.new ndx).trans (Same.new (by rw [upd_ne (Ne.symm ne)]; exact nx))
  refine ⟨x, dx, n, c, l, H2, G, hn, hc, hl, rfl, upd_same, s.s2.trans up2, s.s2.free nx, up2, nx, fun G3 H3 g1 g2 g3 g4 ok => ⟨rfl, ?_⟩⟩
  obtain ⟨_, dx', mm', mf', ms', mt', vm', rs', vs', vt', w3⟩ := ok
  have st2 : Step G H2 G3 H3 := ⟨g1, g2, g3, g4⟩
  exact rest x A B _ G3 H3 E ((t2.step st2).memo i ⟨rfl, dx', mm', mf', ms', mt', vm', rs', vs', vt', w3.anchor fun p z => t2.bn.free z⟩ ho hm) (f.mono (s.s1.trans g1))
end
end SK
set_option maxRecDepth 100000
set_option maxHeartbeats 4000000
namespace SK
open PySem L2 PyProof.Rows
def stepFlow (h g : HoldM) (r o : Nat) : HoldM := if o = r then g else putFlow g r o (shareQ h r o)
def flowsTo (h g : HoldM) (r i : Nat) : HoldM := (List.range i).foldl (fun g o => stepFlow h g r o) g
def withStove (h g : HoldM) (r : Nat) : HoldM := match h.st r with
  | none => g
  | some s => putStove g r s
def stepRoom (h g : HoldM) (r : Nat) : HoldM := withStove h (flowsTo h (putSky g r (h.sk r)) r h.many) r
def roomsTo (h g : HoldM) (i : Nat) : HoldM := (List.range i).foldl (stepRoom h) g
def marksTo (h g : HoldM) (i : Nat) : HoldM := (h.marks.take i).foldl putRoom g
def likeQ (h : HoldM) (n c l : Nat) : HoldM := roomsTo h (marksTo h (newHold n c l) h.many) h.many
structure LikeOk (h : HoldM) (n c l : Nat) : Prop where
  n4 : n ≤ 4
  c30 : c ≤ 30
  l30 : l ≤ 30
  rm : ∀ i m, h.marks[i]? = some m → S_put_room (marksTo h (newHold n c l) i) [eQs m] (putRoom (marksTo h (newHold n c l) i) m) (nI (marksTo h (newHold n c l) i).marks.length)
  sk : ∀ r g, r < h.many → g = roomsTo h (marksTo h (newHold n c l) h.many) r → S_put_sky g [nI r, eQ (h.sk r).1, eQ (h.sk r).2.1, eQ (h.sk r).2.2] (putSky g r (h.sk r)) .non
  fl : ∀ r o g, r < h.many → o < h.many → o ≠ r → g = flowsTo h (putSky (roomsTo h (marksTo h (newHold n c l) h.many) r) r (h.sk r)) r o → S_put_flow g [nI r, nI o, eQ (shareQ h r o)] (putFlow g r o (shareQ h r o)) .non
  st : ∀ r g s, r < h.many → h.st r = some s → g = flowsTo h (putSky (roomsTo h (marksTo h (newHold n c l) h.many) r) r (h.sk r)) r h.many → S_put_stove g [nI r, eQ s.heat, nI s.wood, nI s.stay, nI s.fails] (putStove g r s) .non
def eON : Option Nat → D
  | none => .non
  | some n => nI n
section
variable {P : Program} {w : World} {K : PySem.W.Frag} {mg : Str → Option Value} {base : Heap}
def S_like (K : PySem.W.Frag) (ds : List D) (d : D) : Prop := ∃ (h : HoldM) (n c l : Option Nat), WF h ∧ LikeOk h (n.getD h.most) (c.getD h.cap) (l.getD h.load) ∧ ds = [eH K h, eON n, eON c, eON l] ∧ d = eH K (likeQ h (n.getD h.most) (c.getD h.cap) (l.getD h.load))
theorem f_like (T : Prg K mg) : ∃ fd, FunD K "hold_like" "hold_like" (defArgs s_hold_like) (defBody s_hold_like) (defScope s_hold_like) [V.non, V.non, V.non] [] (He.ga K "hold_like") fd ∧ FnOk P w K mg base CX0 6 (He.ga K "hold_like") fd ["hold", "most", "cap", "load"] (spD K (S_like K)) := by
  obtain ⟨fd, F⟩ := F_hold_like T
  refine ⟨fd, F, okD F sc_hold_like (fun ds d h => ?_) fun cdv A outer s H E ds d hr h => ?_⟩
  · obtain ⟨h, n, c, l, _, _, rfl, rfl⟩ := h
    rfl
  · obtain ⟨h, n, c, l, wf, ok, rfl, rfl⟩ := h
    have nd := sc_hold_like.nd
    refine ifset 1 nd (d0 := eON n) (d := nI (n.getD h.most)) (dt_isN (nm 1) de_non) (fun _ => f_most T (nm 0)) (by cases n <;> rfl) ?_
    refine ifset 2 nd (d0 := eON c) (d := nI (c.getD h.cap)) (dt_isN (nm 2) de_non) (fun _ => f_cap T (nm 0)) (by cases c <;> rfl) ?_
    refine ifset 3 nd (d0 := eON l) (d := nI (l.getD h.load)) (dt_isN (nm 3) de_non) (fun _ => f_load T (nm 0)) (by cases l <;> rfl) ?_
    generalize n.getD h.most = n at ok ⊢
    generalize c.getD h.cap = c at ok ⊢
    generalize l.getD h.load = l at ok ⊢
    refine ds_newH 4 T nd (hr.mono (by decide)) (da_cons (nm 1) (da_cons (nm 2) (da_one (nm 3)))) ok.n4 ok.c30 ok.l30 fun a => ?_
    refine forR 5 nd (b_range T) (de_meth0 (nm 0) (cl_Hold T) (c_many T) (hr.mono (by decide)) rfl ⟨h, rfl, rfl⟩) (small_many wf) (fun i ρ' => ∃ b, ρ' = [some (.val (eH K h)), some (.val (nI n)), some (.val (nI c)), some (.val (nI l)), some (.mem (hld K (marksTo h (newHold n c l) i) a)), (Option.map Bd.val b), none, none, none]) ⟨none, rfl⟩ ?_ ?_
    · rintro i ρ' hi ⟨b, rfl⟩
      have hl : i < h.many := by omega
      have hm : h.marks[i]? = some (h.mk_ i) := by
        unfold HoldM.mk_
        rw [List.getD_eq_getElem?_getD, List.getElem?_eq_getElem hl]
        rfl
      refine ds_callG 4 T (c_put_room T) (hr.mono (by decide)) (da_one (de_meth (nm 0) (cl_Hold T) (c_marks T) (hr.mono (by decide)) rfl (da_one (nm 5)) ⟨h, i, hl, rfl, rfl⟩)) (ok.rm i _ hm) (ds_nil ⟨some (nI i), ?_⟩)
      have e1 : marksTo h (newHold n c l) (i + 1) = putRoom (marksTo h (newHold n c l) i) (h.mk_ i) := by
        unfold marksTo
        rw [take_next hm, List.foldl_append]
        rfl
      rw [e1]
      rfl
    · rintro ρ' ⟨b, rfl⟩
      rw [Int.toNat_natCast]
      refine forR 5 nd (b_range T) (de_meth0 (nm 0) (cl_Hold T) (c_many T) (hr.mono (by decide)) rfl ⟨h, rfl, rfl⟩) (small_many wf) (fun i ρ' => ∃ b b1 b2 b3, ρ' = [some (.val (eH K h)), some (.val (nI n)), some (.val (nI c)), some (.val (nI l)), some (.mem (hld K (roomsTo h (marksTo h (newHold n c l) h.many) i) a)), (Option.map Bd.val b), (Option.map Bd.val b1), (Option.map Bd.val b2), (Option.map Bd.val b3)]) ⟨b, none, none, none, rfl⟩ ?_ ?_
      · rintro r ρ' hr' ⟨b, b1, b2, b3, rfl⟩
        have hl : r < h.many := by omega
        refine asg 6 nd (de_meth (nm 0) (cl_Hold T) (c_sky T) (hr.mono (by decide)) rfl (da_one (nm 5)) ⟨h, r, hl, by rw [wf.sk]; exact hl, rfl, rfl⟩) ?_
        refine ds_callG 4 T (c_put_sky T) hr (da_cons (nm 5) (da_cons (de_ixT (nm 6) de_int (sky_0 _)) (da_cons (de_ixT (nm 6) de_int (sky_1 _)) (da_one (de_ixT (nm 6) de_int (sky_2 _)))))) (ok.sk r _ hl rfl) ?_
          (hm := by cases b2 <;> cases b3 <;> rfl)
        refine forR 7 nd (b_range T) (de_meth0 (nm 0) (cl_Hold T) (c_many T) (hr.mono (by decide)) rfl ⟨h, rfl, rfl⟩) (small_many wf) (fun i ρ' => ∃ b2, ρ' = [some (.val (eH K h)), some (.val (nI n)), some (.val (nI c)), some (.val (nI l)), some (.mem (hld K (flowsTo h (putSky (roomsTo h (marksTo h (newHold n c l) h.many) r) r (h.sk r)) r i) a)), some (.val (nI r)), some (.val (eSky (h.sk r))), (Option.map Bd.val b2), (Option.map Bd.val b3)]) ⟨b2, rfl⟩ ?_ ?_
        · rintro o ρ' ho ⟨b2, rfl⟩
          have hol : o < h.many := by omega
          have e1 : flowsTo h (putSky (roomsTo h (marksTo h (newHold n c l) h.many) r) r (h.sk r)) r (o + 1) = stepFlow h (flowsTo h (putSky (roomsTo h (marksTo h (newHold n c l) h.many) r) r (h.sk r)) r o) r o := by
            unfold flowsTo
            rw [List.range_succ, List.foldl_append]
            rfl
          refine ds_if (dt_ne (nm 7) (nm 5)) (fun hb => ?_) fun hb => ds_nil (ds_nil ⟨some (nI o), ?_⟩)
          · have hne : o ≠ r := by
              intro z
              subst z
              simp at hb
            refine ds_callG 4 T (c_put_flow T) hr (da_cons (nm 5) (da_cons (nm 7) (da_one (de_meth (nm 0) (cl_Hold T) (c_share T) hr rfl (da_cons (nm 5) (da_one (nm 7))) ⟨h, r, o, hl, hol, wf.tk hl, by rw [wf.flr r hl]; exact hol, rfl, rfl⟩)))) (ok.fl r o _ hl hol hne rfl) (ds_nil (ds_nil ⟨some (nI o), ?_⟩))
              (hm := by cases b3 <;> rfl)
            rw [e1, stepFlow, if_neg hne]
            rfl
          · have heq : o = r := by
              have : decide ((o : Int) = (r : Int)) = true := by simpa using hb
              have := of_decide_eq_true this
              omega
            rw [e1, stepFlow, if_pos heq]
            rfl
        · rintro ρ' ⟨b2, rfl⟩
          rw [Int.toNat_natCast]
          have e1 : roomsTo h (marksTo h (newHold n c l) h.many) (r + 1) = stepRoom h (roomsTo h (marksTo h (newHold n c l) h.many) r) r := by
            unfold roomsTo
            rw [List.range_succ, List.foldl_append]
            rfl
          refine asg 8 nd (de_meth (nm 0) (cl_Hold T) (c_stove T) (hr.mono (by decide)) rfl (da_one (nm 5)) ⟨h, r, hl, by rw [wf.st]; exact hl, rfl, rfl⟩) ?_
          cases es : h.st r with
          | none =>
            refine ds_skip (dt_notN (nm 8) de_non) rfl (ds_nil ⟨some (nI r), some (eSky (h.sk r)), b2, some .non, ?_⟩)
            rw [e1, stepRoom, withStove, es]
            rfl
          | some sv =>
            refine ds_take (dt_notN (nm 8) de_non) rfl ?_
            have i0 : ∀ {X : Cx} {ρ : Rho} {e : Expr} {pos p : Pos} {j : Nat} {k : Int} {d : D}, atI [eQ sv.heat, nI sv.wood, nI sv.stay, nI sv.fails] k = some d → DE X ρ e (eStv (some sv)) → PlainIx (.Constant (.int k) j p) → DE X ρ (.Subscript e (.Constant (.int k) j p) pos) d := fun hk a hs => de_ixT a de_int hk hs
            refine ds_callG 4 T (c_put_stove T) (hr.mono (by decide)) (da_cons (nm 5) (da_cons (i0 rfl (nm 8) (by intro _ _; rfl)) (da_cons (i0 rfl (nm 8) (by intro _ _; rfl)) (da_cons (i0 rfl (nm 8) (by intro _ _; rfl)) (da_one (i0 rfl (nm 8) (by intro _ _; rfl))))))) (ok.st r _ sv hl es rfl) (ds_nil (ds_nil ⟨some (nI r), some (eSky (h.sk r)), b2, some (eStv (some sv)), ?_⟩))
              (hm := by cases b2 <;> rfl)
            rw [e1, stepRoom, withStove, es]
            rfl
      · rintro ρ' ⟨b, b1, b2, b3, rfl⟩
        rw [Int.toNat_natCast]
        refine frzH 4 ?_ (hm := by cases b <;> cases b1 <;> cases b2 <;> cases b3 <;> rfl)
        exact ds_ret (nm 4) rfl
end
end SK
set_option maxRecDepth 100000
set_option maxHeartbeats 4000000
/-! The states that are met: a list and a dict that grow together. -/
namespace SK
open PySem L2 PyProof.Rows
abbrev kS_ (s : SM) : NestedKey := keyOf (eS s)
theorem isKey_eN (l : List Nat) : isKey (eN l) = true := areKeys_nats l
theorem isKey_eS (s : SM) : isKey (eS s) = true := by
  show (isKey (eN s.bands) && (true && (isKey (eN s.waits) && (isKey (eN s.failed) && (true && true))))) = true
  rw [isKey_eN, isKey_eN, isKey_eN]
  rfl
theorem depth_eS (s : SM) : (kS_ s).depth ≤ 8 := by
  show max (NestedKey.depthAll (keysOf (s.bands.map nI)) + 1) (max 0 (max (NestedKey.depthAll (keysOf (s.waits.map nI)) + 1) (max (NestedKey.depthAll (keysOf (s.failed.map nI)) + 1) (max 0 0)))) + 1 ≤ 8
  rw [depthAll_nats, depthAll_nats, depthAll_nats]
  decide
theorem kS_inj_ {s t : SM} (e : kS_ s = kS_ t) : s = t := by
  have e0 : NestedKey.tup [.tup (keysOf (s.bands.map nI)), .num (s.burn : Int), .tup (keysOf (s.waits.map nI)), .tup (keysOf (s.failed.map nI)), .num (s.heap : Int)] = NestedKey.tup [.tup (keysOf (t.bands.map nI)), .num (t.burn : Int), .tup (keysOf (t.waits.map nI)), .tup (keysOf (t.failed.map nI)), .num (t.heap : Int)] := e
  simp only [NestedKey.tup.injEq, List.cons.injEq, NestedKey.num.injEq, Int.natCast_inj, and_true] at e0
  obtain ⟨h1, h2, h3, h4, h5⟩ := e0
  have h1 := keysOf_inj h1
  have h3 := keysOf_inj h3
  have h4 := keysOf_inj h4
  cases s
  cases t
  simp_all
def addM (ks l : List SM) : List SM := l.foldl (fun acc x => if x ∈ acc then acc else acc ++ [x]) ks
theorem flat_eS (s : SM) : flat (eS s) = true := by
  have h : ∀ l : List Nat, flat (eN l) = true := fun l => flats_map (fun _ => rfl) l
  show (flat (eN s.bands) && (true && (flat (eN s.waits) && (flat (eN s.failed) && (true && true))))) = true
  rw [h, h, h]
  rfl
def newE (nb : List (SM × Addr)) : NKV := nb.map fun x => (kS_ x.1, x.2, V.non)
def newR (nb : List (SM × Addr)) : List V := nb.map fun x => V.ref x.2
structure AmAt (K : PySem.W.Frag) (P : Program) (w : World) (pr pk : Addr) (rv : List V) (kvs : NKV) (nb : List (SM × Addr)) (B H H1 : Hp) : Prop where
  ow : OwnL B H H1 [(pr, .lst (rv ++ newR nb)), (pk, dN P w pk (kvs ++ newE nb))]
  ko : KOk K H kvs
  rp : ∀ x ∈ nb, Rep K H (eS x.1) (.ref x.2)
theorem KOk.app {K : PySem.W.Frag} {H : Hp} {kvs : NKV} {nb : List (SM × Addr)} (k : KOk K H kvs) (rp : ∀ x ∈ nb, Rep K H (eS x.1) (.ref x.2)) : KOk K H (kvs ++ newE nb) := fun x hx => by
  rcases List.mem_append.mp hx with y | y
  · exact k x y
  · obtain ⟨z, hz, rfl⟩ := List.mem_map.mp y
    exact ⟨eS z.1, rfl, isKey_eS _, depth_eS _, rp z hz⟩
theorem AmAt.step {K : PySem.W.Frag} {P : Program} {w : World} {pr pk : Addr} {rv : List V} {kvs : NKV} {nb : List (SM × Addr)} {B H H1 G H2 : Hp} (m : AmAt K P w pr pk rv kvs nb B H H1) (s : Step H H1 G H2) : AmAt K P w pr pk rv kvs nb B G H2 :=
  ⟨m.ow.step s, m.ko.mono s.s1, fun x hx => (m.rp x hx).mono s.s1⟩
def amM (K : PySem.W.Frag) (P : Program) (w : World) (pr pk : Addr) (rv : List V) (kvs : NKV) (nb : List (SM × Addr)) : Memo where
  ok := fun B H H1 a => a = pr ∧ AmAt K P w pr pk rv kvs nb B H H1
  step := fun ⟨e, m⟩ s => ⟨e, m.step s⟩
  jl := true
  put := fun z => by cases z
  see := fun z => by cases z
theorem nVal_mem_iff {kvs : NKV} {ks : List SM} (e : kvs.map (·.1) = ks.map kS_) (s : SM) : (nVal kvs (kS_ s)).isSome = decide (s ∈ ks) := by
  cases h : nVal kvs (kS_ s) with
  | none =>
    have h2 := nVal_none h
    rw [e] at h2
    have : ¬ s ∈ ks := fun z => h2 (List.mem_map.mpr ⟨s, z, rfl⟩)
    simp [this]
  | some v =>
    obtain ⟨x, hx, e1, _⟩ := nVal_mem h
    have h3 : kS_ s ∈ kvs.map (·.1) := List.mem_map.mpr ⟨x, hx, e1⟩
    rw [e] at h3
    obtain ⟨t, ht, e2⟩ := List.mem_map.mp h3
    have := kS_inj_ e2
    subst this
    simp [ht]
def spA (K : PySem.W.Frag) (P : Program) (w : World) : Sp := fun vs H1 Q _ => ∃ (pr pk : Addr) (v : V) (rv : List V) (kvs : NKV) (ks l : List SM) (B H : Hp), vs = [.ref pr, .ref pk, v, .int 2000] ∧ Same H H1 ∧ Same B H1 ∧ AmAt K P w pr pk rv kvs [] B H H1 ∧ rv.length = ks.length ∧
  kvs.map (·.1) = ks.map kS_ ∧ Rep K H (eSS l) v ∧ (addM ks l).length ≤ 2000 ∧
  ∀ G H2 (nb : List (SM × Addr)), Same H G → Same G H2 → Same B H2 → (∀ x o, G x = some o → H x = some o ∨ B x = none) → AmAt K P w pr pk rv kvs nb B G H2 → addM ks l = ks ++ nb.map (·.1) → Q .non H2
theorem addM_len (ks : List SM) : ∀ (l : List SM), ks.length ≤ (addM ks l).length := fun l => by
  induction l generalizing ks with
  | nil => exact Nat.le_refl _
  | cons x l ih =>
    show _ ≤ (addM (if x ∈ ks then ks else ks ++ [x]) l).length
    refine Nat.le_trans ?_ (ih _)
    split
    · exact Nat.le_refl _
    · rw [List.length_append]; omega
theorem addM_next {ks l : List SM} {i : Nat} {x : SM} (h : l[i]? = some x) : addM ks (l.take (i + 1)) = if x ∈ addM ks (l.take i) then addM ks (l.take i) else addM ks (l.take i) ++ [x] := by
  unfold addM
  rw [take_next h, List.foldl_append]
  rfl
theorem addM_take (ks l : List SM) (i : Nat) : (addM ks (l.take i)).length ≤ (addM ks l).length := by
  conv => rhs; rw [← List.take_append_drop i l]
  unfold addM
  rw [List.foldl_append]
  exact addM_len _ _
section
variable {X : Cx} {ρ : Rho} {A B : Hp} {σ : L2.St} {H H1 : Hp} {st : List Stmt} {M : Fin} {E : Ends} {x : Str} {p p' pos : Pos}
theorem DS.run (h : DS X ρ st M) (t : At X.K A B ρ σ H H1) (f : Fits X.K A B M E H) : tsOf X st E σ H1 := h A B σ H H1 E t f
theorem Lt.put {q : Addr} {o : HO} (l : Lt A B H H1) (h0 : H q = none) (hb : B q = none) : Lt A B H (upd H1 q o) :=
  ⟨fun x u z => by rw [upd_ne (ne_of_none z h0)]; exact l.up x u z, l.an, fun x u z => by rw [upd_ne (ne_of_none z hb)]; exact l.bn x u z, l.nw⟩
/-- len(x), x a list that a memo knows -/
theorem de_lenM {Mm : Memo} {n : Nat} (i : Nat) (hm : X.mg "len" = none) (h : ∀ B H H1 a, Mm.ok B H H1 a → ∃ vs, H1 a = some (.lst vs) ∧ vs.length = n) (hi : ρ[i]? = some (some (.mem Mm)) := by rfl) (hN : X.N[i]? = some x := by rfl) (hv : Vis X.env.scope x := by first | exact Or.inl rfl | exact Or.inr (Or.inl rfl) | exact Or.inr (Or.inr rfl)) (hg : Gl X "len" := by rfl)
    (hs : starEach [.Name x p'] X.env = (false, eval (.Name x p') X.env) :: starEach [] X.env := by rfl) (hd : (x == ("__debug__" : Str)) = false := by decide) (hcd : (x == ("__classdict__" : Str)) = false := by decide) (hpl : (backTo pos (starEach [] X.env)).any (·.1) = false := by rfl) :
    DE X ρ (.Call (.Name "len" p) [.Name x p'] [] pos) (.int n) := fun A B σ H H1 Q t k =>
  te_run (pe_callB call_lenA hg hm PySem.boot_len (pa_cons (pe_var hN hv hd hcd) pa_nil hs) (he := hs) (hpl := hpl)) (by
    obtain ⟨a, ea, m⟩ := t.me i _ hi
    obtain ⟨vs, h1, h2⟩ := h _ _ _ _ m
    refine ⟨_, ea, a, vs, rfl, .inl (SqL.of h1), ?_⟩
    rw [h2]
    exact k _ H H1 (Step.refl t.up) .int)
end
section
variable {P : Program} {w : World} {K : PySem.W.Frag} {mg : Str → Option Value} {base : Heap}
theorem two_ne {B H H1 : Hp} {a b : Addr} {o u : HO} {L : List (Addr × HO)} (w : OwnL B H H1 ((a, o) :: (b, u) :: L)) : a ≠ b := fun z => by
  have := w.1
  rw [List.map_cons, List.map_cons, z] at this
  simp at this
theorem f_add_met (T : Prg K mg) : ∃ fd, FunD K "add_met" "add_met" (defArgs s_add_met) (defBody s_add_met) (defScope s_add_met) [] [] (He.ga K "add_met") fd ∧ FnOk P w K mg base CX0 1 (He.ga K "add_met") fd ["row", "known", "some", "limit"] (spA K P w) := by
  obtain ⟨fd, F⟩ := F_add_met T
  refine ⟨fd, F, F.ok sc_add_met (fun vs H Q E h => ?_) (fun cdv A outer s H vs Q E hr h => ?_)⟩
  · obtain ⟨_, _, _, _, _, _, _, _, _, rfl, _⟩ := h
    rfl
  · obtain ⟨pr, pk, v, rv, kvs, ks, l, B, Hv, rfl, e, eb, m, hl, hk, rs, lim, q⟩ := h
    refine ⟨_, PSs.nox (pss_of (X := cx P w K mg base n_add_met "add_met" (defScope s_add_met) (He.ga K "add_met") cdv A outer s H E)), ?_⟩
    have t := at_memo (K := K) (N := ["known", "some", "limit", "one"]) (M := amM K P w pr pk rv kvs []) (ds := [.adr pk, eSS l, .int 2000]) (ws := [.ref pk, v, .int 2000]) e eb (.cons .adr (.cons rs (.cons .int .nil))) ⟨rfl, m⟩
    have nd := sc_add_met.nd
    have hu := hr.units
    have body : DS (cx P w K mg base n_add_met "add_met" (defScope s_add_met) (He.ga K "add_met") cdv A outer s H E) (some (.mem (amM K P w pr pk rv kvs [])) :: rho0 ["known", "some", "limit", "one"] [.adr pk, eSS l, .int 2000]) (defBody s_add_met)
        ⟨fun ρ => ∃ nb, addM ks l = ks ++ nb.map (·.1) ∧ ρ[0]? = some (some (.mem (amM K P w pr pk rv kvs nb))), fun _ => False, fun _ => False⟩ := by
      refine forL l eS 4 nd (nm 2) (fun i ρ' => ∃ nb b, addM ks (l.take i) = ks ++ nb.map (·.1) ∧ ρ' = [some (.mem (amM K P w pr pk rv kvs nb)), some (.val (.adr pk)), some (.val (eSS l)), some (.val (.int 2000)), b]) ⟨[], none, by simp [addM], rfl⟩ ?_ ?_
      · rintro i x ρ' hi ⟨nb, b, ha, rfl⟩
        have nx := addM_next (ks := ks) hi
        have kk : (kvs ++ newE nb).map (·.1) = (ks ++ nb.map (·.1)).map kS_ := by
          rw [List.map_append, List.map_append, hk, newE, List.map_map, List.map_map]
          rfl
        intro A1 B1 σ H0 H1 EE t ft
        obtain ⟨a0, ea, rfl, m⟩ := t.me 0 _ rfl
        obtain ⟨v1, e1, r1⟩ := t.sl 1 (.adr pk) rfl
        cases r1
        obtain ⟨v4, e4, r4⟩ := t.sl 4 (eS x) rfl
        obtain ⟨kb, rfl⟩ : ∃ kb, v4 = .ref kb := by
          cases r4 with
          | tup _ _ => exact ⟨_, rfl⟩
        have hdi := (m.ow.at_ (i := 1) rfl).1
        have na : NAt K P w H1 pk (kvs ++ newE nb) (eS x) (.ref kb) := ⟨H0, t.up, .inl hdi, m.ko.app m.rp, isKey_eS _, depth_eS _, r4, kb, rfl⟩
        have hlen : (rv ++ newR nb).length = (addM ks (l.take i)).length := by
          rw [ha, List.length_append, List.length_append, newR, List.length_map, List.length_map, hl]
        have hlim := addM_take ks l (i + 1)
        refine ts_cons (ps_if (pt_cmp (pc_nnotin hu (pv 4) (pv 1))) (pss_of) pss_nil) ?_
        refine ⟨_, e4, _, e1, pk, _, eS x, rfl, na, _, rfl, ?_⟩
        rw [nVal_mem_iff kk]
        by_cases hin : x ∈ ks ++ nb.map (·.1)
        · rw [decide_eq_true hin]
          refine ts_nil (ft.nx _ σ H0 H1 ⟨nb, some (.val (eS x)), ?_, rfl⟩ t (Same.refl _))
          rw [nx, ha, if_pos hin]
        · rw [decide_eq_false hin]
          rw [nx, ha, if_neg hin] at hlim
          rw [if_pos (show (!false) = true from rfl)]
          refine DS.run (M := ⟨fun ρ => ∃ kb, ρ = [some (.mem (amM K P w a0 pk rv kvs (nb ++ [(x, kb)]))), some (.val (.adr pk)), some (.val (eSS l)), some (.val (.int 2000)), some (.val (eS x))], fun _ => False, fun _ => False⟩) ?_ t ⟨fun ρ σ G H2 z b c' => ?_, fun d' v ρ σ G H2 z => z.elim⟩
          · refine ds_skip (dt_eq (de_lenM (Mm := amM K P w a0 pk rv kvs nb) (n := (rv ++ newR nb).length) 0 (b_len T) (fun B H H1 a z => ⟨_, (z.1 ▸ (z.2.ow.at_ (i := 0) rfl).1), rfl⟩)) (nm 3)) (decide_eq_false ?_) ?_
            · rw [hlen, ha]
              rw [List.length_append] at hlim
              simp only [List.length_cons, List.length_nil] at hlim
              omega
            intro A2 B2 σ2 G2 H2 E2 t2 f2
            obtain ⟨a2, ea2, rfl, m2⟩ := t2.me 0 _ rfl
            obtain ⟨v1, e12, r1⟩ := t2.sl 1 (.adr pk) rfl
            cases r1
            obtain ⟨v42, e42, r42⟩ := t2.sl 4 (eS x) rfl
            obtain ⟨kc, rfl⟩ : ∃ kb, v42 = .ref kb := by
              cases r42 with
              | tup _ _ => exact ⟨_, rfl⟩
            obtain ⟨g1, g2, g3⟩ := m2.ow.at_ (i := 1) rfl
            obtain ⟨k1, k2, k3⟩ := m2.ow.at_ (i := 0) rfl
            have npk : a2 ≠ pk := two_ne m2.ow
            have hnv : nVal (kvs ++ newE nb) (kS_ x) = none := by
              have := nVal_mem_iff kk x
              rw [decide_eq_false hin] at this
              cases q : nVal (kvs ++ newE nb) (kS_ x) with
              | none => rfl
              | some v => rw [q] at this; cases this
            have lk : (kvs ++ newE nb).length < sizeLine := by
              have e9 : (kvs ++ newE nb).length = (addM ks (l.take i)).length := by
                rw [← List.length_map (f := (·.1)) (as := kvs ++ newE nb), kk, List.length_map, ha]
              rw [e9, ha]
              rw [List.length_append] at hlim
              simp only [List.length_cons, List.length_nil] at hlim
              exact Nat.lt_of_lt_of_le (show _ < 2001 by omega) (by decide)
            refine ts_cons (ps_nput hu (pv 1) (pv 4) pe_non rfl) ?_
            refine ⟨_, e12, _, e42, pk, _, eS x, kc, rfl, rfl, ⟨G2, t2.up, .inl g1, m2.ko.app m2.rp, isKey_eS _, depth_eS _, r42, kc, rfl⟩, g1, lk, ?_⟩
            rw [nPut_new hnv]
            have w2 := (m2.ow.put (i := 1) (o' := dN P w pk (kvs ++ newE nb ++ [(kS_ x, kc, V.non)])) rfl)
            refine ts_cons (ps_expr (pe_bm PySem.F.plainAttrs_list PySem.F.slot_list_append PySem.F.type_list_append mt_append (pv 0) (pa_cons (pv 4) pa_nil)) (by rfl)) ?_
            have k1' := (w2.at_ (i := 0) rfl).1
            refine ⟨_, ea2, .inl ⟨rfl, _, SqL.of k1'⟩, _, e42, a2, _, _, rfl, rfl, k1', ?_, ?_⟩
            · rw [hlen, ha]
              rw [List.length_append] at hlim
              simp only [List.length_cons, List.length_nil] at hlim
              exact Nat.lt_of_lt_of_le (show _ < 2001 by omega) (by decide)
            have w3 := (w2.put (i := 0) (o' := .lst (rv ++ newR nb ++ [V.ref kc])) rfl)
            have e7 : rv ++ newR (nb ++ [(x, kc)]) = rv ++ newR nb ++ [V.ref kc] := by rw [newR, List.map_append, List.append_assoc]; rfl
            have e8 : kvs ++ newE (nb ++ [(x, kc)]) = kvs ++ newE nb ++ [(kS_ x, kc, V.non)] := by rw [newE, List.map_append, List.append_assoc]; rfl
            refine ts_nil (f2.nx _ σ2 G2 _ ⟨kc, rfl⟩ (t2.swap rfl rfl ((t2.toLt.put g2 g3).put k2 k3) (Same.refl _) (.mem (amM K P w a2 pk rv kvs (nb ++ [(x, kc)]))) rfl ⟨a2, ea2, rfl, ⟨?_, m2.ko, ?_⟩⟩) (Same.refl _))
            · rw [e7, e8]
              exact w3
            · intro y hy
              rcases List.mem_append.mp hy with z | z
              · exact m2.rp y z
              · obtain rfl := List.mem_singleton.mp z
                exact r42
          · obtain ⟨kb, rfl⟩ := z
            refine ts_nil (ft.nx _ σ G H2 ⟨nb ++ [(x, kb)], some (.val (eS x)), ?_, rfl⟩ b c')
            rw [nx, ha, if_neg hin, List.map_append, List.append_assoc]
            rfl
      · rintro ρ' ⟨nb, b, ha, rfl⟩
        rw [List.take_length] at ha
        exact ds_nil ⟨nb, ha, rfl⟩
    refine body Hv B _ Hv H _ t ⟨fun ρ σ G H2 z b c' => ?_, fun d' v ρ σ G H2 z => z.elim⟩
    obtain ⟨nb, ha, z⟩ := z
    obtain ⟨a', ea, rfl, m'⟩ := b.me 0 _ z
    exact q G H2 nb c' b.up b.bn (fun x o z => b.nw x o z) m' ha
end
end SK
set_option maxRecDepth 100000
set_option maxHeartbeats 4000000
namespace SK
open PySem L2 PyProof.Rows
abbrev Ways := List (Nat × Option (List SM))
def waysQ (h : HoldM) (s : SM) : Ways := (ordersQ h s).map fun o => (o, ledQ h s o)
abbrev KV := List (Key × V)
def kO (o : Nat) : Key := .inl (o : Int)
structure WsR (K : PySem.W.Frag) (H : Hp) (wl : Ways) (ws : KV) : Prop where
  ln : ws.length = wl.length
  at_ : ∀ (i : Nat) (o : Nat) (r : Option (List SM)), wl[i]? = some (o, r) → ∃ v, ws[i]? = some (kO o, v) ∧ Rep K H (eOpt eSS r) v
theorem WsR.mono {K : PySem.W.Frag} {H G : Hp} {wl : Ways} {ws : KV} (w : WsR K H wl ws) (e : Same H G) : WsR K G wl ws := ⟨w.ln, fun i o r h => let ⟨v, a, b⟩ := w.at_ i o r h; ⟨v, a, b.mono e⟩⟩
theorem WsR.nil {K : PySem.W.Frag} {H : Hp} : WsR K H [] [] := ⟨rfl, fun i o r h => by simp at h⟩
theorem WsR.snoc {K : PySem.W.Frag} {H : Hp} {wl : Ways} {ws : KV} (w : WsR K H wl ws) {o : Nat} {r : Option (List SM)} {v : V} (h : Rep K H (eOpt eSS r) v) : WsR K H (wl ++ [(o, r)]) (ws ++ [(kO o, v)]) := ⟨by rw [List.length_append, List.length_append, w.ln]; rfl, fun i o' r' hi => by
  rw [List.getElem?_append] at hi
  by_cases q : i < wl.length
  · rw [if_pos q] at hi
    obtain ⟨u, a, b⟩ := w.at_ i o' r' hi
    exact ⟨u, by rw [List.getElem?_append_left (by rw [w.ln]; exact q)]; exact a, b⟩
  · rw [if_neg q] at hi
    have z : i - wl.length = 0 := by
      have := (List.getElem?_eq_some_iff.mp hi).1
      simpa using this
    rw [z] at hi
    cases hi
    exact ⟨v, by rw [List.getElem?_append_right (by rw [w.ln]; omega), w.ln, z]; rfl, h⟩⟩
theorem kO_inj {a b : Nat} (h : kO a = kO b) : a = b := Int.ofNat.inj (Sum.inl.inj h)
theorem WsR.key {K : PySem.W.Frag} {H : Hp} {wl : Ways} {ws : KV} (w : WsR K H wl ws) {x : Key × V} (hx : x ∈ ws) : ∃ o r, (o, r) ∈ wl ∧ x.1 = kO o ∧ Rep K H (eOpt eSS r) x.2 := by
  obtain ⟨i, hi⟩ := List.mem_iff_getElem?.mp hx
  have hl : i < wl.length := by rw [← w.ln]; exact (List.getElem?_eq_some_iff.mp hi).1
  obtain ⟨v, a, b⟩ := w.at_ i _ _ (show wl[i]? = some (wl[i].1, wl[i].2) from List.getElem?_eq_getElem hl)
  rw [hi] at a
  cases a
  exact ⟨_, _, List.getElem_mem hl, rfl, b⟩
theorem WsR.get {K : PySem.W.Frag} {H : Hp} {wl : Ways} {ws : KV} (w : WsR K H wl ws) (nd : (wl.map (·.1)).Nodup) {o : Nat} {r : Option (List SM)} (h : (o, r) ∈ wl) : ∃ v, valV ws (kO o) = some v ∧ Rep K H (eOpt eSS r) v := by
  unfold valV
  obtain ⟨i, hi⟩ := List.mem_iff_getElem?.mp h
  obtain ⟨v, a, b⟩ := w.at_ i o r hi
  cases q : ws.find? (fun kv => decide (kv.1 = kO o)) with
  | none =>
    rw [List.find?_eq_none] at q
    exact absurd (decide_eq_true rfl) (q _ (List.mem_of_getElem? a))
  | some x =>
    have hx := List.mem_of_find?_eq_some q
    have e1 : x.1 = kO o := by
      have := List.find?_some q
      exact of_decide_eq_true this
    obtain ⟨o', r', h', e2, rp⟩ := w.key hx
    have e3 : o' = o := kO_inj (e2.symm.trans e1)
    subst e3
    have e4 : r' = r := by
      obtain ⟨j, hj⟩ := List.mem_iff_getElem?.mp h'
      have p1 : (wl.map (·.1))[i]? = some o' := by rw [List.getElem?_map, hi]; rfl
      have p2 : (wl.map (·.1))[j]? = some o' := by rw [List.getElem?_map, hj]; rfl
      have hl : i < (wl.map (·.1)).length := (List.getElem?_eq_some_iff.mp p1).1
      have := (List.getElem?_inj hl nd).mp (p1.trans p2.symm)
      rw [← this, hi] at hj
      cases hj
      rfl
    subst e4
    exact ⟨x.2, rfl, rp⟩
theorem putK_new {ws : KV} {k : Key} {v : V} (h : ∀ x ∈ ws, x.1 ≠ k) : putK ws k v = ws ++ [(k, v)] := by
  unfold putK
  rw [if_neg]
  rw [List.any_eq_true]
  rintro ⟨x, hx, e⟩
  exact h x hx (of_decide_eq_true e)
/-! the memo -/
structure Dn where
  s : SM
  b : Addr
  p : Addr
  ws : KV
structure Cur where
  p : Addr
  ws : KV
  wl : Ways
def dnE (dn : List Dn) : NKV := dn.map fun x => (kS_ x.s, x.b, V.ref x.p)
def rowV (dn : List Dn) (td : List (SM × Addr)) : List V := dn.map (fun x => V.ref x.b) ++ newR td
def curL : Option Cur → List (Addr × HO)
  | none => []
  | some c => [(c.p, .dK c.ws)]
def dnL (dn : List Dn) : List (Addr × HO) := dn.map fun x => (x.p, HO.dK x.ws)
def knL (P : Program) (w : World) (pr pk : Addr) (dn : List Dn) (td : List (SM × Addr)) (cur : Option Cur) : List (Addr × HO) :=
  (pr, .lst (rowV dn td)) :: (pk, dN P w pk (dnE dn ++ newE td)) :: (dnL dn ++ curL cur)
def ksOf (dn : List Dn) (td : List (SM × Addr)) : List SM := dn.map (·.s) ++ td.map (·.1)
structure KnR (K : PySem.W.Frag) (h : HoldM) (H : Hp) (dn : List Dn) (td : List (SM × Addr)) (cur : Option Cur) : Prop where
  d1 : ∀ x ∈ dn, Rep K H (eS x.s) (.ref x.b)
  d2 : ∀ x ∈ dn, WsR K H (waysQ h x.s) x.ws
  t1 : ∀ x ∈ td, Rep K H (eS x.1) (.ref x.2)
  c1 : ∀ c, cur = some c → WsR K H c.wl c.ws
theorem KnR.mono {K : PySem.W.Frag} {h : HoldM} {H G : Hp} {dn : List Dn} {td : List (SM × Addr)} {cur : Option Cur} (k : KnR K h H dn td cur) (e : Same H G) : KnR K h G dn td cur :=
  ⟨fun x hx => (k.d1 x hx).mono e, fun x hx => (k.d2 x hx).mono e, fun x hx => (k.t1 x hx).mono e, fun c hc => (k.c1 c hc).mono e⟩
structure SpR (K : PySem.W.Frag) (h : HoldM) (H H1 : Hp) (sp d0 : Addr) (kvs : NKV) : Prop where
  ob : ∃ p dx, H1 sp = some (.ins (CS K) dx (fS p d0)) ∧ Rep K H (eH K h) (.ref p)
  ks : KOk K H kvs
  sp : ∀ x ∈ kvs, ∃ r bands f, r < h.many ∧ BandsOk h bands ∧ x.1 = keyOf (kS r bands f) ∧ Rep K H (eSp h r bands f) x.2.2
  nd : (kvs.map (·.1)).Nodup
theorem SpR.step {K : PySem.W.Frag} {h : HoldM} {H H1 G H2 : Hp} {sp d0 : Addr} {kvs : NKV} (s : SpR K h H H1 sp d0 kvs) (t : Step H H1 G H2) : SpR K h G H2 sp d0 kvs :=
  ⟨let ⟨p, dx, a, r⟩ := s.ob; ⟨p, dx, t.s3 _ _ a, r.mono t.s1⟩, s.ks.mono t.s1, fun x hx => let ⟨r, b, f, a1, a2, e, rp⟩ := s.sp x hx; ⟨r, b, f, a1, a2, e, rp.mono t.s1⟩, s.nd⟩
theorem SpR.upd {K : PySem.W.Frag} {h : HoldM} {H H1 : Hp} {sp d0 : Addr} {kvs : NKV} {q : Addr} {o : HO} (s : SpR K h H H1 sp d0 kvs) (n : ∀ C dx fs, H1 q ≠ some (.ins C dx fs)) : SpR K h H (upd H1 q o) sp d0 kvs :=
  ⟨let ⟨p, dx, a, r⟩ := s.ob; ⟨p, dx, by rw [upd_ne (fun z => n _ _ _ (z ▸ a))]; exact a, r⟩, s.ks, s.sp, s.nd⟩
structure GmAt (K : PySem.W.Frag) (P : Program) (w : World) (h : HoldM) (sp pr pk : Addr) (dn : List Dn) (td : List (SM × Addr)) (cur : Option Cur) (B H H1 : Hp) (d0 : Addr) (spans : NKV) : Prop where
  ow : OwnL B H H1 ((d0, dN P w d0 spans) :: knL P w pr pk dn td cur)
  sr : SpR K h H H1 sp d0 spans
  kn : KnR K h H dn td cur
theorem GmAt.step {K : PySem.W.Frag} {P : Program} {w : World} {h : HoldM} {sp pr pk : Addr} {dn : List Dn} {td : List (SM × Addr)} {cur : Option Cur} {B H H1 G H2 : Hp} {d0 : Addr} {spans : NKV} (g : GmAt K P w h sp pr pk dn td cur B H H1 d0 spans) (s : Step H H1 G H2) : GmAt K P w h sp pr pk dn td cur B G H2 d0 spans :=
  ⟨g.ow.step s, g.sr.step s, g.kn.mono s.s1⟩
def gm (K : PySem.W.Frag) (P : Program) (w : World) (h : HoldM) (sp pr pk : Addr) (dn : List Dn) (td : List (SM × Addr)) (cur : Option Cur) : Memo where
  ok := fun B H H1 a => a = sp ∧ ∃ d0 spans, GmAt K P w h sp pr pk dn td cur B H H1 d0 spans
  step := fun ⟨e, d0, spans, g⟩ s => ⟨e, d0, spans, g.step s⟩
  jl := true
  put := fun z => by cases z
  see := fun z => by cases z
theorem keys_kn {dn : List Dn} {td : List (SM × Addr)} : (dnE dn ++ newE td).map (·.1) = (ksOf dn td).map kS_ := by
  rw [List.map_append, dnE, newE, List.map_map, List.map_map, ksOf, List.map_append, List.map_map, List.map_map]
  rfl
theorem kok_kn {K : PySem.W.Frag} {h : HoldM} {H : Hp} {dn : List Dn} {td : List (SM × Addr)} {cur : Option Cur} (k : KnR K h H dn td cur) : KOk K H (dnE dn ++ newE td) := fun x hx => by
  rcases List.mem_append.mp hx with y | y
  · obtain ⟨z, hz, rfl⟩ := List.mem_map.mp y
    exact ⟨eS z.s, rfl, isKey_eS _, depth_eS _, k.d1 z hz⟩
  · obtain ⟨z, hz, rfl⟩ := List.mem_map.mp y
    exact ⟨eS z.1, rfl, isKey_eS _, depth_eS _, k.t1 z hz⟩
theorem row_at {K : PySem.W.Frag} {h : HoldM} {H : Hp} {dn : List Dn} {td : List (SM × Addr)} {cur : Option Cur} (k : KnR K h H dn td cur) {i : Nat} {s : SM} (hs : (ksOf dn td)[i]? = some s) : ∃ v, (rowV dn td)[i]? = some v ∧ Rep K H (eS s) v := by
  unfold ksOf at hs
  unfold rowV newR
  rw [List.getElem?_append] at hs ⊢
  rw [List.length_map] at hs ⊢
  by_cases q : i < dn.length
  · rw [if_pos q] at hs ⊢
    rw [List.getElem?_map] at hs ⊢
    obtain ⟨x, hx, rfl⟩ := Option.map_eq_some_iff.mp hs
    rw [hx]
    exact ⟨_, rfl, k.d1 x (List.mem_of_getElem? hx)⟩
  · rw [if_neg q] at hs ⊢
    rw [List.getElem?_map] at hs ⊢
    obtain ⟨x, hx, rfl⟩ := Option.map_eq_some_iff.mp hs
    rw [hx]
    exact ⟨_, rfl, k.t1 x (List.mem_of_getElem? hx)⟩
theorem row_len (dn : List Dn) (td : List (SM × Addr)) : (rowV dn td).length = (ksOf dn td).length := by
  unfold rowV newR ksOf
  rw [List.length_append, List.length_append, List.length_map, List.length_map, List.length_map, List.length_map]
section
variable {X : Cx} {ρ : Rho} {M : Fin} {e b : Expr} {es : List Expr} {d : D} {h : HoldM} {sp pr pk : Addr} {dn : List Dn} {td : List (SM × Addr)} {cur : Option Cur} {st : List Stmt} {pos p px py apos cpos : Pos} {x y : Str} {mg : Str → Option Value}
theorem adr_at {K : PySem.W.Frag} {A B : Hp} {σ : L2.St} {H H1 : Hp} {q : Addr} {i : Nat} (t : At K A B ρ σ H H1) (hi : ρ[i]? = some (some (.val (.adr q)))) : σ[i]? = some (some (.ref q)) := by
  obtain ⟨v, e, r⟩ := t.sl i _ hi
  cases r
  exact e
theorem de_adr (i : Nat) {q : Addr} (hi : ρ[i]? = some (some (.val (.adr q))) := by rfl) (hN : X.N[i]? = some x := by rfl) (hv : Vis X.env.scope x := by first | exact Or.inl rfl | exact Or.inr (Or.inl rfl) | exact Or.inr (Or.inr rfl)) (hd : (x == ("__debug__" : Str)) = false := by decide) (hcd : (x == ("__classdict__" : Str)) = false := by decide) : DE X ρ (.Name x pos) (.adr q) := nm i hi hN hv hd hcd
/-- row[at] -/
theorem de_rowAt {i n : Nat} {s : SM} (hb : DE X (some (.mem (gm X.K X.prog X.w h sp pr pk dn td cur)) :: ρ) b (nI n)) (hs : (ksOf dn td)[n]? = some s) (hi : (some (Bd.mem (gm X.K X.prog X.w h sp pr pk dn td cur)) :: ρ)[i]? = some (some (.val (.adr pr)))) (hN : X.N[i]? = some x) (hv : Vis X.env.scope x := by first | exact Or.inl rfl | exact Or.inr (Or.inl rfl) | exact Or.inr (Or.inr rfl)) (hd : (x == ("__debug__" : Str)) = false := by decide) (hcd : (x == ("__classdict__" : Str)) = false := by decide)
    (hpi : PlainIx b := by intro _ _; rfl) : DE X (some (.mem (gm X.K X.prog X.w h sp pr pk dn td cur)) :: ρ) (.Subscript (.Name x p) b pos) (eS s) := fun A B σ H H1 Q t k => te_run (pe_ix ix_list (pe_var hN hv hd hcd) pe_of hpi) (by
  refine ⟨_, adr_at t hi, hb A B σ H H1 _ t fun v G H2 st r => ?_⟩
  cases r
  obtain ⟨a, ea, _, d0, spans, g⟩ := (t.step st).me 0 _ rfl
  obtain ⟨u, hu, ru⟩ := row_at g.kn hs
  exact ⟨pr, _, n, u, rfl, rfl, SqL.of (g.ow.at_ (i := 1) rfl).1, atI_nat hu, k u G H2 st ru⟩)
theorem de_lenRow {i : Nat} (hm : X.mg "len" = none) (hi : (some (Bd.mem (gm X.K X.prog X.w h sp pr pk dn td cur)) :: ρ)[i]? = some (some (.val (.adr pr)))) (hN : X.N[i]? = some x) {p' : Pos} (hv : Vis X.env.scope x := by first | exact Or.inl rfl | exact Or.inr (Or.inl rfl) | exact Or.inr (Or.inr rfl)) (hg : Gl X "len" := by rfl)
    (hs : starEach [.Name x p'] X.env = (false, eval (.Name x p') X.env) :: starEach [] X.env := by rfl) (hd : (x == ("__debug__" : Str)) = false := by decide) (hcd : (x == ("__classdict__" : Str)) = false := by decide) (hpl : (backTo pos (starEach [] X.env)).any (·.1) = false := by rfl) :
    DE X (some (.mem (gm X.K X.prog X.w h sp pr pk dn td cur)) :: ρ) (.Call (.Name "len" p) [.Name x p'] [] pos) (nI (ksOf dn td).length) := fun A B σ H H1 Q t k =>
  te_run (pe_callB call_lenA hg hm PySem.boot_len (pa_cons (pe_var hN hv hd hcd) pa_nil hs) (he := hs) (hpl := hpl)) (by
    obtain ⟨a, ea, _, d0, spans, g⟩ := t.me 0 _ rfl
    refine ⟨_, adr_at t hi, pr, _, rfl, .inl (SqL.of (g.ow.at_ (i := 1) rfl).1), ?_⟩
    rw [row_len]
    exact k _ H H1 (Step.refl t.up) .int)
/-- ways[order] -/
theorem de_ways {i o : Nat} {c : Cur} {r : Option (List SM)} (hu : X.A.units + 64 < cLine) (nd : (c.wl.map (·.1)).Nodup) (ho : (o, r) ∈ c.wl) (hb : DE X (some (.mem (gm X.K X.prog X.w h sp pr pk dn td (some c))) :: ρ) b (nI o)) (hi : (some (Bd.mem (gm X.K X.prog X.w h sp pr pk dn td (some c))) :: ρ)[i]? = some (some (.val (.adr c.p)))) (hN : X.N[i]? = some x) (hv : Vis X.env.scope x := by first | exact Or.inl rfl | exact Or.inr (Or.inl rfl) | exact Or.inr (Or.inr rfl)) (hd : (x == ("__debug__" : Str)) = false := by decide) (hcd : (x == ("__classdict__" : Str)) = false := by decide)
    (hns : NoSl b := by intro _ _; rfl) : DE X (some (.mem (gm X.K X.prog X.w h sp pr pk dn td (some c))) :: ρ) (.Subscript (.Name x p) b pos) (eOpt eSS r) := fun A B σ H H1 Q t k => te_run (pe_dget (by omega) (pe_var hN hv hd hcd) pe_of hns) (by
  refine ⟨_, adr_at t hi, hb A B σ H H1 _ t fun v G H2 st r' => ?_⟩
  cases r'
  obtain ⟨a, ea, _, d0, spans, g⟩ := (t.step st).me 0 _ rfl
  obtain ⟨u, e1, ru⟩ := (g.kn.c1 c rfl).get nd ho
  have hL : (((d0, dN X.prog X.w d0 spans) :: knL X.prog X.w pr pk dn td (some c)))[3 + dn.length]? = some (c.p, .dK c.ws) := by
    rw [Nat.add_comm]
    show (dnL dn ++ curL (some c))[dn.length]? = _
    rw [List.getElem?_append_right (by rw [dnL, List.length_map]; exact Nat.le_refl _), dnL, List.length_map, Nat.sub_self]
    rfl
  refine ⟨c.p, u, rfl, ?_, k u G H2 st ru⟩
  rw [← e1]
  exact DGet.k (k := kO o) (g.ow.at_ hL).1)
end
end SK
set_option maxRecDepth 100000
set_option maxHeartbeats 4000000
namespace SK
open PySem L2 PyProof.Rows
theorem OwnL.swap2 {B H H1 G H2 : Hp} {x0 : Addr × HO} {pr pk : Addr} {o1 o2 o1' o2' : HO} {L : List (Addr × HO)} (w : OwnL B H H1 (x0 :: (pr, o1) :: (pk, o2) :: L)) (m : OwnL (cut [(pr, o1), (pk, o2)] H1) G H2 [(pr, o1'), (pk, o2')])
    (sb : Same (cut [(pr, o1), (pk, o2)] H1) H2) (nw : ∀ x o, G x = some o → H x = some o ∨ cut [(pr, o1), (pk, o2)] H1 x = none) : OwnL B G H2 (x0 :: (pr, o1') :: (pk, o2') :: L) := by
  have nd := w.1
  rw [List.map_cons, List.map_cons, List.map_cons, List.nodup_cons, List.nodup_cons, List.nodup_cons] at nd
  obtain ⟨n0, n1, n2, n3⟩ := nd
  have key : ∀ y ∈ x0 :: (pr, o1) :: (pk, o2) :: L, y.1 ≠ pr → y.1 ≠ pk → H2 y.1 = some y.2 ∧ G y.1 = none ∧ B y.1 = none := fun y hy h1 h2 => by
    obtain ⟨a1, a2, a3⟩ := w.2 y hy
    have hc : cut [(pr, o1), (pk, o2)] H1 y.1 = some y.2 := by
      rw [cut_out]
      · exact a1
      · intro z hz e
        simp only [List.mem_cons, List.not_mem_nil, or_false] at hz
        rcases hz with rfl | rfl
        · exact h1 e.symm
        · exact h2 e.symm
    refine ⟨sb _ _ hc, ?_, a3⟩
    cases q : G y.1 with
    | none => rfl
    | some o =>
      rcases nw _ _ q with z | z
      · rw [a2] at z; cases z
      · rw [hc] at z; cases z
  refine ⟨w.1, fun x hx => ?_⟩
  rcases List.mem_cons.mp hx with rfl | hx
  · refine key x (List.mem_cons_self ..) (fun z => n0 (z ▸ List.mem_cons_self ..)) fun z => n0 (z ▸ List.mem_cons_of_mem _ (List.mem_cons_self ..))
  rcases List.mem_cons.mp hx with rfl | hx
  · obtain ⟨a1, a2, _⟩ := m.at_ (i := 0) rfl
    exact ⟨a1, a2, (w.at_ (i := 1) rfl).2.2⟩
  rcases List.mem_cons.mp hx with rfl | hx
  · obtain ⟨a1, a2, _⟩ := m.at_ (i := 1) rfl
    exact ⟨a1, a2, (w.at_ (i := 2) rfl).2.2⟩
  · have hm : x.1 ∈ L.map (·.1) := List.mem_map.mpr ⟨x, hx, rfl⟩
    refine key x (List.mem_cons_of_mem _ (List.mem_cons_of_mem _ (List.mem_cons_of_mem _ hx))) (fun z => n1 (z ▸ List.mem_cons_of_mem _ hm)) fun z => n2 (z ▸ hm)
theorem rowV_app (dn : List Dn) (td nb : List (SM × Addr)) : rowV dn (td ++ nb) = rowV dn td ++ newR nb := by
  unfold rowV newR
  rw [List.map_append, List.append_assoc]
theorem newE_app (td nb : List (SM × Addr)) : newE (td ++ nb) = newE td ++ newE nb := List.map_append
theorem ksOf_app (dn : List Dn) (td nb : List (SM × Addr)) : ksOf dn (td ++ nb) = ksOf dn td ++ nb.map (·.1) := by
  unfold ksOf
  rw [List.map_append, List.append_assoc]
section
variable {X : Cx} {ρ : Rho} {M : Fin} {e b ix : Expr} {es : List Expr} {d : D} {h : HoldM} {sp pr pk : Addr} {dn : List Dn} {td : List (SM × Addr)} {cur : Option Cur} {st : List Stmt} {pos p px py apos cpos spos : Pos} {x y : Str} {mg : Str → Option Value}
/-- add_met(row, known, some, limit) -/
theorem ds_addM {l : List SM} (T : Prg X.K X.mg) (hr : Room 1 X.A) (ha : DA X (some (.mem (gm X.K X.prog X.w h sp pr pk dn td cur)) :: ρ) (e :: es) [.adr pr, .adr pk, eSS l, .int 2000]) (lim : (addM (ksOf dn td) l).length ≤ 2000) (rest : ∀ nb, addM (ksOf dn td) l = ksOf dn (td ++ nb) → DS X (some (.mem (gm X.K X.prog X.w h sp pr pk dn (td ++ nb) cur)) :: ρ) st M)
    (hm : noMem ρ = true := by rfl) (hg : Gl X "add_met" := by rfl) (he : starEach (e :: es) X.env = (false, eval e X.env) :: starEach es X.env := by rfl) (hpl : (backTo cpos (starEach es X.env)).any (·.1) = false := by rfl)
    (hs : swapsWith (.Call (.Name "add_met" p) (e :: es) [] cpos) none pos.line X.env = pure false := by rfl) : DS X (some (.mem (gm X.K X.prog X.w h sp pr pk dn td cur)) :: ρ) (.Expr (.Call (.Name "add_met" p) (e :: es) [] cpos) pos :: st) M := by
  obtain ⟨fd, F, hF⟩ := f_add_met (P := X.prog) (w := X.w) (base := X.base) T
  refine fun A B σ H H1 E t f => ts_cons (ps_expr (pe_call hF hr hg (g_add_met T) F.kp (F.bindsN fun _ _ _ _ _ _ us hl => match us, hl with | [_, _, _, _], _ => rfl) .nil pass0 pa_of (by decide) he hpl) hs) (ha A B σ H H1 _ t fun vs G H2 s r => ?_)
  cases r with
  | cons r1 r =>
  cases r with
  | cons r2 r =>
  cases r with
  | cons r3 r =>
  cases r with
  | cons r4 r =>
  cases r
  cases r1
  cases r2
  cases r4
  have t2 := t.step s
  have ho := t.jel rfl
  obtain ⟨a, ea, rfl, d0, spans, g⟩ := t2.me 0 _ rfl
  have a1 := g.ow.at_ (i := 1) rfl
  have a2 := g.ow.at_ (i := 2) rfl
  have nd2 : pr ≠ pk := by
    have := g.ow.1
    intro z
    rw [List.map_cons, knL, List.map_cons, List.map_cons, z] at this
    simp at this
  refine ⟨pr, pk, _, rowV dn td, dnE dn ++ newE td, ksOf dn td, l, cut [(pr, .lst (rowV dn td)), (pk, dN X.prog X.w pk (dnE dn ++ newE td))] H2, G, rfl, s.s2, fun x o q => (cut_le q).1, ⟨⟨by simp [nd2], fun x hx => ?_⟩, kok_kn g.kn, fun x hx => by cases hx⟩, row_len dn td, keys_kn, r3, lim, fun G3 H3 nb g1 g2 g3 g4 am hadd => ?_⟩
  · have e1 : rowV dn td ++ newR [] = rowV dn td := List.append_nil _
    have e2 : dnE dn ++ newE td ++ newE [] = dnE dn ++ newE td := List.append_nil _
    rw [e1, e2] at hx
    refine ⟨?_, ?_, cut_in hx⟩
    · simp only [List.mem_cons, List.not_mem_nil, or_false] at hx
      rcases hx with rfl | rfl
      · exact a1.1
      · exact a2.1
    · simp only [List.mem_cons, List.not_mem_nil, or_false] at hx
      rcases hx with rfl | rfl
      · exact a1.2.1
      · exact a2.2.1
  · have ow2 := OwnL.swap2 g.ow am.ow g3 g4
    have hsp : cut [(pr, .lst (rowV dn td)), (pk, dN X.prog X.w pk (dnE dn ++ newE td))] H2 a = H2 a := by
      obtain ⟨q, dx, hob, _⟩ := g.sr.ob
      rw [cut_out]
      intro y hy e
      simp only [List.mem_cons, List.not_mem_nil, or_false] at hy
      rcases hy with rfl | rfl
      · rw [← e, a1.1] at hob; cases hob
      · rw [← e, a2.1] at hob; cases hob
    have sr2 : SpR X.K h G3 H3 a d0 spans := ⟨let ⟨q, dx, hob, rp⟩ := g.sr.ob; ⟨q, dx, g3 _ _ (by rw [hsp]; exact hob), rp.mono g1⟩, g.sr.ks.mono g1, fun x hx => let ⟨r, b, f, b1, b2, e, rp⟩ := g.sr.sp x hx; ⟨r, b, f, b1, b2, e, rp.mono g1⟩, g.sr.nd⟩
    have kn2 : KnR X.K h G3 dn (td ++ nb) cur := ⟨fun x hx => (g.kn.d1 x hx).mono g1, fun x hx => (g.kn.d2 x hx).mono g1, fun x hx => (List.mem_append.mp hx).elim (fun z => (g.kn.t1 x z).mono g1) fun z => am.rp x z, fun c hc => (g.kn.c1 c hc).mono g1⟩
    have bk : ∀ q, cut [(pr, .lst (rowV dn td)), (pk, dN X.prog X.w pk (dnE dn ++ newE td))] H2 q = none → B q = none := fun q z => by
      by_cases hq : q = pr
      · rw [hq]; exact a1.2.2
      by_cases hq2 : q = pk
      · rw [hq2]; exact a2.2.2
      rw [cut_out] at z
      · exact t2.bn.free z
      · intro y hy e
        simp only [List.mem_cons, List.not_mem_nil, or_false] at hy
        rcases hy with rfl | rfl
        · exact hq e.symm
        · exact hq2 e.symm
    have sb : Same B H3 := fun x o q => by
      refine g3 x o ?_
      rw [cut_out]
      · exact t2.bn x o q
      · intro y hy e
        simp only [List.mem_cons, List.not_mem_nil, or_false] at hy
        rcases hy with rfl | rfl
        · rw [← e, a1.2.2] at q; cases q
        · rw [← e, a2.2.2] at q; cases q
    have ow3 : OwnL B G3 H3 ((d0, dN X.prog X.w d0 spans) :: knL X.prog X.w pr pk dn (td ++ nb) cur) := by
      unfold knL
      rw [rowV_app, newE_app, ← List.append_assoc]
      exact ow2
    exact rest nb (by rw [hadd, ksOf_app]) A B σ G3 H3 E (t2.swap hm ho ⟨g2, t2.an.trans g1, sb, fun x o q => (g4 x o q).elim (t2.nw x o) fun z => .inr (bk x z)⟩ g1 (.mem (gm X.K X.prog X.w h a pr pk dn (td ++ nb) cur)) rfl ⟨a, ea, rfl, d0, spans, ow3, sr2, kn2⟩) (f.mono (s.s1.trans g1))
/-- a new dict -/
theorem ds_newW (i : Nat) (nd : X.N.Nodup) (rest : ∀ q, DS X (some (.mem (gm X.K X.prog X.w h sp pr pk dn td (some ⟨q, [], []⟩))) :: ρ.set i (some (.val (.adr q)))) st M) (hm : noMem ρ = true := by rfl) (hi : X.N[i + 1]? = some x := by rfl) (hx : Loc X.env.scope x := by first | exact Or.inl rfl | exact Or.inr rfl)
    (hs : swapsWith (.Dict [] [] cpos) (some (.Name x p)) pos.line X.env = pure false := by rfl) (hf : X.fn x = true ∨ X.env.scope.names.lookup x = some .local := by first | exact .inl rfl | exact .inr rfl) : DS X (some (.mem (gm X.K X.prog X.w h sp pr pk dn td none)) :: ρ) (.Assign [.Name x p] (.Dict [] [] cpos) pos :: st) M :=
  fun A B σ H H1 E t f => ts_cons (ps_set nd hi hx pe_dnewK hs hf) (by
    intro q hq
    have ho := t.jel rfl
    obtain ⟨a, ea, rfl, d0, spans, g⟩ := t.me 0 _ rfl
    have ow2 := g.ow.new (o := .dK []) t.up t.bn hq
    have hqa : ∀ C dx fs, H1 q ≠ some (.ins C dx fs) := fun C dx fs z => by rw [hq] at z; cases z
    have t2 : At X.K A B (some (.mem (gm X.K X.prog X.w h a pr pk dn td (some ⟨q, [], []⟩))) :: ρ) σ H (upd H1 q (.dK [])) := t.swap hm ho (t.toLt.put (t.up.free hq) (t.bn.free hq)) (Same.refl _) (.mem (gm X.K X.prog X.w h a pr pk dn td (some ⟨q, [], []⟩))) rfl ⟨a, ea, rfl, d0, spans, by
      have e : (d0, dN X.prog X.w d0 spans) :: knL X.prog X.w pr pk dn td (some ⟨q, [], []⟩) = ((d0, dN X.prog X.w d0 spans) :: knL X.prog X.w pr pk dn td none) ++ [(q, .dK [])] := by
        unfold knL curL
        simp
      rw [e]
      exact ow2, g.sr.upd hqa, g.kn.d1, g.kn.d2, g.kn.t1, fun c hc => by cases hc; exact .nil⟩
    exact rest q A B _ H _ E (t2.set (i + 1) .adr) f)
/-- spread.led(row[at], order) -/
theorem dm_led {pl : Sem Bool} {s : SM} {o : Nat} (T : Prg X.K X.mg) (hr : Room 10 X.A) (wf : WF h) (v : Valid h s) (hoq : o ∈ ordersQ h s) (ha : DA X (some (.mem (gm X.K X.prog X.w h sp pr pk dn td cur)) :: ρ) (e :: es) [eS s, nI o]) (hm : noMem ρ = true := by rfl) (hN : X.N[0]? = some x := by rfl) (hv : Vis X.env.scope x := by first | exact Or.inl rfl | exact Or.inr (Or.inl rfl) | exact Or.inr (Or.inr rfl)) (hd : (x == ("__debug__" : Str)) = false := by decide) (hcd : (x == ("__classdict__" : Str)) = false := by decide)
    (hst : starEach (e :: es) X.env = (false, eval e X.env) :: starEach es X.env := by rfl) (hpl : (backTo pos (starEach es X.env)).any (·.1) = false := by rfl)
    (ht : eval (.Call (.Attribute (.Name x p) "led" apos) (e :: es) [] pos) X.env = (do
      let ov ← eval (.Name x p) X.env
      standAt apos.atName
      let (f, first) ← holding [ov] (getMethod ov "led" pl)
      callWith pos f first (backTo pos (starEach (e :: es) X.env)) (backToKw pos (keywordEach [] X.env))) := by rfl) : DM X (some (.mem (gm X.K X.prog X.w h sp pr pk dn td cur)) :: ρ) (.Call (.Attribute (.Name x p) "led" apos) (e :: es) [] pos) (eOpt eSS (ledQ h s o)) := by
  obtain ⟨f, fd, vds, hme, hb, hvv, F⟩ := (c_led (P := X.prog) (w := X.w) (base := X.base) T).ex
  exact fun A B σ H H1 Q t q => te_run (pe_meth (pe_var hN hv hd hcd) (cl_Spread T) hme F hr hb hvv pass0 pa_of hst hpl ht) (by
    have ho := t.jel rfl
    obtain ⟨a, ea, rfl, d00, spans0, g0⟩ := t.me 0 _ rfl
    obtain ⟨q0, dx, hob0, _⟩ := g0.sr.ob
    refine ⟨_, ea, _, dx, _, rfl, hob0, rfl, ha A B σ H H1 _ t fun vs G H2 st r => ?_⟩
    have t2 := t.step st
    have g := g0.step st
    obtain ⟨c1, c2, c3⟩ := g.ow.at_ (i := 0) rfl
    refine ⟨h, a, vs, [eS s, nI o], _, fun x => if x = d00 then none else H2 x, G, by rw [List.append_nil], st.s2, fun x o z => ?_, ⟨rfl, d00, spans0, g.sr.ob, c1, g.sr.ks, g.sr.sp, c2, if_pos rfl, g.sr.nd⟩, r, ⟨wf, s, o, v, hoq, rfl, rfl⟩, fun v G3 H3 g1 g2 g3 g4 m r3 => ?_⟩
    · have z2 : (if x = d00 then none else H2 x) = some o := z
      split at z2
      · cases z2
      · exact z2
    have hB : ∀ x o, x ≠ d00 → H2 x = some o → (if x = d00 then none else H2 x) = some o := fun x o z q => by rw [if_neg z]; exact q
    obtain ⟨_, d', kvs', s'⟩ := m
    have bd' : (if d' = d00 then none else H2 d') = none := s'.bd
    have hd' : B d' = none := by
      by_cases n1 : d' = d00
      · rw [n1]; exact c3
      · rw [if_neg n1] at bd'
        exact t2.bn.free bd'
    have nd := g.ow.1
    rw [List.map_cons, List.nodup_cons] at nd
    have hne : ∀ y ∈ knL X.prog X.w pr pk dn td cur, y.1 ≠ d00 := fun y hy z => nd.1 (z ▸ List.mem_map.mpr ⟨y, hy, rfl⟩)
    have hne' : ∀ y ∈ knL X.prog X.w pr pk dn td cur, y.1 ≠ d' := fun y hy z => by
      by_cases n1 : d' = d00
      · exact hne y hy (z.trans n1)
      · rw [if_neg n1, ← z, (g.ow.2 y (List.mem_cons_of_mem _ hy)).1] at bd'
        cases bd'
    have ow3 : OwnL B G3 H3 ((d', dN X.prog X.w d' kvs') :: knL X.prog X.w pr pk dn td cur) := by
      refine ⟨?_, fun y hy => ?_⟩
      · rw [List.map_cons, List.nodup_cons]
        refine ⟨fun z => ?_, nd.2⟩
        obtain ⟨y, hy, e⟩ := List.mem_map.mp z
        exact hne' y hy e
      · rcases List.mem_cons.mp hy with rfl | hy
        · exact ⟨s'.di, s'.hd, hd'⟩
        · obtain ⟨b1, b2, b3⟩ := g.ow.2 y (List.mem_cons_of_mem _ hy)
          have hc := hB y.1 _ (hne y hy) b1
          refine ⟨g3 _ _ hc, ?_, b3⟩
          cases q : G3 y.1 with
          | none => rfl
          | some o =>
            rcases g4 _ _ q with z | z
            · rw [b2] at z; cases z
            · have z2 : (if y.1 = d00 then none else H2 y.1) = none := z
              rw [hc] at z2; cases z2
    refine q v G3 H3 (t2.swap hm ho ⟨g2, t2.an.trans g1, fun x o q => g3 x o (hB x o (fun z => by rw [z, c3] at q; cases q) (t2.bn x o q)), fun x o q => (g4 x o q).elim (t2.nw x o) fun z => .inr ?_⟩ g1 (.mem (gm X.K X.prog X.w h a pr pk dn td cur)) rfl ⟨a, ea, rfl, d', kvs', ow3, ⟨s'.ob, s'.ks, s'.sp, s'.nd⟩, g.kn.mono g1⟩) (st.s1.trans g1) r3
    have z2 : (if x = d00 then none else H2 x) = none := z
    by_cases n1 : x = d00
    · rw [n1]; exact c3
    · rw [if_neg n1] at z2
      exact t2.bn.free z2)
/-- ways[order] = a value that may fill the memory -/
theorem ds_putW {i o : Nat} {c : Cur} {r : Option (List SM)} (hu : X.A.units + 64 < cLine) (he : DM X (some (.mem (gm X.K X.prog X.w h sp pr pk dn td (some c))) :: ρ) e (eOpt eSS r)) (hix : DE X (some (.mem (gm X.K X.prog X.w h sp pr pk dn td (some c))) :: ρ) ix (nI o)) (hnew : o ∉ c.wl.map (·.1)) (hlen : c.wl.length < 1000) (hi : (some (Bd.mem (gm X.K X.prog X.w h sp pr pk dn td (some c))) :: ρ)[i]? = some (some (.val (.adr c.p)))) (hN : X.N[i]? = some x)
    (rest : ∀ u, DS X (some (.mem (gm X.K X.prog X.w h sp pr pk dn td (some ⟨c.p, c.ws ++ [(kO o, u)], c.wl ++ [(o, r)]⟩))) :: ρ) st M) (hm : noMem ρ = true := by rfl) (hv : Vis X.env.scope x := by first | exact Or.inl rfl | exact Or.inr (Or.inl rfl) | exact Or.inr (Or.inr rfl)) (hd : (x == ("__debug__" : Str)) = false := by decide) (hcd : (x == ("__classdict__" : Str)) = false := by decide)
    (hs : swapsWith e (some (.Subscript (.Name x p) ix spos)) pos.line X.env = pure false := by rfl) : DS X (some (.mem (gm X.K X.prog X.w h sp pr pk dn td (some c))) :: ρ) (.Assign [.Subscript (.Name x p) ix spos] e pos :: st) M :=
  fun A B σ H H1 E t f => ts_cons (ps_dput (by omega) (pe_var hN hv hd hcd) pe_of pe_of hs) (he A B σ H H1 _ t fun v G H2 t2 sm rv => by
    refine ⟨_, adr_at t2 hi, hix A B σ G H2 _ t2 fun u G2 H3 s2 r2 => ?_⟩
    cases r2
    have t3 := t2.step s2
    have ho := t3.jel rfl
    obtain ⟨a, ea, rfl, d0, spans, g⟩ := t3.me 0 _ rfl
    have hL : (((d0, dN X.prog X.w d0 spans) :: knL X.prog X.w pr pk dn td (some c)))[3 + dn.length]? = some (c.p, .dK c.ws) := by
      rw [Nat.add_comm]
      show (dnL dn ++ curL (some c))[dn.length]? = _
      rw [List.getElem?_append_right (by rw [dnL, List.length_map]; exact Nat.le_refl _), dnL, List.length_map, Nat.sub_self]
      rfl
    obtain ⟨h1, h2, h3⟩ := g.ow.at_ hL
    have cw := g.kn.c1 c rfl
    have hk : ∀ x ∈ c.ws, x.1 ≠ kO o := fun x hx z => by
      obtain ⟨o', r', ho', e1, _⟩ := cw.key hx
      have : o' = o := kO_inj (e1.symm.trans z)
      subst this
      exact hnew (List.mem_map.mpr ⟨_, ho', rfl⟩)
    refine ⟨c.p, _, rfl, DPut.k (k := kO o) h1 (by rw [cw.ln]; exact small1000 (by omega)), ?_⟩
    rw [putK_new hk]
    have ow2 := g.ow.put (o' := .dK (c.ws ++ [(kO o, v)])) hL
    refine rest v A B σ G2 _ E (t3.swap hm ho (t3.toLt.put h2 h3) (Same.refl _) (.mem (gm X.K X.prog X.w h a pr pk dn td (some ⟨c.p, c.ws ++ [(kO o, v)], c.wl ++ [(o, r)]⟩))) rfl ⟨a, ea, rfl, d0, spans, ?_, g.sr.upd (fun C dx fs z => by rw [h1] at z; cases z), g.kn.d1, g.kn.d2, g.kn.t1, fun c' hc => ?_⟩) (f.mono (sm.trans s2.s1))
    · have e1 : ((d0, dN X.prog X.w d0 spans) :: knL X.prog X.w pr pk dn td (some ⟨c.p, c.ws ++ [(kO o, v)], c.wl ++ [(o, r)]⟩)) = (((d0, dN X.prog X.w d0 spans) :: knL X.prog X.w pr pk dn td (some c))).set (3 + dn.length) (c.p, .dK (c.ws ++ [(kO o, v)])) := by
        rw [Nat.add_comm]
        unfold knL
        show _ :: _ :: _ :: _ = _ :: _ :: _ :: (dnL dn ++ curL (some c)).set dn.length _
        rw [List.set_append_right _ _ (by rw [dnL, List.length_map]; exact Nat.le_refl _), dnL, List.length_map, Nat.sub_self]
        rfl
      rw [e1]
      exact ow2
    · cases hc
      exact cw.snoc (rv.mono s2.s1))
end
end SK
/-! Plain Lean: states that are met are right; they are few. -/
namespace SK
theorem getD_mapR {n r : Nat} (f : Nat → Nat) (h : r < n) : ((List.range n).map f).getD r 0 = f r := by
  rw [List.getD_eq_getElem?_getD, List.getElem?_map, List.getElem?_range h]
  rfl
theorem many_sub : ∀ o, o < 4 → ∀ x, x < 4 → (x.testBit 0 = true → o.testBit 0 = true) → (x.testBit 1 = true → o.testBit 1 = true) → howMany x ≤ howMany o := by decide +kernel
theorem bit1 : ∀ o, o < 2 → o.testBit 1 = false := by decide +kernel
theorem behind_valid {h : HoldM} (w : WF h) {s : SM} (v : Valid h s) {o u : Nat} (ho : o ∈ ordersQ h s) (hu : u ∈ subsets (mayQ h s o)) {bands : List Nat} (bl : bands.length = h.many) (blt : ∀ r, r < h.many → bands.getD r 0 + 1 < (h.mk_ r).length) : Valid h (behindQ h s o u bands) := by
  have t := Tn.of w v ho hu
  have o4 := lt4 w t.o4
  refine ⟨bl, by simp [behindQ], by simp [behindQ], ?_, ?_, Nat.min_le_left .., fun r hr => ⟨blt r hr, ?_⟩⟩
  · exact Nat.lt_of_le_of_lt (Nat.sub_le _ _) t.o4
  · refine Nat.le_trans (many_sub o o4 (o - u) (by omega) ?_ ?_) (orders_most ho).1
    · intro q
      have := t.sub 0 (by have := w.one; omega)
      rw [this] at q
      exact (Bool.and_eq_true_iff.mp q).1
    · intro q
      rcases many12 w with e | e
      · have hx := bit1 (o - u) (by have := t.o4; rw [e] at this; omega)
        rw [hx] at q
        cases q
      · have := t.sub 1 (by omega)
        rw [this] at q
        exact (Bool.and_eq_true_iff.mp q).1
  · have ew : (behindQ h s o u bands).wt r = waitQ h s (o - u) r := getD_mapR _ hr
    have ef : (behindQ h s o u bands).fd r = failQ s (o - u) u r := getD_mapR _ hr
    have eb : (behindQ h s o u bands).burn.testBit r = (o.testBit r && !u.testBit r) := t.sub r hr
    have ebb : (o - u).testBit r = (o.testBit r && !u.testBit r) := t.sub r hr
    have ts := t.stove r hr
    have tf := t.fail r hr
    have tk := t.keep r hr
    have vf := v.fit r hr
    unfold FitsR at vf
    obtain ⟨_, vf⟩ := vf
    cases e : h.st r with
    | none =>
      rw [e] at vf ts
      obtain ⟨f1, f2, f3⟩ := vf
      have hob : o.testBit r = false := by
        cases q : o.testBit r with
        | false => rfl
        | true => have := ts q; cases this
      have hub : u.testBit r = false := by
        cases q : u.testBit r with
        | false => rfl
        | true => have := (tf q).1; rw [hob] at this; cases this
      refine ⟨?_, ?_, ?_⟩
      · rw [eb, hob]; rfl
      · rw [ew, waitQ, ebb, hob, f1, f2]; rfl
      · rw [ef, failQ, ebb, hob, hub, f3]; rfl
    | some sv =>
      rw [e] at vf
      obtain ⟨f1, f2, f3⟩ := vf
      have es : stayAt h r = sv.stay := by unfold stayAt; rw [e]
      have ea : failsAt h r = sv.fails := by unfold failsAt; rw [e]
      rw [ea] at tf
      show (behindQ h s o u bands).wt r ≤ sv.stay ∧ (behindQ h s o u bands).fd r ≤ sv.fails ∧ ((behindQ h s o u bands).fd r = 0 ∨ ((behindQ h s o u bands).burn.testBit r = false ∧ (behindQ h s o u bands).wt r = 0))
      rw [ew, ef, eb, waitQ, failQ, ebb, es]
      cases q1 : o.testBit r <;> cases q2 : u.testBit r <;> cases q3 : s.burn.testBit r <;> simp only [q1, q2, q3] at tf tk f3 ⊢ <;> simp at tf tk f3 ⊢ <;> omega
theorem led_valid_aux {h : HoldM} (w : WF h) {s : SM} (v : Valid h s) {o : Nat} (ho : o ∈ ordersQ h s) : ∀ (l : List Nat), (∀ u ∈ l, u ∈ subsets (mayQ h s o)) → ∀ (acc : Option (List SM)) {r : List SM}, (∀ a, acc = some a → ∀ x ∈ a, Valid h x) → l.foldl (ledStep h s o) acc = some r → ∀ x ∈ r, Valid h x
  | [], _, acc, r, ha, e => ha r e
  | u :: l, hl, acc, r, ha, e => by
    refine led_valid_aux w v ho l (fun u' h' => hl u' (List.mem_cons_of_mem _ h')) (ledStep h s o acc u) (fun a ea x hx => ?_) e
    cases acc with
    | none => cases ea
    | some a0 =>
      have e2 : (match bandsByQ h s.bands (firesQ o u) with
        | none => none
        | some sp => some (a0 ++ sp.map (behindQ h s o u))) = some a := ea
      cases q : bandsByQ h s.bands (firesQ o u) with
      | none => rw [q] at e2; cases e2
      | some sp =>
        rw [q] at e2
        cases e2
        rcases List.mem_append.mp hx with z | z
        · exact ha a0 rfl x z
        · obtain ⟨b, hb, rfl⟩ := List.mem_map.mp z
          have pk := part_ok w (Nat.le_refl _) q
          exact behind_valid w v ho (hl u (List.mem_cons_self ..)) (pk.len b hb) (pk.lt b hb)
theorem led_valid {h : HoldM} (w : WF h) {s : SM} (v : Valid h s) {o : Nat} (ho : o ∈ ordersQ h s) {l : List SM} (e : ledQ h s o = some l) : ∀ x ∈ l, Valid h x :=
  led_valid_aux w v ho _ (fun _ h => h) (some []) (fun a ea x hx => by cases ea; cases hx) e
theorem subs_lt : ∀ b, b < 16 → (subsets b).Nodup := by decide +kernel
theorem orders_nodup {h : HoldM} (w : WF h) {s : SM} (v : Valid h s) : (ordersQ h s).Nodup := by
  unfold ordersQ
  refine List.Pairwise.filter _ ?_
  have : (subsets (freeB h s)).Pairwise (· ≠ ·) := subs_lt _ (lt16 w (free_lt w v))
  rw [List.pairwise_map]
  exact this.imp fun h => by omega
theorem orders_len {h : HoldM} (w : WF h) {s : SM} (v : Valid h s) : (ordersQ h s).length ≤ 16 := by
  unfold ordersQ
  refine Nat.le_trans (List.length_filter_le _ _) ?_
  rw [List.length_map]
  exact subs_len _ (lt16 w (free_lt w v))
/-- a hold of the law's size -/
structure Few (h : HoldM) (kb kw kf : Nat) : Prop where
  mb : ∀ r, r < h.many → (h.mk_ r).length ≤ kb + 1
  st : ∀ r s, h.st r = some s → s.stay ≤ kw ∧ s.fails ≤ kf
  cp : h.cap ≤ 4
  sz : kb ^ h.many * (2 ^ h.many * ((kw + 1) ^ h.many * ((kf + 1) ^ h.many * 5))) ≤ 1280
theorem flat_len' {α β : Type} (f : α → List β) (c : Nat) : ∀ l : List α, (∀ a ∈ l, (f a).length ≤ c) → (l.flatMap f).length ≤ l.length * c
  | [], _ => by simp
  | a :: l, h => by
    have h1 := h a (List.mem_cons_self ..)
    have h2 := flat_len' f c l fun x hx => h x (List.mem_cons_of_mem _ hx)
    rw [List.flatMap_cons, List.length_append, List.length_cons, Nat.add_mul, Nat.one_mul]
    omega
def allS (n kb kw kf : Nat) : List SM := (allB kb n).flatMap fun b => (List.range (2 ^ n)).flatMap fun u => (allB (kw + 1) n).flatMap fun w => (allB (kf + 1) n).flatMap fun f => (List.range 5).map fun x => ⟨b, u, w, f, x⟩
theorem valid_in {h : HoldM} {kb kw kf : Nat} (fw : Few h kb kw kf) {s : SM} (v : Valid h s) : s ∈ allS h.many kb kw kf := by
  have f := v.fit
  refine List.mem_flatMap.mpr ⟨s.bands, mem_allB v.bl (getD_all v.bl fun r hr => ?_), List.mem_flatMap.mpr ⟨s.burn, List.mem_range.mpr v.bu, List.mem_flatMap.mpr ⟨s.waits, mem_allB v.wl (getD_all v.wl fun r hr => ?_), List.mem_flatMap.mpr ⟨s.failed, mem_allB v.fl (getD_all v.fl fun r hr => ?_), List.mem_map.mpr ⟨s.heap, List.mem_range.mpr (by have := v.hp; have := fw.cp; omega), rfl⟩⟩⟩⟩⟩
  · have := (f r hr).1
    have := fw.mb r hr
    omega
  · have g := (f r hr).2
    show s.wt r < _
    cases e : h.st r with
    | none => rw [e] at g; have := g.2.1; omega
    | some sv => rw [e] at g; have := g.1; have := (fw.st r sv e).1; omega
  · have g := (f r hr).2
    show s.fd r < _
    cases e : h.st r with
    | none => rw [e] at g; have := g.2.2; omega
    | some sv => rw [e] at g; have := g.2.1; have := (fw.st r sv e).2; omega
theorem allS_len (n kb kw kf : Nat) : (allS n kb kw kf).length ≤ kb ^ n * (2 ^ n * ((kw + 1) ^ n * ((kf + 1) ^ n * 5))) := by
  unfold allS
  have h1 := flat_len' (fun b => (List.range (2 ^ n)).flatMap fun u => (allB (kw + 1) n).flatMap fun w => (allB (kf + 1) n).flatMap fun f => (List.range 5).map fun x => (⟨b, u, w, f, x⟩ : SM)) (2 ^ n * ((kw + 1) ^ n * ((kf + 1) ^ n * 5))) (allB kb n) fun b _ => by
    have h2 := flat_len' (fun u => (allB (kw + 1) n).flatMap fun w => (allB (kf + 1) n).flatMap fun f => (List.range 5).map fun x => (⟨b, u, w, f, x⟩ : SM)) ((kw + 1) ^ n * ((kf + 1) ^ n * 5)) (List.range (2 ^ n)) fun u _ => by
      have h3 := flat_len' (fun w => (allB (kf + 1) n).flatMap fun f => (List.range 5).map fun x => (⟨b, u, w, f, x⟩ : SM)) ((kf + 1) ^ n * 5) (allB (kw + 1) n) fun w _ => by
        have h4 := flat_len' (fun f => (List.range 5).map fun x => (⟨b, u, w, f, x⟩ : SM)) 5 (allB (kf + 1) n) fun f _ => by simp
        rw [allB_len] at h4
        exact h4
      rw [allB_len] at h3
      exact h3
    rw [List.length_range] at h2
    exact h2
  rw [allB_len] at h1
  exact h1
theorem valid_few {h : HoldM} {kb kw kf : Nat} (fw : Few h kb kw kf) {ks : List SM} (nd : ks.Nodup) (v : ∀ s ∈ ks, Valid h s) : ks.length ≤ 1280 :=
  Nat.le_trans (Nat.le_trans (nodup_le ks _ nd fun s hs => valid_in fw (v s hs)) (allS_len ..)) fw.sz
end SK
set_option maxRecDepth 100000
set_option maxHeartbeats 4000000
namespace SK
open PySem L2 PyProof.Rows
structure Closed (h : HoldM) (ks l : List SM) : Prop where
  nd : ks.Nodup
  st : ∀ s ∈ l, s ∈ ks
  va : ∀ s ∈ ks, Valid h s
  cl : ∀ s ∈ ks, ∀ o ∈ ordersQ h s, ∀ l', ledQ h s o = some l' → ∀ x ∈ l', x ∈ ks
theorem addM_mem {ks : List SM} : ∀ {l : List SM} {x : SM}, x ∈ addM ks l ↔ x ∈ ks ∨ x ∈ l := fun {l} => by
  induction l generalizing ks with
  | nil => intro x; simp [addM]
  | cons a l ih =>
    intro x
    show x ∈ addM (if a ∈ ks then ks else ks ++ [a]) l ↔ _
    rw [ih]
    by_cases q : a ∈ ks
    · rw [if_pos q]
      constructor
      · rintro (z | z)
        · exact .inl z
        · exact .inr (List.mem_cons_of_mem _ z)
      · rintro (z | z)
        · exact .inl z
        · rcases List.mem_cons.mp z with rfl | z
          · exact .inl q
          · exact .inr z
    · rw [if_neg q, List.mem_append, List.mem_singleton, List.mem_cons, or_assoc]
theorem addM_nodup {ks : List SM} : ∀ {l : List SM}, ks.Nodup → (addM ks l).Nodup := fun {l} => by
  induction l generalizing ks with
  | nil => intro h; exact h
  | cons a l ih =>
    intro h
    show (addM (if a ∈ ks then ks else ks ++ [a]) l).Nodup
    refine ih ?_
    split
    · exact h
    · rename_i q
      refine List.nodup_append.mpr ⟨h, by simp, fun x hx y hy => ?_⟩
      have : y = a := by simpa using hy
      rw [this]
      exact fun z => q (z ▸ hx)
theorem nPut_mid {A C : NKV} {k : NestedKey} {b0 b : Addr} {v0 v : V} (nd : ((A ++ (k, b0, v0) :: C).map (·.1)).Nodup) : nPut (A ++ (k, b0, v0) :: C) k b v = A ++ (k, b0, v) :: C := by
  rw [List.map_append, List.map_cons] at nd
  obtain ⟨n1, n2, n3⟩ := List.nodup_append.mp nd
  rw [List.nodup_cons] at n2
  have hs : (nVal (A ++ (k, b0, v0) :: C) k).isSome = true := by
    cases q : nVal (A ++ (k, b0, v0) :: C) k with
    | some _ => rfl
    | none =>
      have := nVal_none q
      exact absurd (by simp) this
  unfold nPut
  rw [if_pos hs, List.map_append, List.map_cons]
  have e : ∀ (L : NKV), (∀ x ∈ L, x.1 ≠ k) → L.map (fun x => if x.1 = k then (x.1, x.2.1, v) else x) = L := fun L hL => by
    conv => rhs; rw [← List.map_id L]
    refine List.map_congr_left fun x hx => ?_
    rw [if_neg (hL x hx)]
    rfl
  rw [e A fun x hx z => n3 _ (List.mem_map.mpr ⟨x, hx, rfl⟩) k (List.mem_cons_self ..) z, e C fun x hx z => n2.1 (z ▸ List.mem_map.mpr ⟨x, hx, rfl⟩)]
  simp
section
variable {X : Cx} {ρ : Rho} {M : Fin} {e b ix : Expr} {es : List Expr} {d : D} {h : HoldM} {sp pr pk : Addr} {dn : List Dn} {td : List (SM × Addr)} {cur : Option Cur} {st : List Stmt} {pos p px py apos cpos spos : Pos} {x y : Str} {mg : Str → Option Value}
/-- known[state] = ways -/
theorem ds_keep {i j : Nat} {s : SM} {kb : Addr} {c : Cur} (hu : X.A.units + 64 < cLine) (hc : c.wl = waysQ h s) (nd : (ksOf dn ((s, kb) :: td)).Nodup) (hl : (ksOf dn ((s, kb) :: td)).length ≤ 2000) (hix : DE X (some (.mem (gm X.K X.prog X.w h sp pr pk dn ((s, kb) :: td) (some c))) :: ρ) ix (eS s))
    (rest : DS X (some (.mem (gm X.K X.prog X.w h sp pr pk (dn ++ [⟨s, kb, c.p, c.ws⟩]) td none)) :: ρ) st M) (hi : (some (Bd.mem (gm X.K X.prog X.w h sp pr pk dn ((s, kb) :: td) (some c))) :: ρ)[i]? = some (some (.val (.adr pk)))) (hN : X.N[i]? = some x) (hj : (some (Bd.mem (gm X.K X.prog X.w h sp pr pk dn ((s, kb) :: td) (some c))) :: ρ)[j]? = some (some (.val (.adr c.p)))) (hNj : X.N[j]? = some y) (hm : noMem ρ = true := by rfl) (hv : Vis X.env.scope x := by first | exact Or.inl rfl | exact Or.inr (Or.inl rfl) | exact Or.inr (Or.inr rfl)) (hd : (x == ("__debug__" : Str)) = false := by decide) (hcd : (x == ("__classdict__" : Str)) = false := by decide)
    (hv2 : Vis X.env.scope y := by first | exact Or.inl rfl | exact Or.inr (Or.inl rfl) | exact Or.inr (Or.inr rfl)) (hd2 : (y == ("__debug__" : Str)) = false := by decide) (hcd2 : (y == ("__classdict__" : Str)) = false := by decide)
    (hs : swapsWith (.Name y py) (some (.Subscript (.Name x p) ix spos)) pos.line X.env = pure false := by rfl) : DS X (some (.mem (gm X.K X.prog X.w h sp pr pk dn ((s, kb) :: td) (some c))) :: ρ) (.Assign [.Subscript (.Name x p) ix spos] (.Name y py) pos :: st) M :=
  fun A B σ H H1 E t f => ts_cons (ps_nput hu (pe_var hN hv hd hcd) pe_of (pe_var hNj hv2 hd2 hcd2) hs) (by
    refine ⟨_, adr_at t hj, _, adr_at t hi, hix A B σ H H1 _ t fun v G H2 st r => ?_⟩
    obtain ⟨kb', rfl⟩ : ∃ kb, v = .ref kb := by
      cases r with
      | tup _ _ => exact ⟨_, rfl⟩
    have t2 := t.step st
    have ho := t2.jel rfl
    obtain ⟨a, ea, rfl, d0, spans, g⟩ := t2.me 0 _ rfl
    obtain ⟨h1, h2, h3⟩ := g.ow.at_ (i := 2) rfl
    have hk := keys_kn (dn := dn) (td := (s, kb) :: td)
    have hlen : (dnE dn ++ newE ((s, kb) :: td)).length = (ksOf dn ((s, kb) :: td)).length := by
      rw [← List.length_map (f := (·.1)) (as := dnE dn ++ newE ((s, kb) :: td)), hk, List.length_map]
    refine ⟨pk, _, eS s, kb', rfl, rfl, ⟨G, t2.up, .inl h1, kok_kn g.kn, isKey_eS _, depth_eS _, r, kb', rfl⟩, h1, by rw [hlen]; exact Nat.lt_of_le_of_lt hl (by decide), ?_⟩
    have nd2 : ((dnE dn ++ newE ((s, kb) :: td)).map (·.1)).Nodup := by
      rw [hk]
      exact (List.pairwise_map.mpr (nd.imp fun hne z => hne (kS_inj_ z)))
    have e1 : nPut (dnE dn ++ newE ((s, kb) :: td)) (kS_ s) kb' (V.ref c.p) = dnE (dn ++ [⟨s, kb, c.p, c.ws⟩]) ++ newE td := by
      refine (nPut_mid (A := dnE dn) (C := newE td) (k := kS_ s) (b0 := kb) (v0 := .non) nd2).trans ?_
      unfold dnE
      rw [List.map_append]
      simp
    rw [e1]
    have ow2 := g.ow.put (o' := dN X.prog X.w pk (dnE (dn ++ [⟨s, kb, c.p, c.ws⟩]) ++ newE td)) (i := 2) rfl
    have e2 : ((d0, dN X.prog X.w d0 spans) :: knL X.prog X.w pr pk (dn ++ [⟨s, kb, c.p, c.ws⟩]) td none) = (((d0, dN X.prog X.w d0 spans) :: knL X.prog X.w pr pk dn ((s, kb) :: td) (some c))).set 2 (pk, dN X.prog X.w pk (dnE (dn ++ [⟨s, kb, c.p, c.ws⟩]) ++ newE td)) := by
      unfold knL curL dnL rowV newR
      simp
    refine rest A B σ G _ E (t2.swap hm ho (t2.toLt.put h2 h3) (Same.refl _) (.mem (gm X.K X.prog X.w h a pr pk (dn ++ [⟨s, kb, c.p, c.ws⟩]) td none)) rfl ⟨a, ea, rfl, d0, spans, by rw [e2]; exact ow2, g.sr.upd (fun C dx fs z => by rw [h1] at z; cases z), fun x hx => ?_, fun x hx => ?_, fun x hx => g.kn.t1 x (List.mem_cons_of_mem _ hx), fun c hc => by cases hc⟩) (f.mono st.s1)
    · rcases List.mem_append.mp hx with z | z
      · exact g.kn.d1 x z
      · obtain rfl := List.mem_singleton.mp z
        exact g.kn.t1 (s, kb) (List.mem_cons_self ..)
    · rcases List.mem_append.mp hx with z | z
      · exact g.kn.d2 x z
      · obtain rfl := List.mem_singleton.mp z
        rw [← hc]
        exact g.kn.c1 c rfl)
/-- row = [], known = {} -/
theorem ds_begin (i j : Nat) (nd : X.N.Nodup) (hij : i ≠ j) (M : Addr → Addr → Fin) (rest : ∀ pr pk, DS X (some (.mem (gm X.K X.prog X.w h sp pr pk [] [] none)) :: (ρ.set i (some (.val (.adr pr)))).set j (some (.val (.adr pk)))) st (M pr pk)) {A B : Hp} {σ : L2.St} {H H1 : Hp} {E : Ends} (t : At X.K A B (some (.mem (spr X.K X.prog X.w h sp)) :: ρ) σ H H1) (f : ∀ pr pk, Fits X.K A B (M pr pk) E H) (hm : noMem ρ = true := by rfl) (ho : noOwn ρ = true := by rfl) (hi : X.N[i + 1]? = some x := by rfl) (hj : X.N[j + 1]? = some y := by rfl) (hx : Loc X.env.scope x := by first | exact Or.inl rfl | exact Or.inr rfl) (hy : Loc X.env.scope y := by first | exact Or.inl rfl | exact Or.inr rfl)
    {lpos lp2 : Pos} (hs : swapsWith (.List [] lpos) (some (.Name x p)) pos.line X.env = pure false := by rfl) (hs2 : swapsWith (.Dict [] [] lp2) (some (.Name y py)) spos.line X.env = pure false := by rfl) (hf : X.fn x = true ∨ X.env.scope.names.lookup x = some .local := by first | exact .inl rfl | exact .inr rfl) (hf2 : X.fn y = true ∨ X.env.scope.names.lookup y = some .local := by first | exact .inl rfl | exact .inr rfl) :
    tsOf X (.Assign [.Name x p] (.List [] lpos) pos :: .Assign [.Name y py] (.Dict [] [] lp2) spos :: st) E σ H1 :=
  ts_cons (ps_set nd hi hx pe_of hs hf) ((do_lst da_nil) A B σ H H1 _ t fun pr us G H2 s n g h2 r => by
    cases r
    refine ts_cons (ps_set nd hj hy pe_dnewN hs2 hf2) ?_
    intro pk hq
    have t2 := t.step s
    obtain ⟨a, ea, rfl, d0, spans, sa⟩ := t2.me 0 _ rfl
    have n1 : ∀ q o, H2 q = some o → q ≠ pk := fun q o z e => by rw [e, hq] at z; cases z
    have n0 : pr ≠ d0 := ne_of h2 sa.di dN_ne
    have ow : OwnL B G (upd H2 pk (dN X.prog X.w pk [])) ((d0, dN X.prog X.w d0 spans) :: knL X.prog X.w pr pk [] [] none) := by
      refine ⟨?_, fun x hx => ?_⟩
      · show [d0, pr, pk].Nodup
        have a1 := n1 d0 _ sa.di
        have a2 := n1 pr _ h2
        simp [a1, a2, n0.symm]
      · have hx2 : x ∈ [(d0, dN X.prog X.w d0 spans), (pr, HO.lst []), (pk, dN X.prog X.w pk [])] := hx
        simp only [List.mem_cons, List.not_mem_nil, or_false] at hx2
        rcases hx2 with rfl | rfl | rfl
        · exact ⟨by rw [upd_ne (n1 _ _ sa.di)]; exact sa.di, sa.hd, sa.bd⟩
        · exact ⟨by rw [upd_ne (n1 _ _ h2)]; exact h2, g, t.bn.free n⟩
        · exact ⟨upd_same, t2.up.free hq, t2.bn.free hq⟩
    have sr : SpR X.K h G (upd H2 pk (dN X.prog X.w pk [])) a d0 spans := SpR.upd ⟨sa.ob, sa.ks, sa.sp, sa.nd⟩ fun C dx fs z => by rw [hq] at z; cases z
    have t3 := t2.swap hm ho (t2.toLt.put (t2.up.free hq) (t2.bn.free hq)) (Same.refl _) (.mem (gm X.K X.prog X.w h a pr pk [] [] none)) rfl ⟨a, ea, rfl, d0, spans, ow, sr, ⟨(fun x hx => by cases hx), (fun x hx => by cases hx), (fun x hx => by cases hx), (fun c hc => by cases hc)⟩⟩
    have t4 := (t3.set (i + 1) (d := .adr pr) .adr).set (j + 1) (d := .adr pk) .adr
    exact rest pr pk A B _ G _ E t4 ((f pr pk).mono s.s1))
end
def spS (K : PySem.W.Frag) (P : Program) (w : World) : Sp := fun vs H1 Q _ => ∃ (sp : Addr) (v1 v2 : V) (h : HoldM) (l : List SM) (kb kw kf : Nat) (B H : Hp), vs = [.ref sp, v1, v2, .int 2000] ∧ Same H H1 ∧ Same B H1 ∧ (spr K P w h sp).ok B H H1 sp ∧ Rep K H (eH K h) v1 ∧ Rep K H (eSS l) v2 ∧ WF h ∧ Few h kb kw kf ∧ (∀ s ∈ l, Valid h s) ∧
  ∀ G H2 (pk : Addr) (dn : List Dn), Same H G → Same G H2 → Same B H2 → (∀ x o, G x = some o → H x = some o ∨ B x = none) → OwnL B G H2 ((pk, dN P w pk (dnE dn)) :: dnL dn) → KnR K h G dn [] none → Closed h (dn.map (·.s)) l → Q (.ref pk) H2
theorem ksOf_nil (dn : List Dn) : ksOf dn [] = dn.map (·.s) := List.append_nil _
theorem ways_key (h : HoldM) (s : SM) (j : Nat) : (((ordersQ h s).take j).map fun o => (o, ledQ h s o)).map (·.1) = (ordersQ h s).take j := by
  rw [List.map_map]
  exact List.map_id _
theorem nodup_take_not {α : Type} {l : List α} (nd : l.Nodup) {i : Nat} {a : α} (h : l[i]? = some a) : a ∉ l.take i := fun z => by
  have e := take_next h
  have : (l.take (i + 1)).Nodup := nd.sublist (List.take_sublist ..)
  rw [e, List.nodup_append] at this
  exact this.2.2 a z a (by simp) rfl
section
variable {P : Program} {w : World} {K : PySem.W.Frag} {mg : Str → Option Value} {base : Heap}
theorem f_states_by (T : Prg K mg) : ∃ fd, FunD K "states_by" "states_by" (defArgs s_states_by) (defBody s_states_by) (defScope s_states_by) [] [] (He.ga K "states_by") fd ∧ FnOk P w K mg base CX0 11 (He.ga K "states_by") fd ["spread", "hold", "states", "limit"] (spS K P w) := by
  obtain ⟨fd, F⟩ := F_states_by T
  refine ⟨fd, F, F.ok sc_states_by (fun vs H Q E h => ?_) (fun cdv A outer s H vs Q E hr h => ?_)⟩
  · obtain ⟨_, _, _, _, _, _, _, _, _, _, rfl, _⟩ := h
    rfl
  · obtain ⟨sp, v1, v2, h, l, kb, kw, kf, B, Hv, rfl, e, eb, m, r1, r2, wf, fw, vl, q⟩ := h
    refine ⟨_, PSs.nox (pss_of (X := cx P w K mg base n_states_by "states_by" (defScope s_states_by) (He.ga K "states_by") cdv A outer s H E)), ?_⟩
    have t := at_memo (K := K) (N := ["hold", "states", "limit", "row", "known", "at", "ways", "order"]) (M := spr K P w h sp) (ds := [eH K h, eSS l, .int 2000]) (ws := [v1, v2, .int 2000]) e eb (.cons r1 (.cons r2 (.cons .int .nil))) m
    have nd := sc_states_by.nd
    have hu := hr.units
    refine ds_begin (X := cx P w K mg base n_states_by "states_by" (defScope s_states_by) (He.ga K "states_by") cdv A outer s H E) 3 4 nd (by decide) (fun pr pk => ⟨fun _ => False, fun d => d = .adr pk, fun ρ => ∃ dn, Closed h (dn.map (·.s)) l ∧ ρ[0]? = some (some (.mem (gm K P w h sp pr pk dn [] none)))⟩) (fun pr pk => ?_) t fun pr pk => ⟨fun ρ σ G H2 z => z.elim, fun d' v ρ σ G H2 z z2 b c' r => ?_⟩
    · show DS _ [some (.mem (gm K P w h sp pr pk [] [] none)), some (.val (eH K h)), some (.val (eSS l)), some (.val (.int 2000)), some (.val (.adr pr)), some (.val (.adr pk)), none, none, none] _ _
      have few : ∀ ks : List SM, ks.Nodup → (∀ s ∈ ks, Valid h s) → ks.length ≤ 2000 := fun ks n v => Nat.le_trans (valid_few fw n v) (by decide)
      have va0 : ∀ s ∈ addM [] l, Valid h s := fun s hs => (addM_mem.mp hs).elim (fun z => by cases z) (vl s)
      refine ds_addM T (hr.mono (by decide)) (da_cons (nm 4) (da_cons (nm 5) (da_cons (nm 2) (da_one (nm 3))))) (few _ (addM_nodup List.nodup_nil) va0) fun td0 h0 => ?_
      have ek0 : ksOf [] td0 = addM [] l := h0.symm
      refine asg 6 nd (d := nI 0) de_int ?_
      refine whl (fun m ρ' => ∃ dn td b7 b8, m = 2000 - dn.length ∧ (ksOf dn td).Nodup ∧ (∀ s ∈ ksOf dn td, Valid h s) ∧ (∀ s ∈ l, s ∈ ksOf dn td) ∧ (∀ x ∈ dn, ∀ o ∈ ordersQ h x.s, ∀ l', ledQ h x.s o = some l' → ∀ y ∈ l', y ∈ ksOf dn td) ∧
        ρ' = [some (.mem (gm K P w h sp pr pk dn td none)), some (.val (eH K h)), some (.val (eSS l)), some (.val (.int 2000)), some (.val (.adr pr)), some (.val (.adr pk)), some (.val (nI dn.length)), Option.map Bd.val b7, Option.map Bd.val b8]) 2000
        ⟨[], td0, none, none, rfl, by rw [ek0]; exact addM_nodup List.nodup_nil, by rw [ek0]; exact va0, fun s hs => by rw [ek0]; exact addM_mem.mpr (.inr hs), (fun x hx => by cases hx), rfl⟩ ?_
      rintro m ρ' ⟨dn, td, b7, b8, rfl, hnd, hva, hst, hcl, rfl⟩
      have hnm : noMem [Option.map Bd.val b7, Option.map Bd.val b8] = true := by cases b7 <;> cases b8 <;> rfl
      refine ⟨_, dt_lt (nm 6) (de_lenRow (i := 4) (b_len T) rfl rfl), fun hb => ?_, fun hb => ?_⟩
      · have hlt : dn.length < (ksOf dn td).length := by have := of_decide_eq_true hb; omega
        cases td with
        | nil =>
          rw [ksOf_nil, List.length_map] at hlt
          omega
        | cons x td =>
          obtain ⟨s, kb'⟩ := x
          have hsx : (ksOf dn ((s, kb') :: td))[dn.length]? = some s := by
            unfold ksOf
            rw [List.getElem?_append_right (by rw [List.length_map]; exact Nat.le_refl _), List.length_map, Nat.sub_self]
            rfl
          have hsm : s ∈ ksOf dn ((s, kb') :: td) := List.mem_of_getElem? hsx
          have vs := hva s hsm
          have ol := orders_len wf vs
          have ond := orders_nodup wf vs
          refine ds_newW 6 nd (fun pw => ?_) (hm := by cases b7 <;> cases b8 <;> rfl)
          refine forL (ordersQ h s) nI 8 nd (call (c_orders T) (hr.mono (by decide)) (da_cons (nm 1) (da_one (de_rowAt (i := 4) (nm 6) hsx rfl rfl))) ⟨h, s, wf, vs, rfl, rfl⟩)
            (fun j ρ' => ∃ td' ws b8, (ksOf dn ((s, kb') :: td')).Nodup ∧ (∀ s' ∈ ksOf dn ((s, kb') :: td'), Valid h s') ∧ (∀ s' ∈ ksOf dn ((s, kb') :: td), s' ∈ ksOf dn ((s, kb') :: td')) ∧ (∀ o ∈ (ordersQ h s).take j, ∀ l', ledQ h s o = some l' → ∀ y ∈ l', y ∈ ksOf dn ((s, kb') :: td')) ∧
              ρ' = [some (.mem (gm K P w h sp pr pk dn ((s, kb') :: td') (some ⟨pw, ws, ((ordersQ h s).take j).map fun o => (o, ledQ h s o)⟩))), some (.val (eH K h)), some (.val (eSS l)), some (.val (.int 2000)), some (.val (.adr pr)), some (.val (.adr pk)), some (.val (nI dn.length)), some (.val (.adr pw)), Option.map Bd.val b8])
            ⟨td, [], b8, hnd, hva, fun _ z => z, (fun o ho => by cases ho), rfl⟩ ?_ ?_
          · rintro j o ρ' hj ⟨td', ws, b8, knd, kva, kst, kcl, rfl⟩
            have hom : o ∈ ordersQ h s := List.mem_of_getElem? hj
            have hsx' : (ksOf dn ((s, kb') :: td'))[dn.length]? = some s := by
              unfold ksOf
              rw [List.getElem?_append_right (by rw [List.length_map]; exact Nat.le_refl _), List.length_map, Nat.sub_self]
              rfl
            have hnew : o ∉ (((ordersQ h s).take j).map fun o => (o, ledQ h s o)).map (·.1) := by
              rw [ways_key]
              exact nodup_take_not ond hj
            have hwl : (((ordersQ h s).take j).map fun o => (o, ledQ h s o)).length < 1000 := by
              rw [List.length_map, List.length_take]
              omega
            have enx : (((ordersQ h s).take j).map fun o => (o, ledQ h s o)) ++ [(o, ledQ h s o)] = ((ordersQ h s).take (j + 1)).map fun o => (o, ledQ h s o) := by
              rw [take_next hj, List.map_append]
              rfl
            refine ds_putW (i := 7) hu (dm_led T hr wf vs hom (da_cons (de_rowAt (i := 4) (nm 6) hsx' rfl rfl) (da_one (nm 8)))) (nm 8) hnew hwl rfl rfl fun u => ?_
            rw [enx]
            have hin : (o, ledQ h s o) ∈ ((ordersQ h s).take (j + 1)).map fun o => (o, ledQ h s o) := by
              rw [← enx]
              exact List.mem_append_right _ (List.mem_singleton.mpr rfl)
            have hwn : ((((ordersQ h s).take (j + 1)).map fun o => (o, ledQ h s o)).map (·.1)).Nodup := by
              rw [ways_key]
              exact ond.sublist (List.take_sublist ..)
            refine ds_if (dt_notN (de_ways (i := 7) (c := ⟨pw, ws ++ [(kO o, u)], ((ordersQ h s).take (j + 1)).map fun o => (o, ledQ h s o)⟩) hu hwn hin (nm 8) rfl rfl) de_non) (fun hb2 => ?_) fun hb2 => ds_nil (ds_nil ?_)
            · cases el : ledQ h s o with
              | none =>
                rw [el] at hb2
                cases hb2
              | some l' =>
                have vl' := led_valid wf vs hom el
                have va2 : ∀ s' ∈ addM (ksOf dn ((s, kb') :: td')) l', Valid h s' := fun s' hs' => (addM_mem.mp hs').elim (kva s') (vl' s')
                refine ds_addM (l := l') T (hr.mono (by decide)) (da_cons (nm 4) (da_cons (nm 5) (da_cons (de_is (de_ways (i := 7) (c := ⟨pw, ws ++ [(kO o, u)], ((ordersQ h s).take (j + 1)).map fun o => (o, ledQ h s o)⟩) hu hwn hin (nm 8) rfl rfl) (by rw [el]; rfl)) (da_one (nm 3))))) (few _ (addM_nodup knd) va2) fun nb hnb => ds_nil (ds_nil ?_)
                have e9 : ksOf dn ((s, kb') :: td' ++ nb) = ksOf dn ((s, kb') :: (td' ++ nb)) := rfl
                refine ⟨td' ++ nb, _, some (nI o), by rw [← e9, ← hnb]; exact addM_nodup knd, by rw [← e9, ← hnb]; exact va2, fun s' hs' => by rw [← e9, ← hnb]; exact addM_mem.mpr (.inl (kst s' hs')), fun o' ho' l2 hl2 y hy => ?_, rfl⟩
                rw [← e9, ← hnb]
                rw [take_next hj] at ho'
                rcases List.mem_append.mp ho' with z | z
                · exact addM_mem.mpr (.inl (kcl o' z l2 hl2 y hy))
                · obtain rfl := List.mem_singleton.mp z
                  rw [el] at hl2
                  cases hl2
                  exact addM_mem.mpr (.inr hy)
            · have el : ledQ h s o = none := by
                cases q : ledQ h s o with
                | none => rfl
                | some l' => rw [q] at hb2; cases hb2
              refine ⟨td', _, some (nI o), knd, kva, kst, fun o' ho' l2 hl2 y hy => ?_, rfl⟩
              rw [take_next hj] at ho'
              rcases List.mem_append.mp ho' with z | z
              · exact kcl o' z l2 hl2 y hy
              · obtain rfl := List.mem_singleton.mp z
                rw [el] at hl2
                cases hl2
          · rintro ρ' ⟨td', ws, b8, knd, kva, kst, kcl, rfl⟩
            rw [List.take_length] at kcl ⊢
            have hsx' : (ksOf dn ((s, kb') :: td'))[dn.length]? = some s := by
              unfold ksOf
              rw [List.getElem?_append_right (by rw [List.length_map]; exact Nat.le_refl _), List.length_map, Nat.sub_self]
              rfl
            have ek : ksOf (dn ++ [⟨s, kb', pw, ws⟩]) td' = ksOf dn ((s, kb') :: td') := by
              unfold ksOf
              simp
            refine ds_keep (i := 5) (j := 7) (c := ⟨pw, ws, (ordersQ h s).map fun o => (o, ledQ h s o)⟩) hu rfl knd (few _ knd kva) (de_rowAt (i := 4) (nm 6) hsx' rfl rfl) ?_ rfl rfl rfl rfl (hm := by cases b8 <;> rfl)
            have hdl := few _ knd kva
            have hdl2 : dn.length < (ksOf dn ((s, kb') :: td')).length := (List.getElem?_eq_some_iff.mp hsx').1
            refine asg 6 nd (d := nI (dn.length + 1)) (de_is (de_add (nm 6) de_int) rfl) (ds_nil ⟨2000 - (dn.length + 1), by omega, dn ++ [⟨s, kb', pw, ws⟩], td', some (.adr pw), b8, by rw [List.length_append]; rfl, by rw [ek]; exact knd, by rw [ek]; exact kva, fun s' hs' => by rw [ek]; exact kst s' (hst s' hs'), fun x hx o ho l2 hl2 y hy => ?_, ?_⟩)
            · rw [ek]
              rcases List.mem_append.mp hx with z | z
              · exact kst y (hcl x z o ho l2 hl2 y hy)
              · obtain rfl := List.mem_singleton.mp z
                exact kcl o ho l2 hl2 y hy
            · rw [List.length_append]
              rfl
      · have hge : ¬ dn.length < (ksOf dn td).length := by have := of_decide_eq_false hb; omega
        have htd : td = [] := by
          cases td with
          | nil => rfl
          | cons x td =>
            exfalso
            apply hge
            unfold ksOf
            rw [List.length_append, List.length_map, List.length_map, List.length_cons]
            omega
        subst htd
        rw [ksOf_nil] at hnd hva hst hcl
        exact ds_ret (de_adr 5) rfl ⟨dn, ⟨hnd, hst, hva, fun s hs o ho l' hl' y hy => by
          obtain ⟨x, hx, rfl⟩ := List.mem_map.mp hs
          exact hcl x hx o ho l' hl' y hy⟩, rfl⟩
    · have z1 : d' = .adr pk := z
      subst z1
      cases r
      obtain ⟨dn, hc, z3⟩ := z2
      obtain ⟨a', ea, rfl, d0, spans, g⟩ := b.me 0 _ z3
      refine q G H2 pk dn c' b.up b.bn (fun x o z => b.nw x o z) ?_ g.kn hc
      have w1 := g.ow
      have nd3 := w1.1
      have en : dnE dn ++ newE [] = dnE dn := List.append_nil _
      unfold knL curL at w1 nd3
      rw [List.append_nil, en] at w1 nd3
      rw [List.map_cons, List.map_cons, List.nodup_cons, List.nodup_cons] at nd3
      exact ⟨nd3.2.2, fun x hx => w1.2 x (List.mem_cons_of_mem _ (List.mem_cons_of_mem _ hx))⟩
end
end SK
set_option maxRecDepth 100000
set_option maxHeartbeats 4000000
/-! Things owned, given in the open; dicts read, locked, walked. -/
namespace SK
open PySem L2 PyProof.Rows
structure Fact where
  p : Hp → Prop
  m : ∀ {H G : Hp}, Same H G → p H → p G
def om (a0 : Addr) (L : List (Addr × HO)) (R : Fact) : Memo where
  ok := fun B H H1 a => a = a0 ∧ OwnL B H H1 L ∧ R.p H
  step := fun ⟨e, w, r⟩ s => ⟨e, w.step s, R.m s.s1 r⟩
  jl := true
  put := fun z => by cases z
  see := fun z => by cases z
def frzA (d : Addr) (od : Obj) (L : List (Addr × HO)) : List (Addr × HO) := L.map fun x => if x.1 = d then (x.1, HO.frz od x.2) else x
theorem frzA_fst (d : Addr) (od : Obj) (L : List (Addr × HO)) : (frzA d od L).map (·.1) = L.map (·.1) := by
  unfold frzA
  rw [List.map_map]
  refine List.map_congr_left fun x _ => ?_
  show (if x.1 = d then (x.1, HO.frz od x.2) else x).1 = x.1
  split <;> rfl
theorem nodup_fst {L : List (Addr × HO)} (nd : (L.map (·.1)).Nodup) {x y : Addr × HO} (hx : x ∈ L) (hy : y ∈ L) (e : x.1 = y.1) : x = y := by
  obtain ⟨i, hi⟩ := List.mem_iff_getElem?.mp hx
  obtain ⟨j, hj⟩ := List.mem_iff_getElem?.mp hy
  have p1 : (L.map (·.1))[i]? = some x.1 := by rw [List.getElem?_map, hi]; rfl
  have p2 : (L.map (·.1))[j]? = some x.1 := by rw [List.getElem?_map, hj, e]; rfl
  have hl : i < (L.map (·.1)).length := (List.getElem?_eq_some_iff.mp p1).1
  have := (List.getElem?_inj hl nd).mp (p1.trans p2.symm)
  rw [this, hj] at hi
  exact (Option.some.inj hi).symm
theorem frzA_off {d : Addr} {od : Obj} {L : List (Addr × HO)} (h : ∀ x ∈ L, x.1 ≠ d) : frzA d od L = L := by
  unfold frzA
  conv => rhs; rw [← List.map_id L]
  refine List.map_congr_left fun x hx => ?_
  rw [if_neg (h x hx)]
  rfl
theorem frzA_app (d : Addr) (od : Obj) (L M : List (Addr × HO)) : frzA d od (L ++ M) = frzA d od L ++ frzA d od M := List.map_append
theorem frzA_mem {d e : Addr} {od : Obj} {u : HO} {L : List (Addr × HO)} (h : (e, u) ∈ L) (n : e ≠ d) : (e, u) ∈ frzA d od L := List.mem_map.mpr ⟨(e, u), h, if_neg n⟩
theorem frzA_at {d : Addr} {od : Obj} {u : HO} {L : List (Addr × HO)} (h : (d, u) ∈ L) : (d, HO.frz od u) ∈ frzA d od L := List.mem_map.mpr ⟨(d, u), h, if_pos rfl⟩
section
variable {B H H1 : Hp} {L : List (Addr × HO)} {d : Addr} {od : Obj} {u : HO}
theorem OwnL.lock (w : OwnL B H H1 L) (h : (d, u) ∈ L) : OwnL B H (upd H1 d (.frz od u)) (frzA d od L) := by
  refine ⟨by rw [frzA_fst]; exact w.1, fun x hx => ?_⟩
  obtain ⟨y, hy, rfl⟩ := List.mem_map.mp hx
  by_cases q : y.1 = d
  · have e := nodup_fst w.1 hy h q
    subst e
    rw [if_pos rfl]
    exact ⟨upd_same, (w.2 _ h).2⟩
  · rw [if_neg q]
    exact ⟨by rw [upd_ne q]; exact (w.2 _ hy).1, (w.2 _ hy).2⟩
theorem OwnL.unlock (w : OwnL B H H1 (frzA d od L)) (h : (d, u) ∈ L) : OwnL B H (upd H1 d u) L := by
  have nd : (L.map (·.1)).Nodup := by rw [← frzA_fst d od]; exact w.1
  refine ⟨nd, fun x hx => ?_⟩
  by_cases q : x.1 = d
  · have e := nodup_fst nd hx h q
    subst e
    exact ⟨upd_same, (w.2 _ (frzA_at h)).2⟩
  · have := w.2 x (frzA_mem (e := x.1) (u := x.2) hx q)
    exact ⟨by rw [upd_ne q]; exact this.1, this.2⟩
end
def Has (L : List (Addr × HO)) (d : Addr) (u : HO) : Prop := (d, u) ∈ L ∨ ∃ od, (d, HO.frz od u) ∈ L
theorem Has.rd {B H H1 : Hp} {L : List (Addr × HO)} {d : Addr} {u : HO} (h : Has L d u) (w : OwnL B H H1 L) : Rd H1 d u := by
  rcases h with h | ⟨od, h⟩
  · exact .inl (w.2 _ h).1
  · exact .inr ⟨od, (w.2 _ h).1⟩
theorem Has.frz {L : List (Addr × HO)} {d e : Addr} {u : HO} {od : Obj} (h : Has L d u) (n : d = e → (d, u) ∈ L) : Has (frzA e od L) d u := by
  by_cases q : d = e
  · subst q
    exact .inr ⟨od, frzA_at (n rfl)⟩
  · rcases h with h | ⟨od', h⟩
    · exact .inl (frzA_mem h q)
    · exact .inr ⟨od', frzA_mem h q⟩
theorem Has.left {L M : List (Addr × HO)} {d : Addr} {u : HO} (h : Has L d u) : Has (L ++ M) d u := h.imp (fun h => List.mem_append_left _ h) fun ⟨od, h⟩ => ⟨od, List.mem_append_left _ h⟩
/-- the ways of all states, as they stand -/
def knK (P : Program) (w : World) (pk : Addr) (dn : List Dn) : List (Addr × HO) := (pk, dN P w pk (dnE dn)) :: dnL dn
structure KSee (K : PySem.W.Frag) (P : Program) (w : World) (h : HoldM) (pk : Addr) (dn : List Dn) (L : List (Addr × HO)) (R : Fact) : Prop where
  hk : Has L pk (dN P w pk (dnE dn))
  hw : ∀ x ∈ dn, Has L x.p (.dK x.ws)
  rk : ∀ H, R.p H → ∀ x ∈ dn, Rep K H (eS x.s) (.ref x.b)
  rw_ : ∀ H, R.p H → ∀ x ∈ dn, WsR K H (waysQ h x.s) x.ws
theorem kok_dn {K : PySem.W.Frag} {H : Hp} {dn : List Dn} (k : ∀ x ∈ dn, Rep K H (eS x.s) (.ref x.b)) : KOk K H (dnE dn) := fun x hx => by
  obtain ⟨z, hz, rfl⟩ := List.mem_map.mp hx
  exact ⟨eS z.s, rfl, isKey_eS _, depth_eS _, k z hz⟩
theorem dn_val {dn : List Dn} (nd : (dn.map (·.s)).Nodup) {x : Dn} (hx : x ∈ dn) : nVal (dnE dn) (kS_ x.s) = some (V.ref x.p) := by
  cases q : nVal (dnE dn) (kS_ x.s) with
  | none =>
    exact absurd (List.mem_map.mpr ⟨_, List.mem_map.mpr ⟨x, hx, rfl⟩, rfl⟩) (nVal_none q)
  | some v =>
    obtain ⟨y, hy, e1, e2⟩ := nVal_mem q
    obtain ⟨z, hz, rfl⟩ := List.mem_map.mp hy
    have e3 : z.s = x.s := kS_inj_ e1
    have : z = x := by
      obtain ⟨i, hi⟩ := List.mem_iff_getElem?.mp hz
      obtain ⟨j, hj⟩ := List.mem_iff_getElem?.mp hx
      have p1 : (dn.map (·.s))[i]? = some z.s := by rw [List.getElem?_map, hi]; rfl
      have p2 : (dn.map (·.s))[j]? = some z.s := by rw [List.getElem?_map, hj, e3]; rfl
      have hl : i < (dn.map (·.s)).length := (List.getElem?_eq_some_iff.mp p1).1
      have := (List.getElem?_inj hl nd).mp (p1.trans p2.symm)
      rw [this, hj] at hi
      exact (Option.some.inj hi).symm
    rw [← e2, this]
section
variable {X : Cx} {ρ : Rho} {M : Fin} {e es eo b ix : Expr} {d : D} {h : HoldM} {pk : Addr} {dn : List Dn} {L : List (Addr × HO)} {R : Fact} {st : List Stmt} {pos p px py apos cpos spos p2 p3 : Pos} {x y : Str} {i : Nat}
theorem om_at {K : PySem.W.Frag} {A B : Hp} {σ : L2.St} {H H1 : Hp} (t : At K A B ρ σ H H1) (hi : ρ[i]? = some (some (.mem (om pk L R)))) : σ[i]? = some (some (.ref pk)) ∧ OwnL B H H1 L ∧ R.p H := by
  obtain ⟨a, ea, e1, w, r⟩ := t.me i _ hi
  have : a = pk := e1
  subst this
  exact ⟨ea, w, r⟩
theorem eS_ref {K : PySem.W.Frag} {H : Hp} {s : SM} {v : V} (r : Rep K H (eS s) v) : ∃ kb, v = .ref kb := by
  cases r with
  | tup _ _ => exact ⟨_, rfl⟩
/-- known[state], as a reading -/
theorem te_ks {x0 : Dn} (hu : X.A.units + 64 < cLine) (ks : KSee X.K X.prog X.w h pk dn L R) (nd : (dn.map (·.s)).Nodup) (hx : x0 ∈ dn) (hs : DE X ρ es (eS x0.s)) (hi : ρ[i]? = some (some (.mem (om pk L R)))) {A B : Hp} {σ : L2.St} {H H1 : Hp} {Q : VK} (t : At X.K A B ρ σ H H1) (k : ∀ G H2, Step H H1 G H2 → Q (.ref x0.p) H2) : tNGet X (tVar i) (teOf X es) σ H1 Q := by
  obtain ⟨ea, _, _⟩ := om_at t hi
  refine ⟨_, ea, hs A B σ H H1 _ t fun v G H2 s r => ?_⟩
  obtain ⟨kb, rfl⟩ := eS_ref r
  obtain ⟨_, w, rp⟩ := om_at (t.step s) hi
  exact ⟨pk, dnE dn, eS x0.s, _, rfl, ⟨G, s.s2, ks.hk.rd w, kok_dn (ks.rk G rp), isKey_eS _, depth_eS _, r, kb, rfl⟩, dn_val nd hx, k G H2 s⟩
/-- known[state][order] -/
theorem de_kso {x0 : Dn} {o : Nat} {r : Option (List SM)} (hu : X.A.units + 64 < cLine) (ks : KSee X.K X.prog X.w h pk dn L R) (nd : (dn.map (·.s)).Nodup) (hx : x0 ∈ dn) (wn : ((waysQ h x0.s).map (·.1)).Nodup) (ho : (o, r) ∈ waysQ h x0.s) (hs : DE X ρ es (eS x0.s)) (hoe : DE X ρ eo (nI o)) (hi : ρ[i]? = some (some (.mem (om pk L R)))) (hN : X.N[i]? = some x) (hv : Vis X.env.scope x := by first | exact Or.inl rfl | exact Or.inr (Or.inl rfl) | exact Or.inr (Or.inr rfl)) (hd : (x == ("__debug__" : Str)) = false := by decide) (hcd : (x == ("__classdict__" : Str)) = false := by decide)
    (hn1 : NoSl es := by intro _ _; rfl) (hn2 : NoSl eo := by intro _ _; rfl) : DE X ρ (.Subscript (.Subscript (.Name x p) es p2) eo pos) (eOpt eSS r) := fun A B σ H H1 Q t k => te_run (pe_dget (by omega) (pe_nget hu (pe_var hN hv hd hcd) pe_of hn1) pe_of hn2) (te_ks hu ks nd hx hs hi t fun G H2 s => by
  refine hoe A B σ G H2 _ (t.step s) fun v G2 H3 s2 r2 => ?_
  cases r2
  obtain ⟨_, w, rp⟩ := om_at ((t.step s).step s2) hi
  obtain ⟨u, e1, ru⟩ := (ks.rw_ G2 rp x0 hx).get wn ho
  refine ⟨x0.p, u, rfl, ?_, k u G2 H3 (s.trans s2) ru⟩
  rw [← e1]
  exact .inl ⟨x0.ws, kO o, (ks.hw x0 hx).rd w, rfl, rfl⟩)
theorem ws_empty {K : PySem.W.Frag} {H : Hp} {s : SM} {ws : KV} (w : WsR K H (waysQ h s) ws) : ws.isEmpty = (ordersQ h s).isEmpty := by
  have e := w.ln
  rw [waysQ, List.length_map] at e
  cases ws <;> cases q : ordersQ h s <;> rw [q] at e <;> simp at e ⊢
/-- known[state] == {} -/
theorem dt_emp {x0 : Dn} (hu : X.A.units + 64 < cLine) (ks : KSee X.K X.prog X.w h pk dn L R) (nd : (dn.map (·.s)).Nodup) (hx : x0 ∈ dn) (hs : DE X ρ es (eS x0.s)) (hi : ρ[i]? = some (some (.mem (om pk L R)))) (hN : X.N[i]? = some x) (hv : Vis X.env.scope x := by first | exact Or.inl rfl | exact Or.inr (Or.inl rfl) | exact Or.inr (Or.inr rfl)) (hd : (x == ("__debug__" : Str)) = false := by decide) (hcd : (x == ("__classdict__" : Str)) = false := by decide)
    (hn1 : NoSl es := by intro _ _; rfl) : DT X ρ (.Compare (.Subscript (.Name x p) es p2) [.Eq] [.Dict [] [] p3] pos) (ordersQ h x0.s).isEmpty := fun A B σ H H1 Q t k => tt_run (pt_cmpR (op_eqE (by omega)) (pe_nget hu (pe_var hN hv hd hcd) pe_of hn1) pe_dnewK (nobehind _ (by decide) (by decide))) (te_ks hu ks nd hx hs hi t fun G H2 s => by
  intro q hq
  obtain ⟨_, w, rp⟩ := om_at (t.step s) hi
  have sn : Step G H2 G (upd H2 q (.dK [])) := ⟨Same.refl _, s.s2.trans (Same.new hq), Same.new hq, fun _ _ z => .inl z⟩
  have w2 := w.step sn
  refine ⟨_, q, x0.ws, rfl, rfl, (ks.hw x0 hx).rd w2, .inl upd_same, ?_⟩
  rw [ws_empty (ks.rw_ G rp x0 hx)]
  exact ⟨_, rfl, k G _ (s.trans sn)⟩)
theorem dt_nemp {x0 : Dn} (hu : X.A.units + 64 < cLine) (ks : KSee X.K X.prog X.w h pk dn L R) (nd : (dn.map (·.s)).Nodup) (hx : x0 ∈ dn) (hs : DE X ρ es (eS x0.s)) (hi : ρ[i]? = some (some (.mem (om pk L R)))) (hN : X.N[i]? = some x) (hv : Vis X.env.scope x := by first | exact Or.inl rfl | exact Or.inr (Or.inl rfl) | exact Or.inr (Or.inr rfl)) (hd : (x == ("__debug__" : Str)) = false := by decide) (hcd : (x == ("__classdict__" : Str)) = false := by decide)
    (hn1 : NoSl es := by intro _ _; rfl) : DT X ρ (.Compare (.Subscript (.Name x p) es p2) [.NotEq] [.Dict [] [] p3] pos) (!(ordersQ h x0.s).isEmpty) := fun A B σ H H1 Q t k => tt_run (pt_cmpR (op_neE (by omega)) (pe_nget hu (pe_var hN hv hd hcd) pe_of hn1) pe_dnewK (nobehind _ (by decide) (by decide))) (te_ks hu ks nd hx hs hi t fun G H2 s => by
  intro q hq
  obtain ⟨_, w, rp⟩ := om_at (t.step s) hi
  have sn : Step G H2 G (upd H2 q (.dK [])) := ⟨Same.refl _, s.s2.trans (Same.new hq), Same.new hq, fun _ _ z => .inl z⟩
  have w2 := w.step sn
  refine ⟨_, q, x0.ws, rfl, rfl, (ks.hw x0 hx).rd w2, .inl upd_same, ?_⟩
  rw [ws_empty (ks.rw_ G rp x0 hx)]
  exact ⟨_, rfl, k G _ (s.trans sn)⟩)
end
end SK
set_option maxRecDepth 100000
set_option maxHeartbeats 4000000
namespace SK
open PySem L2 PyProof.Rows
section
variable {X : Cx} {ρ : Rho} {M : Fin} {e es eo b ix elt : Expr} {ifs : List Expr} {scope : Scope} {d : D} {h : HoldM} {pk : Addr} {dn : List Dn} {L L0 : List (Addr × HO)} {R R0 : Fact} {st body : List Stmt} {pos p px py apos cpos spos p2 p3 : Pos} {x y : Str} {i j : Nat}
theorem om_lock {K : PySem.W.Frag} {A B : Hp} {σ : L2.St} {H H1 : Hp} {q : Addr} {u : HO} (od : Obj) (t : At K A B (some (.mem (om pk L R)) :: ρ) σ H H1) (hm : noMem ρ = true) (hq : (q, u) ∈ L) : At K A B (some (.mem (om pk (frzA q od L) R)) :: ρ) σ H (upd H1 q (.frz od u)) := by
  obtain ⟨ea, w, r⟩ := om_at (i := 0) t rfl
  obtain ⟨_, h0, hb⟩ := w.2 _ hq
  exact t.swap hm (t.jel rfl) (t.toLt.put h0 hb) (Same.refl _) (.mem (om pk (frzA q od L) R)) rfl ⟨pk, ea, rfl, w.lock hq, r⟩
theorem om_unlock {K : PySem.W.Frag} {A B : Hp} {σ : L2.St} {H H1 : Hp} {q : Addr} {u : HO} {od : Obj} (t : At K A B (some (.mem (om pk (frzA q od L) R)) :: ρ) σ H H1) (hm : noMem ρ = true) (hq : (q, u) ∈ L) : H1 q = some (.frz od u) ∧ At K A B (some (.mem (om pk L R)) :: ρ) σ H (upd H1 q u) := by
  obtain ⟨ea, w, r⟩ := om_at (i := 0) t rfl
  obtain ⟨h1, h0, hb⟩ := w.2 _ (frzA_at hq)
  exact ⟨h1, t.swap hm (t.jel rfl) (t.toLt.put h0 hb) (Same.refl _) (.mem (om pk L R)) rfl ⟨pk, ea, rfl, w.unlock hq, r⟩⟩
/-- for y in known -/
theorem ds_forN (j : Nat) (nd : X.N.Nodup) (Inv : Nat → List (Addr × HO) → Fact → Rho → Prop) (hin : ∀ i L R ρ1, Inv i L R ρ1 → (pk, dN X.prog X.w pk (dnE dn)) ∈ L ∧ noMem ρ1 = true ∧ ∀ H, R.p H → ∀ x ∈ dn, Rep X.K H (eS x.s) (.ref x.b)) (h0 : Inv 0 L R ρ)
    (hs : ∀ od i x0 L R ρ1, dn[i]? = some x0 → Inv i L R ρ1 → DS X (some (.mem (om pk (frzA pk od L) R)) :: ρ1.set j (some (.val (eS x0.s)))) body ⟨fun ρ2 => ∃ L' R' ρ1', ρ2 = some (.mem (om pk (frzA pk od L') R')) :: ρ1' ∧ Inv (i + 1) L' R' ρ1', M.rt, fun _ => False⟩)
    (hd : ∀ L R ρ1, Inv dn.length L R ρ1 → DS X (some (.mem (om pk L R)) :: ρ1) st M) (hp : PassesOwn (model X.prog X.w) X.A X.env X.xe := by exact PassesOwn.never) (hc : X.calm = true := by rfl) (hj : X.N[j + 1]? = some y := by rfl) (hx : Loc X.env.scope y := by first | exact Or.inl rfl | exact Or.inr rfl)
    (hf : X.fn y = true ∨ X.env.scope.names.lookup y = some .local := by first | exact .inl rfl | exact .inr rfl) (hs2 : ∀ z, foldedSetIterable (.Name x px) X.env z = pure z := by intro _; rfl) (hN : X.N[0]? = some x := by rfl) (hv : Vis X.env.scope x := by first | exact Or.inl rfl | exact Or.inr (Or.inl rfl) | exact Or.inr (Or.inr rfl)) (hdb : (x == ("__debug__" : Str)) = false := by decide) (hcd : (x == ("__classdict__" : Str)) = false := by decide) :
    DS X (some (.mem (om pk L R)) :: ρ) (.For (.Name y p) (.Name x px) body [] pos :: st) M := fun A B σ H H1 E t f =>
  ts_cons (ps_lock (ps_for hp hc (pi_keysN (pe_var hN hv hdb hcd)) (pg_name nd hj hx hf) pss_of hs2)) (by
    obtain ⟨i1, i2, i3⟩ := hin 0 L R ρ h0
    obtain ⟨ea, w, r⟩ := om_at (i := 0) t rfl
    refine ⟨pk, _, (w.2 _ i1).1, trivial, fun od => ?_⟩
    have t1 := om_lock od t i2 i1
    obtain ⟨_, w1, _⟩ := om_at (i := 0) t1 rfl
    refine ⟨_, ea, pk, od, dnE dn, rfl, (w1.2 _ (frzA_at i1)).1, for_J (n := dn.length) (fun i σ' H' => ∃ L' R' ρ1 G', Inv i L' R' ρ1 ∧ At X.K A B (some (.mem (om pk (frzA pk od L') R')) :: ρ1) σ' G' H' ∧ Same H G') ⟨L, R, ρ, H, h0, t1, Same.refl _⟩ ?_ ?_ ?_ ?_⟩
    · rintro i σ' H' hi ⟨L', R', ρ1, G', iv, t', sm⟩
      obtain ⟨_, w', _⟩ := om_at (i := 0) t' rfl
      exact ⟨(w'.2 _ (frzA_at (hin i L' R' ρ1 iv).1)).1, by rw [dnE, List.length_map]; exact hi⟩
    · rintro σ' H' ⟨L', R', ρ1, G', iv, t', sm⟩
      obtain ⟨_, w', _⟩ := om_at (i := 0) t' rfl
      exact ⟨(w'.2 _ (frzA_at (hin _ L' R' ρ1 iv).1)).1, by rw [dnE, List.length_map]; exact Nat.le_refl _⟩
    · rintro i z σ' H' H'' hi ⟨L', R', ρ1, G', iv, t', sm⟩ ⟨rfl, y0, hy, rfl⟩
      rw [dnE, List.getElem?_map] at hy
      obtain ⟨x0, hx0, rfl⟩ := Option.map_eq_some_iff.mp hy
      obtain ⟨_, w', rp⟩ := om_at (i := 0) t' rfl
      have rb := (hin i L' R' ρ1 iv).2.2 G' rp x0 (List.mem_of_getElem? hx0)
      refine hs od i x0 L' R' ρ1 hx0 iv A B _ G' _ _ (t'.set (j + 1) rb) ⟨fun ρ2 σ2 G2 H3 ⟨L2, R2, ρ3, e3, a3⟩ b c => ?_, fun d v ρ2 σ2 G2 H3 _ m => m.elim⟩
      subst e3
      exact ⟨L2, R2, ρ3, G2, a3, b, sm.trans c⟩
    · rintro σ' H' ⟨L', R', ρ1, G', iv, t', sm⟩
      obtain ⟨k1, k2, _⟩ := hin _ L' R' ρ1 iv
      obtain ⟨g1, t2⟩ := om_unlock t' k2 k1
      exact ⟨g1, hd L' R' ρ1 iv A B σ' G' _ E t2 (f.mono sm)⟩)
theorem ws_at {K : PySem.W.Frag} {H : Hp} {s : SM} {ws : KV} (w : WsR K H (waysQ h s) ws) {i o : Nat} (ho : (ordersQ h s)[i]? = some o) : ∃ v, ws[i]? = some (kO o, v) := by
  obtain ⟨v, e, _⟩ := w.at_ i o (ledQ h s o) (by rw [waysQ, List.getElem?_map, ho]; rfl)
  exact ⟨v, e⟩
theorem ws_len {K : PySem.W.Frag} {H : Hp} {s : SM} {ws : KV} (w : WsR K H (waysQ h s) ws) : ws.length = (ordersQ h s).length := by rw [w.ln, waysQ, List.length_map]
/-- for y in known[state] -/
theorem ds_forK (j : Nat) {x0 : Dn} (hu : X.A.units + 64 < cLine) (nd : X.N.Nodup) (dnd : (dn.map (·.s)).Nodup) (hx0 : x0 ∈ dn) (Inv : Nat → List (Addr × HO) → Fact → Rho → Prop) (hin : ∀ i L R ρ1, Inv i L R ρ1 → (x0.p, .dK x0.ws) ∈ L ∧ noMem ρ1 = true ∧ ∀ od, KSee X.K X.prog X.w h pk dn (frzA x0.p od L) R) (h0 : Inv 0 L R ρ)
    (hes : ∀ b, DE X (b :: ρ) es (eS x0.s))
    (hs : ∀ od i o L R ρ1, (ordersQ h x0.s)[i]? = some o → Inv i L R ρ1 → DS X (some (.mem (om pk (frzA x0.p od L) R)) :: ρ1.set j (some (.val (nI o)))) body ⟨fun ρ2 => ∃ L' R' ρ1', ρ2 = some (.mem (om pk (frzA x0.p od L') R')) :: ρ1' ∧ Inv (i + 1) L' R' ρ1', M.rt, fun _ => False⟩)
    (hd : ∀ L R ρ1, Inv (ordersQ h x0.s).length L R ρ1 → DS X (some (.mem (om pk L R)) :: ρ1) st M) (hp : PassesOwn (model X.prog X.w) X.A X.env X.xe := by exact PassesOwn.never) (hc : X.calm = true := by rfl) (hj : X.N[j + 1]? = some y := by rfl) (hx : Loc X.env.scope y := by first | exact Or.inl rfl | exact Or.inr rfl)
    (hf : X.fn y = true ∨ X.env.scope.names.lookup y = some .local := by first | exact .inl rfl | exact .inr rfl) (hs2 : ∀ z, foldedSetIterable (.Subscript (.Name x px) es p2) X.env z = pure z := by intro _; rfl) (hN : X.N[0]? = some x := by rfl) (hv : Vis X.env.scope x := by first | exact Or.inl rfl | exact Or.inr (Or.inl rfl) | exact Or.inr (Or.inr rfl)) (hdb : (x == ("__debug__" : Str)) = false := by decide) (hcd : (x == ("__classdict__" : Str)) = false := by decide)
    (hn1 : NoSl es := by intro _ _; rfl) : DS X (some (.mem (om pk L R)) :: ρ) (.For (.Name y p) (.Subscript (.Name x px) es p2) body [] pos :: st) M := fun A B σ H H1 E t f =>
  ts_cons (ps_lock (ps_for hp hc (pi_keys (pe_nget hu (pe_var hN hv hdb hcd) pe_of hn1)) (pg_name nd hj hx hf) pss_of hs2)) (by
    obtain ⟨i1, i2, i3⟩ := hin 0 L R ρ h0
    obtain ⟨ea, w, r⟩ := om_at (i := 0) t rfl
    refine ⟨x0.p, _, (w.2 _ i1).1, trivial, fun od => ?_⟩
    have t1 := om_lock od t i2 i1
    refine te_ks (i := 0) hu (i3 od) dnd hx0 (hes _) rfl t1 fun G1 H2 s1 => ?_
    have t3 := t1.step s1
    obtain ⟨_, w1, r1⟩ := om_at (i := 0) t3 rfl
    have wr := (i3 od).rw_ G1 r1 x0 hx0
    have hl := ws_len wr
    refine ⟨x0.p, od, rfl, .inl ⟨x0.ws, (w1.2 _ (frzA_at i1)).1, for_J (n := (ordersQ h x0.s).length) (fun i σ' H' => ∃ L' R' ρ1 G', Inv i L' R' ρ1 ∧ At X.K A B (some (.mem (om pk (frzA x0.p od L') R')) :: ρ1) σ' G' H' ∧ Same H G') ⟨L, R, ρ, G1, h0, t3, s1.s1⟩ ?_ ?_ ?_ ?_⟩⟩
    · rintro i σ' H' hi ⟨L', R', ρ1, G', iv, t', sm⟩
      obtain ⟨_, w', _⟩ := om_at (i := 0) t' rfl
      exact ⟨(w'.2 _ (frzA_at (hin i L' R' ρ1 iv).1)).1, by rw [hl]; exact hi⟩
    · rintro σ' H' ⟨L', R', ρ1, G', iv, t', sm⟩
      obtain ⟨_, w', _⟩ := om_at (i := 0) t' rfl
      exact ⟨(w'.2 _ (frzA_at (hin _ L' R' ρ1 iv).1)).1, by rw [hl]; exact Nat.le_refl _⟩
    · rintro i z σ' H' H'' hi ⟨L', R', ρ1, G', iv, t', sm⟩ ⟨rfl, k0, v0, hy, rfl⟩
      have ho : (ordersQ h x0.s)[i]? = some (ordersQ h x0.s)[i] := List.getElem?_eq_getElem hi
      obtain ⟨v1, e1⟩ := ws_at wr ho
      rw [e1] at hy
      cases hy
      refine hs od i _ L' R' ρ1 ho iv A B _ G' _ _ (t'.set (j + 1) (d := nI _) .int) ⟨fun ρ2 σ2 G2 H3 ⟨L2, R2, ρ3, e3, a3⟩ b c => ?_, fun d v ρ2 σ2 G2 H3 _ m => m.elim⟩
      subst e3
      exact ⟨L2, R2, ρ3, G2, a3, b, sm.trans c⟩
    · rintro σ' H' ⟨L', R', ρ1, G', iv, t', sm⟩
      obtain ⟨k1, k2, _⟩ := hin _ L' R' ρ1 iv
      obtain ⟨g1, t2⟩ := om_unlock t' k2 k1
      exact ⟨g1, hd L' R' ρ1 iv A B σ' G' _ E t2 (f.mono sm)⟩)
/-- what a lock took away comes back: a step all in all -/
theorem lock_step {H H1 G H2 : Hp} {q : Addr} {u : HO} {od : Obj} (h1 : H1 q = some u) (h0 : H q = none) (s : Step H (upd H1 q (.frz od u)) G H2) : Step H H1 G (upd H2 q u) := by
  have gq : G q = none := by
    cases z : G q with
    | none => rfl
    | some o =>
      rcases s.nw _ _ z with y | y
      · rw [h0] at y; cases y
      · rw [upd_same] at y; cases y
  refine ⟨s.s1, fun x o z => ?_, fun x o z => ?_, fun x o z => ?_⟩
  · rw [upd_ne (ne_of_none z gq)]
    exact s.s2 x o z
  · by_cases e : x = q
    · rw [e, upd_same]
      rw [e, h1] at z
      exact z
    · rw [upd_ne e]
      exact s.s3 x o (by rw [upd_ne e]; exact z)
  · rcases s.nw x o z with y | y
    · exact .inl y
    · refine .inr ?_
      rw [upd_ne (ne_of_none z gq)] at y
      exact y
/-- [.. for y in known[state] if ..] -/
theorem do_lcK (j : Nat) {x0 : Dn} (hu : X.A.units + 64 < cLine) (nd : X.N.Nodup) (dnd : (dn.map (·.s)).Nodup) (hx0 : x0 ∈ dn) (i1 : (x0.p, .dK x0.ws) ∈ L) (i2 : noMem ρ = true) (i3 : ∀ od, KSee X.K X.prog X.w h pk dn (frzA x0.p od L) R) (hes : ∀ b, DE X (b :: ρ) es (eS x0.s)) (fb : Nat → Bool) (fe : Nat → D)
    (hb : ∀ od o, o ∈ ordersQ h x0.s → LcOk X scope (some (.mem (om pk (frzA x0.p od L) R)) :: ρ) j ifs elt (nI o) (fb o) (fe o)) (hz : (ordersQ h x0.s).length < sizeLine) (ok : BlkOk X.N X.env.scope scope [(y, j)])
    (hg : ∀ (s : Shared) (H : Hp) (C : Addr) (cl : List (Str × Addr)) (fp : List Addr), PG (bk X scope s H C cl fp) (.Name y p) (gName j) := by exact fun _ _ _ _ _ => pg_name (by assumption) (by rfl) (Or.inl (by rfl)) (Or.inr (by rfl))) (hc : X.calm = true := by rfl) (hs2 : ∀ z, foldedSetIterable (.Subscript (.Name x px) es p2) X.env z = pure z := by intro _; rfl) (hN : X.N[0]? = some x := by rfl) (hv : Vis X.env.scope x := by first | exact Or.inl rfl | exact Or.inr (Or.inl rfl) | exact Or.inr (Or.inr rfl)) (hdb : (x == ("__debug__" : Str)) = false := by decide) (hcd : (x == ("__classdict__" : Str)) = false := by decide)
    (hn1 : NoSl es := by intro _ _; rfl) : DO X (some (.mem (om pk L R)) :: ρ) (.ListComp elt [⟨.Name y p, .Subscript (.Name x px) es p2, ifs, 0⟩] scope pos) (((ordersQ h x0.s).filter fb).map fe) := fun A B σ H H1 Q t k =>
  te_run (pe_lock (pe_lc (own := [(y, j)]) (tt := ttB X scope ifs) (te := teB X scope elt) hc nd (pi_keys (pe_nget hu (pe_var hN hv hdb hcd) pe_of hn1)) ok hg (fun s H C cl fp => ⟨fun pins s' σ H' Q I h => h s H C cl fp pins s' I⟩) (fun s H C cl fp => ⟨fun pins s' σ H' Q I h => h s H C cl fp pins s' I⟩) hs2)) (by
    obtain ⟨ea, w, r⟩ := om_at (i := 0) t rfl
    obtain ⟨w1, w2, w3⟩ := w.2 _ i1
    refine ⟨x0.p, _, w1, trivial, fun od => ?_⟩
    have t1 := om_lock od t i2 i1
    refine te_ks (i := 0) hu (i3 od) dnd hx0 (hes _) rfl t1 fun G1 H2 s1 => ?_
    have t3 := t1.step s1
    obtain ⟨_, w1', r1⟩ := om_at (i := 0) t3 rfl
    have wr := (i3 od).rw_ G1 r1 x0 hx0
    have hl := ws_len wr
    have hfz := (w1'.2 _ (frzA_at i1)).1
    refine ⟨x0.p, od, rfl, .inl ⟨x0.ws, hfz, fun Dl hD => lc_J (n := (ordersQ h x0.s).length) (fun i H' => LcP X.K G1 H2 Dl ((((ordersQ h x0.s).take i).filter fb).map fe) H') (lc_start t3 hD) ?_ ?_ ?_ ?_⟩⟩
    · rintro i H' hi ⟨G', us, st, _⟩
      exact ⟨st.s3 _ _ hfz, by rw [hl]; exact hi⟩
    · rintro H' ⟨G', us, st, _⟩
      exact ⟨st.s3 _ _ hfz, by rw [hl]; exact Nat.le_refl _⟩
    · rintro i z H' H'' hi p0 ⟨rfl, k0, v0, hy, rfl⟩
      have ho : (ordersQ h x0.s)[i]? = some (ordersQ h x0.s)[i] := List.getElem?_eq_getElem hi
      obtain ⟨v1, e1⟩ := ws_at wr ho
      rw [e1] at hy
      cases hy
      refine lc_turn t3 hD p0 (fun G' e => .int) (hb od _ (List.getElem_mem hi)) (Nat.lt_of_le_of_lt (fm_len fb fe _ i) hz) fun H'' q => ?_
      rw [fm_next fb fe ho]
      exact q
    · rintro H' ⟨G', us, st, g0, h1, r2⟩
      rw [List.take_length] at r2
      have sa := s1.trans st
      have hq : Dl ≠ x0.p := fun z => by rw [z, hfz] at hD; cases hD
      refine ⟨st.s3 _ _ hfz, k Dl us G' _ (lock_step w1 w2 sa) ?_ g0 (by rw [upd_ne hq]; exact h1) r2⟩
      have := s1.s3.free hD
      rw [upd_ne hq] at this
      exact this)
end
end SK
set_option maxRecDepth 100000
set_option maxHeartbeats 4000000
namespace SK
open PySem L2 PyProof.Rows
abbrev Trip := SM × Nat × SM
def comesQ (P : List Trip) (s : SM) : List (SM × Nat) := (P.filter fun x => decide (x.2.2 = s)).map fun x => (x.1, x.2.1)
def ePair (x : SM × Nat) : D := .tup [eS x.1, nI x.2]
structure Cg where
  s : SM
  b : Addr
  q : Addr
def cgE (cg : List Cg) : NKV := cg.map fun g => (kS_ g.s, g.b, V.ref g.q)
def cgL (cg : List Cg) (cv : SM → List V) : List (Addr × HO) := cg.map fun g => (g.q, HO.lst (cv g.s))
def knF (K : PySem.W.Frag) (h : HoldM) (dn : List Dn) : Fact := ⟨fun H => (∀ x ∈ dn, Rep K H (eS x.s) (.ref x.b)) ∧ ∀ x ∈ dn, WsR K H (waysQ h x.s) x.ws, fun e ⟨a, b⟩ => ⟨fun x hx => (a x hx).mono e, fun x hx => (b x hx).mono e⟩⟩
def cgF (K : PySem.W.Frag) (cg : List Cg) (cv : SM → List V) (P : List Trip) : Fact := ⟨fun H => (∀ g ∈ cg, Rep K H (eS g.s) (.ref g.b)) ∧ ∀ g ∈ cg, Reps K H ((comesQ P g.s).map ePair) (cv g.s), fun e ⟨a, b⟩ => ⟨fun x hx => (a x hx).mono e, fun x hx => (b x hx).mono e⟩⟩
def Fact.and (a b : Fact) : Fact := ⟨fun H => a.p H ∧ b.p H, fun e ⟨x, y⟩ => ⟨a.m e x, b.m e y⟩⟩
def noF : Fact := ⟨fun _ => True, fun _ h => h⟩
theorem frzA_get {d : Addr} {od : Obj} {L : List (Addr × HO)} {k : Nat} {q : Addr} {o : HO} (h : L[k]? = some (q, o)) (n : q ≠ d) : (frzA d od L)[k]? = some (q, o) := by
  unfold frzA
  rw [List.getElem?_map, h]
  show some (if q = d then _ else _) = _
  rw [if_neg n]
theorem frzA_set {d : Addr} {od : Obj} {L : List (Addr × HO)} {k : Nat} {q : Addr} {o : HO} (n : q ≠ d) : frzA d od (L.set k (q, o)) = (frzA d od L).set k (q, o) := by
  unfold frzA
  rw [List.map_set, if_neg n]
section
variable {K : PySem.W.Frag} {P : Program} {w : World} {h : HoldM} {pk : Addr} {dn : List Dn} {C : List (Addr × HO)} {R : Fact}
theorem has_kn {u : HO} {d : Addr} (hd : (d, u) ∈ knK P w pk dn) : Has (knK P w pk dn ++ C) d u := .inl (List.mem_append_left _ hd)
theorem ksee0 (rf : ∀ H, R.p H → (knF K h dn).p H) : KSee K P w h pk dn (knK P w pk dn ++ C) R :=
  ⟨has_kn (List.mem_cons_self ..), fun x hx => has_kn (List.mem_cons_of_mem _ (List.mem_map.mpr ⟨x, hx, rfl⟩)), fun H r => (rf H r).1, fun H r => (rf H r).2⟩
theorem ksee1 (od : Obj) (rf : ∀ H, R.p H → (knF K h dn).p H) : KSee K P w h pk dn (frzA pk od (knK P w pk dn ++ C)) R :=
  ⟨(has_kn (List.mem_cons_self ..)).frz fun _ => List.mem_append_left _ (List.mem_cons_self ..), fun x hx => (has_kn (List.mem_cons_of_mem _ (List.mem_map.mpr ⟨x, hx, rfl⟩))).frz fun e => by
    exact List.mem_append_left _ (List.mem_cons_of_mem _ (List.mem_map.mpr ⟨x, hx, rfl⟩)), fun H r => (rf H r).1, fun H r => (rf H r).2⟩
end
section
variable {X : Cx} {ρ : Rho} {M : Fin} {e es eo b ix elt : Expr} {ifs : List Expr} {scope : Scope} {d : D} {h : HoldM} {pk : Addr} {dn : List Dn} {L L0 A C : List (Addr × HO)} {R R0 R' : Fact} {st body : List Stmt} {pos p px py apos cpos spos p2 p3 : Pos} {x y : Str} {i j : Nat}
/-- a new dict of nested keys -/
theorem ds_newN (i : Nat) (nd : X.N.Nodup) (Mf : Addr → Fin) (rest : ∀ q, DS X (some (.mem (om pk (L ++ [(q, dN X.prog X.w q [])]) R)) :: ρ.set i (some (.val (.adr q)))) st (Mf q)) {A B : Hp} {σ : L2.St} {H H1 : Hp} {E : Ends} (t : At X.K A B (some (.mem (om pk L R)) :: ρ) σ H H1) (f : ∀ q, Fits X.K A B (Mf q) E H) (hm : noMem ρ = true := by rfl) (hi : X.N[i + 1]? = some x := by rfl) (hx : Loc X.env.scope x := by first | exact Or.inl rfl | exact Or.inr rfl)
    (hs : swapsWith (.Dict [] [] cpos) (some (.Name x p)) pos.line X.env = pure false := by rfl) (hf : X.fn x = true ∨ X.env.scope.names.lookup x = some .local := by first | exact .inl rfl | exact .inr rfl) : tsOf X (.Assign [.Name x p] (.Dict [] [] cpos) pos :: st) E σ H1 :=
  ts_cons (ps_set nd hi hx pe_dnewN hs hf) (by
    intro q hq
    obtain ⟨ea, w, r⟩ := om_at (i := 0) t rfl
    have ow2 := w.new (o := dN X.prog X.w q []) t.up t.bn hq
    have t2 := t.swap hm (t.jel rfl) (t.toLt.put (t.up.free hq) (t.bn.free hq)) (Same.refl _) (.mem (om pk (L ++ [(q, dN X.prog X.w q [])]) R)) rfl ⟨pk, ea, rfl, ow2, r⟩
    exact rest q A B _ H _ E (t2.set (i + 1) .adr) (f q))
/-- d[state] = value, d among the owned dicts -/
theorem ds_putN {k i : Nat} {pd : Addr} {kvs : NKV} {s : SM} (hu : X.A.units + 64 < cLine) (hk : L[k]? = some (pd, dN X.prog X.w pd kvs)) (hko : ∀ H, R.p H → KOk X.K H kvs) (hl : kvs.length < sizeLine) (he : DE X (some (.mem (om pk L R)) :: ρ) e d) (hix : DE X (some (.mem (om pk L R)) :: ρ) ix (eS s)) (hi : (some (Bd.mem (om pk L R)) :: ρ)[i]? = some (some (.val (.adr pd)))) (hN : X.N[i]? = some x)
    (rest : ∀ (v : V) (kb : Addr) (R' : Fact), (∀ H, R'.p H ↔ (R.p H ∧ Rep X.K H d v ∧ Rep X.K H (eS s) (.ref kb))) → DS X (some (.mem (om pk (L.set k (pd, dN X.prog X.w pd (nPut kvs (kS_ s) kb v))) R')) :: ρ) st M) (hm : noMem ρ = true := by rfl) (hv : Vis X.env.scope x := by first | exact Or.inl rfl | exact Or.inr (Or.inl rfl) | exact Or.inr (Or.inr rfl)) (hd : (x == ("__debug__" : Str)) = false := by decide) (hcd : (x == ("__classdict__" : Str)) = false := by decide)
    (hs : swapsWith e (some (.Subscript (.Name x p) ix spos)) pos.line X.env = pure false := by rfl) : DS X (some (.mem (om pk L R)) :: ρ) (.Assign [.Subscript (.Name x p) ix spos] e pos :: st) M :=
  fun A B σ H H1 E t f => ts_cons (ps_nput hu (pe_var hN hv hd hcd) pe_of pe_of hs) (he A B σ H H1 _ t fun v G H2 s1 rv => by
    have t2 := t.step s1
    refine ⟨_, adr_at t2 hi, hix A B σ G H2 _ t2 fun u G2 H3 s2 r2 => ?_⟩
    obtain ⟨kb, rfl⟩ := eS_ref r2
    have t3 := t2.step s2
    obtain ⟨ea, w, r⟩ := om_at (i := 0) t3 rfl
    obtain ⟨h1, h2, h3⟩ := w.at_ hk
    refine ⟨pd, kvs, eS s, kb, rfl, rfl, ⟨G2, t3.up, .inl h1, hko G2 r, isKey_eS _, depth_eS _, r2, kb, rfl⟩, h1, hl, ?_⟩
    have ow2 := w.put (o' := dN X.prog X.w pd (nPut kvs (kS_ s) kb v)) hk
    refine rest v kb ⟨fun H => R.p H ∧ Rep X.K H d v ∧ Rep X.K H (eS s) (.ref kb), fun e ⟨a, b, c⟩ => ⟨R.m e a, b.mono e, c.mono e⟩⟩ (fun H => Iff.rfl) A B σ G2 _ E (t3.swap hm (t3.jel rfl) (t3.toLt.put h2 h3) (Same.refl _) (.mem (om pk _ _)) rfl ⟨pk, ea, rfl, ow2, r, rv.mono s2.s1, r2⟩) (f.mono (s1.s1.trans s2.s1)))
/-- d[state] = a list of its own -/
theorem ds_putNL {k i : Nat} {pd : Addr} {kvs : NKV} {s : SM} {ds : List D} (hu : X.A.units + 64 < cLine) (hk : L[k]? = some (pd, dN X.prog X.w pd kvs)) (hko : ∀ H, R.p H → KOk X.K H kvs) (hl : kvs.length < sizeLine) (he : DO X (some (.mem (om pk L R)) :: ρ) e ds) (hix : DE X (some (.mem (om pk L R)) :: ρ) ix (eS s)) (hi : (some (Bd.mem (om pk L R)) :: ρ)[i]? = some (some (.val (.adr pd)))) (hN : X.N[i]? = some x)
    (rest : ∀ (q : Addr) (vs : List V) (kb : Addr) (R' : Fact), (∀ H, R'.p H ↔ (R.p H ∧ Reps X.K H ds vs ∧ Rep X.K H (eS s) (.ref kb))) → DS X (some (.mem (om pk (L.set k (pd, dN X.prog X.w pd (nPut kvs (kS_ s) kb (.ref q))) ++ [(q, .lst vs)]) R')) :: ρ) st M) (hm : noMem ρ = true := by rfl) (hv : Vis X.env.scope x := by first | exact Or.inl rfl | exact Or.inr (Or.inl rfl) | exact Or.inr (Or.inr rfl)) (hd : (x == ("__debug__" : Str)) = false := by decide) (hcd : (x == ("__classdict__" : Str)) = false := by decide)
    (hs : swapsWith e (some (.Subscript (.Name x p) ix spos)) pos.line X.env = pure false := by rfl) : DS X (some (.mem (om pk L R)) :: ρ) (.Assign [.Subscript (.Name x p) ix spos] e pos :: st) M :=
  fun A B σ H H1 E t f => ts_cons (ps_nput hu (pe_var hN hv hd hcd) pe_of pe_of hs) (he A B σ H H1 _ t fun q vs G H2 s1 n g h2 rv => by
    have t2 := t.step s1
    refine ⟨_, adr_at t2 hi, hix A B σ G H2 _ t2 fun u G2 H3 s2 r2 => ?_⟩
    obtain ⟨kb, rfl⟩ := eS_ref r2
    have t3 := t2.step s2
    obtain ⟨_, w0, _⟩ := om_at (i := 0) t rfl
    obtain ⟨ea, w, r⟩ := om_at (i := 0) t3 rfl
    obtain ⟨h1, h2', h3⟩ := w.at_ hk
    refine ⟨pd, kvs, eS s, kb, rfl, rfl, ⟨G2, t3.up, .inl h1, hko G2 r, isKey_eS _, depth_eS _, r2, kb, rfl⟩, h1, hl, ?_⟩
    have nq : ∀ x ∈ L, x.1 ≠ q := fun x hx z => by
      have := (w0.2 x hx).1
      rw [z, n] at this
      cases this
    have ow1 := w.more (o := .lst vs) nq (s2.s3 _ _ h2) (free_step s2 g h2) (t.bn.free n)
    have hk' : (L ++ [(q, HO.lst vs)])[k]? = some (pd, dN X.prog X.w pd kvs) := by
      rw [List.getElem?_append_left (List.getElem?_eq_some_iff.mp hk).1]
      exact hk
    have ow2 := ow1.put (o' := dN X.prog X.w pd (nPut kvs (kS_ s) kb (.ref q))) hk'
    rw [List.set_append_left _ _ (List.getElem?_eq_some_iff.mp hk).1] at ow2
    refine rest q vs kb ⟨fun H => R.p H ∧ Reps X.K H ds vs ∧ Rep X.K H (eS s) (.ref kb), fun e ⟨a, b, c⟩ => ⟨R.m e a, b.mono e, c.mono e⟩⟩ (fun H => Iff.rfl) A B σ G2 _ E (t3.swap hm (t3.jel rfl) (t3.toLt.put h2' h3) (Same.refl _) (.mem (om pk _ _)) rfl ⟨pk, ea, rfl, ow2, r, rv.mono s2.s1, r2⟩) (f.mono (s1.s1.trans s2.s1)))
/-- another way to say what is owned and known -/
theorem ds_om {L' : List (Addr × HO)} (hL : L'.Perm L) (hR : ∀ H, R.p H → R'.p H) (h : DS X (some (.mem (om pk L' R')) :: ρ) st M) (hm : noMem ρ = true := by rfl) : DS X (some (.mem (om pk L R)) :: ρ) st M := fun A B σ H H1 E t f => by
  obtain ⟨ea, w, r⟩ := om_at (i := 0) t rfl
  exact h A B σ H H1 E (t.swap hm (t.jel rfl) t.toLt (Same.refl _) (.mem (om pk L' R')) rfl ⟨pk, ea, rfl, ⟨(hL.map _).nodup_iff.mpr w.1, fun x hx => w.2 x (hL.mem_iff.mp hx)⟩, hR H r⟩) f
/-- what is owned is seen from now on -/
theorem ds_melt (hR : ∀ B H H1, OwnL B H H1 (A ++ C) → R.p H → R'.p (ovl C H)) (h : DS X (some (.mem (om pk A R')) :: ρ) st M) (hm : noMem ρ = true := by rfl) : DS X (some (.mem (om pk (A ++ C) R)) :: ρ) st M := fun A1 B σ H H1 E t f => by
  obtain ⟨ea, w, r⟩ := om_at (i := 0) t rfl
  have nd := w.1
  rw [List.map_append, List.nodup_append] at nd
  obtain ⟨n1, n2, n3⟩ := nd
  have wc : OwnL B H H1 C := ⟨n2, fun x hx => w.2 x (List.mem_append_right _ hx)⟩
  have wa : OwnL B (ovl C H) H1 A := ⟨n1, fun x hx => by
    obtain ⟨a1, a2, a3⟩ := w.2 x (List.mem_append_left _ hx)
    refine ⟨a1, ?_, a3⟩
    rw [ovl_out]
    · exact a2
    · intro y hy z
      exact n3 x.1 (List.mem_map.mpr ⟨x, hx, rfl⟩) y.1 (List.mem_map.mpr ⟨y, hy, rfl⟩) z.symm⟩
  exact h A1 B σ (ovl C H) H1 E (t.swap hm (t.jel rfl) ⟨ovl_up wc t.up, t.an.trans (ovl_same wc), t.bn, fun x o q => (ovl_nw wc q).elim (t.nw x o) .inr⟩ (ovl_same wc) (.mem (om pk A R')) rfl ⟨pk, ea, rfl, wa, hR B H H1 w r⟩) (f.mono (ovl_same wc))
end
end SK
set_option maxRecDepth 100000
set_option maxHeartbeats 4000000
namespace SK
open PySem L2 PyProof.Rows
section
variable {X : Cx} {ρ : Rho} {M : Fin} {e es eo b ix elt : Expr} {d : D} {h : HoldM} {pk : Addr} {dn : List Dn} {L L0 A C : List (Addr × HO)} {R R0 R' : Fact} {st body : List Stmt} {pos p px py apos cpos spos p2 p3 : Pos} {x y : Str} {i j : Nat}
theorem ds_nd (h : (L.map (·.1)).Nodup → DS X (some (.mem (om pk L R)) :: ρ) st M) : DS X (some (.mem (om pk L R)) :: ρ) st M := fun A B σ H H1 E t f => h (om_at (i := 0) t rfl).2.1.1 A B σ H H1 E t f
theorem ds_pure {Pp : Prop} (hp : ∀ H, R.p H → Pp) (h : Pp → DS X (some (.mem (om pk L R)) :: ρ) st M) : DS X (some (.mem (om pk L R)) :: ρ) st M := fun A B σ H H1 E t f => h (hp H (om_at (i := 0) t rfl).2.2) A B σ H H1 E t f
theorem nodup_ne {L : List (Addr × HO)} (nd : (L.map (·.1)).Nodup) {q d : Addr} {o u : HO} (hq : (q, o) ∈ L) (hd : (d, u) ∈ L) (n : o ≠ u) : q ≠ d := fun e => by
  have := nodup_fst nd hq hd e
  cases this
  exact n rfl
/-- d[state].append(e) -/
theorem ds_appN {k i : Nat} {pd q : Addr} {kvs : NKV} {s : SM} {vs : List V} (hu : X.A.units + 64 < cLine) (hk : L[k]? = some (q, .lst vs)) (hd : Has L pd (dN X.prog X.w pd kvs)) (hko : ∀ H, R.p H → KOk X.K H kvs) (hval : nVal kvs (kS_ s) = some (.ref q)) (hl : vs.length < sizeLine) (hix : DE X (some (.mem (om pk L R)) :: ρ) ix (eS s)) (he : DE X (some (.mem (om pk L R)) :: ρ) e d) (hi : (some (Bd.mem (om pk L R)) :: ρ)[i]? = some (some (.val (.adr pd)))) (hN : X.N[i]? = some x)
    (rest : ∀ (v : V) (R' : Fact), (∀ H, R'.p H ↔ (R.p H ∧ Rep X.K H d v)) → DS X (some (.mem (om pk (L.set k (q, .lst (vs ++ [v]))) R')) :: ρ) st M) (hm : noMem ρ = true := by rfl) (hv : Vis X.env.scope x := by first | exact Or.inl rfl | exact Or.inr (Or.inl rfl) | exact Or.inr (Or.inr rfl)) (hdb : (x == ("__debug__" : Str)) = false := by decide) (hcd : (x == ("__classdict__" : Str)) = false := by decide)
    (hn1 : NoSl ix := by intro _ _; rfl)
    (hpe : PE X (.Call (.Attribute (.Subscript (.Name x p) ix spos) "append" apos) [e] [] cpos) (tBM X.K "list" rAppend (tNGet X (tVar i) (teOf X ix)) (tCons (teOf X e) tNil)) := by exact pe_bm PySem.F.plainAttrs_list PySem.F.slot_list_append PySem.F.type_list_append mt_append (pe_nget (by assumption) (pv _) pe_of (by intro _ _; rfl)) (pa_cons pe_of pa_nil))
    (hs : swapsWith (.Call (.Attribute (.Subscript (.Name x p) ix spos) "append" apos) [e] [] cpos) none pos.line X.env = pure false := by rfl) : DS X (some (.mem (om pk L R)) :: ρ) (.Expr (.Call (.Attribute (.Subscript (.Name x p) ix spos) "append" apos) [e] [] cpos) pos :: st) M :=
  fun A B σ H H1 E t f => ts_cons (ps_expr hpe hs) (by
    refine ⟨_, adr_at t hi, hix A B σ H H1 _ t fun u G H2 s1 r => ?_⟩
    obtain ⟨kb, rfl⟩ := eS_ref r
    have t2 := t.step s1
    obtain ⟨ea, w, rp⟩ := om_at (i := 0) t2 rfl
    obtain ⟨h1, _, _⟩ := w.at_ hk
    refine ⟨pd, kvs, eS s, _, rfl, ⟨G, s1.s2, hd.rd w, hko G rp, isKey_eS _, depth_eS _, r, kb, rfl⟩, hval, .inl ⟨rfl, vs, SqL.of h1⟩, he A B σ G H2 _ t2 fun v G2 H3 s2 r2 => ?_⟩
    have t3 := t2.step s2
    obtain ⟨ea3, w3, rp3⟩ := om_at (i := 0) t3 rfl
    obtain ⟨k1, k2, k3⟩ := w3.at_ hk
    refine ⟨q, vs, v, rfl, rfl, k1, hl, ?_⟩
    exact rest v ⟨fun H => R.p H ∧ Rep X.K H d v, fun e ⟨a, b⟩ => ⟨R.m e a, b.mono e⟩⟩ (fun H => Iff.rfl) A B σ G2 _ E (t3.swap hm (t3.jel rfl) (t3.toLt.put k2 k3) (Same.refl _) (.mem (om pk _ _)) rfl ⟨pk, ea3, rfl, w3.put hk, rp3, r2⟩) (f.mono (s1.s1.trans s2.s1)))
end
def tripO (h : HoldM) (s : SM) (o : Nat) : List Trip := match ledQ h s o with
  | none => []
  | some l => l.map fun x => (s, o, x)
def tripS (h : HoldM) (s : SM) (os : List Nat) : List Trip := os.flatMap (tripO h s)
def tripA (h : HoldM) (ks : List SM) : List Trip := ks.flatMap fun s => tripS h s (ordersQ h s)
theorem led_le {h : HoldM} (w : WF h) {s : SM} (v : Valid h s) {o : Nat} (ho : o ∈ ordersQ h s) {l : List SM} (e : ledQ h s o = some l) : l.length ≤ 576 := by
  have sl := subs_len _ (may_lt w v ho)
  have := led_len w (s := s) (o := o) (subsets (mayQ h s o)) (subsets (mayQ h s o)).length (found := l) (by rw [List.take_length]; exact e)
  omega
theorem tripS_le {h : HoldM} (w : WF h) {s : SM} (v : Valid h s) (os : List Nat) (hos : ∀ o ∈ os, o ∈ ordersQ h s) : (tripS h s os).length ≤ os.length * 576 :=
  flat_len' _ 576 os fun o ho => by
    unfold tripO
    cases e : ledQ h s o with
    | none => exact Nat.zero_le _
    | some l =>
      show (l.map _).length ≤ _
      rw [List.length_map]
      exact led_le w v (hos o ho) e
theorem tripA_le {h : HoldM} (w : WF h) (ks : List SM) (v : ∀ s ∈ ks, Valid h s) : (tripA h ks).length ≤ ks.length * 9216 :=
  flat_len' _ 9216 ks fun s hs => by
    have := tripS_le w (v s hs) (ordersQ h s) fun _ z => z
    have := orders_len w (v s hs)
    omega
theorem flatMap_take_le {α β : Type} (f : α → List β) (l : List α) (i : Nat) : ((l.take i).flatMap f).length ≤ (l.flatMap f).length := by
  conv => rhs; rw [← List.take_append_drop i l]
  rw [List.flatMap_append, List.length_append]
  omega
theorem comes_app (P Q : List Trip) (s : SM) : comesQ (P ++ Q) s = comesQ P s ++ comesQ Q s := by
  unfold comesQ
  rw [List.filter_append, List.map_append]
theorem comes_len (P : List Trip) (s : SM) : (comesQ P s).length ≤ P.length := by
  unfold comesQ
  rw [List.length_map]
  exact List.length_filter_le _ _
def spO (K : PySem.W.Frag) (P : Program) (w : World) : Sp := fun vs H1 Q _ => ∃ (pk : Addr) (h : HoldM) (dn : List Dn) (l : List SM) (B H : Hp), vs = [.ref pk] ∧ Same H H1 ∧ Same B H1 ∧ OwnL B H H1 (knK P w pk dn) ∧ (knF K h dn).p H ∧ WF h ∧ Closed h (dn.map (·.s)) l ∧ dn.length ≤ 1280 ∧
  ∀ G H2 (pc : Addr) (cg : List Cg), Same H G → Same G H2 → Same B H2 → (∀ x o, G x = some o → H x = some o ∨ B x = none) → OwnL B G H2 (knK P w pk dn ++ [(pc, dN P w pc (cgE cg))]) → cg.map (·.s) = dn.map (·.s) → (∀ g ∈ cg, Rep K G (eS g.s) (.ref g.b) ∧ Rep K G (.lst ((comesQ (tripA h (dn.map (·.s))) g.s).map ePair)) (.ref g.q)) → Q (.ref pc) H2
section
variable {P : Program} {w : World} {K : PySem.W.Frag} {mg : Str → Option Value} {base : Heap}
def Lo (P : Program) (w : World) (pk pc : Addr) (dn : List Dn) (cg : List Cg) (cv : SM → List V) : List (Addr × HO) := knK P w pk dn ++ (pc, dN P w pc (cgE cg)) :: cgL cg cv
theorem Lo_pc {pk pc : Addr} {dn : List Dn} {cg : List Cg} {cv : SM → List V} : (Lo P w pk pc dn cg cv)[dn.length + 1]? = some (pc, dN P w pc (cgE cg)) := by
  unfold Lo
  rw [List.getElem?_append_right (by simp [knK, dnL])]
  simp [knK, dnL]
theorem Lo_cg {pk pc : Addr} {dn : List Dn} {cg : List Cg} {cv : SM → List V} {i : Nat} {g : Cg} (hg : cg[i]? = some g) : (Lo P w pk pc dn cg cv)[dn.length + 2 + i]? = some (g.q, .lst (cv g.s)) := by
  unfold Lo
  rw [List.getElem?_append_right (by simp [knK, dnL]; omega)]
  have : dn.length + 2 + i - (knK P w pk dn).length = i + 1 := by simp [knK, dnL]; omega
  rw [this]
  show (cgL cg cv)[i]? = _
  rw [cgL, List.getElem?_map, hg]
  rfl
theorem Lo_set {pk pc : Addr} {dn : List Dn} {cg : List Cg} {cv : SM → List V} {i : Nat} {g : Cg} (nd : (cg.map (·.s)).Nodup) (hg : cg[i]? = some g) (us : List V) : (Lo P w pk pc dn cg cv).set (dn.length + 2 + i) (g.q, .lst us) = Lo P w pk pc dn cg fun s => if s = g.s then us else cv s := by
  unfold Lo
  rw [List.set_append_right _ _ (by simp [knK, dnL]; omega)]
  have : dn.length + 2 + i - (knK P w pk dn).length = i + 1 := by simp [knK, dnL]; omega
  rw [this]
  congr 1
  show _ :: (cgL cg cv).set i _ = _ :: _
  congr 1
  refine List.ext_getElem? fun k => ?_
  unfold cgL
  rw [List.getElem?_set, List.getElem?_map, List.getElem?_map, List.length_map]
  have hi : i < cg.length := (List.getElem?_eq_some_iff.mp hg).1
  by_cases q : i = k
  · subst q
    rw [if_pos rfl, if_pos hi, hg]
    show some (g.q, HO.lst us) = some (g.q, HO.lst (if g.s = g.s then us else cv g.s))
    rw [if_pos rfl]
  · rw [if_neg q]
    cases hk : cg[k]? with
    | none => rfl
    | some g' =>
      have hne : g'.s ≠ g.s := fun e => by
        have p1 : (cg.map (·.s))[i]? = some g.s := by rw [List.getElem?_map, hg]; rfl
        have p2 : (cg.map (·.s))[k]? = some g.s := by rw [List.getElem?_map, hk, ← e]; rfl
        have hl : i < (cg.map (·.s)).length := (List.getElem?_eq_some_iff.mp p1).1
        exact q ((List.getElem?_inj hl nd).mp (p1.trans p2.symm))
      show some (g'.q, HO.lst (cv g'.s)) = some (g'.q, HO.lst (if g'.s = g.s then us else cv g'.s))
      rw [if_neg hne]
end
end SK
set_option maxRecDepth 100000
set_option maxHeartbeats 4000000
namespace SK
open PySem L2 PyProof.Rows
theorem nodup_ix {L : List (Addr × HO)} (nd : (L.map (·.1)).Nodup) {i k : Nat} {x y : Addr × HO} (hx : L[i]? = some x) (hy : L[k]? = some y) (n : i ≠ k) : x.1 ≠ y.1 := fun e => by
  have p1 : (L.map (·.1))[i]? = some x.1 := by rw [List.getElem?_map, hx]; rfl
  have p2 : (L.map (·.1))[k]? = some x.1 := by rw [List.getElem?_map, hy, e]; rfl
  have hl : i < (L.map (·.1)).length := (List.getElem?_eq_some_iff.mp p1).1
  exact n ((List.getElem?_inj hl nd).mp (p1.trans p2.symm))
section
variable {P : Program} {w : World} {K : PySem.W.Frag} {mg : Str → Option Value} {base : Heap} {pk pc : Addr} {dn : List Dn} {cg : List Cg} {cv : SM → List V}
theorem Lo_pk : (Lo P w pk pc dn cg cv)[0]? = some (pk, dN P w pk (dnE dn)) := rfl
theorem Lo_dn {i : Nat} {x : Dn} (hx : dn[i]? = some x) : (Lo P w pk pc dn cg cv)[i + 1]? = some (x.p, .dK x.ws) := by
  unfold Lo knK
  show (dnL dn ++ _)[i]? = _
  rw [List.getElem?_append_left (by rw [dnL, List.length_map]; exact (List.getElem?_eq_some_iff.mp hx).1), dnL, List.getElem?_map, hx]
  rfl
theorem Lo_add (g : Cg) : (Lo P w pk pc dn cg fun _ => []).set (dn.length + 1) (pc, dN P w pc (cgE cg ++ [(kS_ g.s, g.b, V.ref g.q)])) ++ [(g.q, .lst [])] = Lo P w pk pc dn (cg ++ [g]) fun _ => [] := by
  unfold Lo
  rw [List.set_append_right _ _ (by simp [knK, dnL])]
  have : dn.length + 1 - (knK P w pk dn).length = 0 := by simp [knK, dnL]
  rw [this]
  simp [cgE, cgL]
theorem cg_val (nd : (cg.map (·.s)).Nodup) {g : Cg} (hg : g ∈ cg) : nVal (cgE cg) (kS_ g.s) = some (V.ref g.q) := by
  cases q : nVal (cgE cg) (kS_ g.s) with
  | none => exact absurd (List.mem_map.mpr ⟨_, List.mem_map.mpr ⟨g, hg, rfl⟩, rfl⟩) (nVal_none q)
  | some v =>
    obtain ⟨y, hy, e1, e2⟩ := nVal_mem q
    obtain ⟨z, hz, rfl⟩ := List.mem_map.mp hy
    have e3 : z.s = g.s := kS_inj_ e1
    have : z = g := by
      obtain ⟨i, hi⟩ := List.mem_iff_getElem?.mp hz
      obtain ⟨j, hj⟩ := List.mem_iff_getElem?.mp hg
      have p1 : (cg.map (·.s))[i]? = some z.s := by rw [List.getElem?_map, hi]; rfl
      have p2 : (cg.map (·.s))[j]? = some z.s := by rw [List.getElem?_map, hj, e3]; rfl
      have hl : i < (cg.map (·.s)).length := (List.getElem?_eq_some_iff.mp p1).1
      have := (List.getElem?_inj hl nd).mp (p1.trans p2.symm)
      rw [this, hj] at hi
      exact (Option.some.inj hi).symm
    rw [← e2, this]
theorem cg_new {s : SM} (h : s ∉ cg.map (·.s)) : nVal (cgE cg) (kS_ s) = none := by
  cases q : nVal (cgE cg) (kS_ s) with
  | none => rfl
  | some v =>
    obtain ⟨y, hy, e1, e2⟩ := nVal_mem q
    obtain ⟨z, hz, rfl⟩ := List.mem_map.mp hy
    exact absurd (List.mem_map.mpr ⟨z, hz, kS_inj_ e1⟩) h
theorem kok_cg {H : Hp} (k : ∀ g ∈ cg, Rep K H (eS g.s) (.ref g.b)) : KOk K H (cgE cg) := fun x hx => by
  obtain ⟨z, hz, rfl⟩ := List.mem_map.mp hx
  exact ⟨eS z.s, rfl, isKey_eS _, depth_eS _, k z hz⟩
theorem cgF_snoc {H : Hp} {Pt : List Trip} (nd : (cg.map (·.s)).Nodup) {t : SM} {o : Nat} {y : SM} {v : V} (r : (cgF K cg cv Pt).p H) (rv : Rep K H (ePair (t, o)) v) : (cgF K cg (fun s => if s = y then cv y ++ [v] else cv s) (Pt ++ [(t, o, y)])).p H := by
  refine ⟨r.1, fun g hg => ?_⟩
  rw [comes_app]
  show Reps K H ((comesQ Pt g.s ++ comesQ [(t, o, y)] g.s).map ePair) (if g.s = y then cv y ++ [v] else cv g.s)
  by_cases e : g.s = y
  · rw [if_pos e, e]
    have e2 : comesQ [(t, o, y)] y = [(t, o)] := by simp [comesQ]
    rw [e2, List.map_append]
    have := r.2 g hg
    rw [e] at this
    exact this.snoc rv
  · rw [if_neg e]
    have e2 : comesQ [(t, o, y)] g.s = [] := by simp [comesQ, Ne.symm e]
    rw [e2, List.append_nil]
    exact r.2 g hg
def cmF (K : PySem.W.Frag) (cg : List Cg) (cm : SM → List (SM × Nat)) : Fact := ⟨fun H => ∀ g ∈ cg, Rep K H (eS g.s) (.ref g.b) ∧ Rep K H (.lst ((cm g.s).map ePair)) (.ref g.q), fun e a g hg => ⟨(a g hg).1.mono e, (a g hg).2.mono e⟩⟩
theorem f_open_orders (T : Prg K mg) : ∃ fd, FunD K "open_orders" "open_orders" (defArgs s_open_orders) (defBody s_open_orders) (defScope s_open_orders) [] [] (He.ga K "open_orders") fd ∧ FnOk P w K mg base CX0 1 (He.ga K "open_orders") fd ["known"] (spO K P w) := by
  obtain ⟨fd, F⟩ := F_open_orders T
  refine ⟨fd, F, F.ok sc_open_orders (fun vs H Q E h => ?_) (fun cdv A outer s H vs Q E hr h => ?_)⟩
  · obtain ⟨_, _, _, _, _, _, rfl, _⟩ := h
    rfl
  · obtain ⟨pk, h, dn, l, B, Hv, rfl, e, eb, ow, kf, wf, cl, len, q⟩ := h
    refine ⟨_, PSs.nox (pss_of (X := cx P w K mg base n_open_orders "open_orders" (defScope s_open_orders) (He.ga K "open_orders") cdv A outer s H E)), ?_⟩
    have t := at_memo (K := K) (N := ["comes", "state", "order", "one"]) (M := om pk (knK P w pk dn) (knF K h dn)) (ds := []) (ws := []) e eb .nil ⟨rfl, ow, kf⟩
    have nd := sc_open_orders.nd
    have hu := hr.units
    have dnd := cl.nd
    refine ds_newN (X := cx P w K mg base n_open_orders "open_orders" (defScope s_open_orders) (He.ga K "open_orders") cdv A outer s H E) 0 nd (fun pc => ⟨fun _ => False, fun d => d = .adr pc, fun ρ => ∃ cg R', ρ[0]? = some (some (.mem (om pk (knK P w pk dn ++ [(pc, dN P w pc (cgE cg))]) R'))) ∧ cg.map (·.s) = dn.map (·.s) ∧ ∀ H, R'.p H → ∀ g ∈ cg, Rep K H (eS g.s) (.ref g.b) ∧ Rep K H (.lst ((comesQ (tripA h (dn.map (·.s))) g.s).map ePair)) (.ref g.q)⟩) (fun pc => ?_) t fun pc => ⟨fun ρ σ G H2 z => z.elim, fun d' v ρ σ G H2 z z2 b c' r => ?_⟩
    · show DS _ [some (.mem (om pk (Lo P w pk pc dn [] fun _ => []) (knF K h dn))), some (.val (.adr pc)), none, none, none] _ _
      refine ds_forN (dn := dn) 1 nd (fun i L R ρ1 => ∃ cg b, L = Lo P w pk pc dn cg (fun _ => []) ∧ cg.map (·.s) = (dn.take i).map (·.s) ∧ (∀ H, R.p H → (knF K h dn).p H ∧ ∀ g ∈ cg, Rep K H (eS g.s) (.ref g.b)) ∧ ρ1 = [some (.val (.adr pc)), Option.map Bd.val b, none, none]) ?_ ⟨[], none, rfl, rfl, fun H r => ⟨r, fun g hg => by cases hg⟩, rfl⟩ ?_ ?_
      · rintro i L R ρ1 ⟨cg, b, rfl, _, hR, rfl⟩
        exact ⟨List.mem_append_left _ (List.mem_cons_self ..), by cases b <;> rfl, fun H r => ((hR H r).1).1⟩
      · rintro od i x0 L R ρ1 hx0 ⟨cg, b, rfl, hcg, hR, rfl⟩
        have hnew : x0.s ∉ cg.map (·.s) := by
          rw [hcg, List.map_take]
          exact nodup_take_not dnd (by rw [List.getElem?_map, hx0]; rfl)
        have hlen : cg.length ≤ 1280 := by
          have := congrArg List.length hcg
          rw [List.length_map, List.length_map, List.length_take] at this
          omega
        refine ds_nd fun n1 => ?_
        rw [frzA_fst] at n1
        have npc : pc ≠ pk := nodup_ix n1 Lo_pc Lo_pk (by omega)
        refine ds_putNL (k := dn.length + 1) (i := 1) hu (frzA_get Lo_pc npc) (fun H r => kok_cg (hR H r).2) (by rw [cgE, List.length_map]; exact Nat.lt_of_le_of_lt hlen (by decide)) (do_lst da_nil) (nm 2) rfl rfl fun q' vs kb R' hR' => ?_
        refine ds_pure (Pp := vs = []) (fun H r => by cases ((hR' H).mp r).2.1; rfl) fun hvs => ?_
        subst hvs
        rw [nPut_new (cg_new hnew), ← frzA_set npc]
        refine ds_nd fun n2 => ?_
        have nq : q' ≠ pk := by
          rw [List.map_append, frzA_fst] at n2
          obtain ⟨_, _, n3⟩ := List.nodup_append.mp n2
          intro z
          refine n3 pk ?_ q' (by simp) z.symm
          rw [List.map_set]
          refine List.mem_of_getElem? (i := 0) ?_
          rw [List.getElem?_set_ne (by omega)]
          rfl
        have e1 : frzA pk od ((Lo P w pk pc dn cg fun _ => []).set (dn.length + 1) (pc, dN P w pc (cgE cg ++ [(kS_ x0.s, kb, V.ref q')]))) ++ [(q', HO.lst [])] = frzA pk od (Lo P w pk pc dn (cg ++ [⟨x0.s, kb, q'⟩]) fun _ => []) := by
          rw [← Lo_add ⟨x0.s, kb, q'⟩, frzA_app]
          congr 1
          exact (frzA_off (fun x hx => by
            obtain rfl := List.mem_singleton.mp hx
            exact nq)).symm
        change DS _ (some (Bd.mem (om pk (frzA pk od ((Lo P w pk pc dn cg fun _ => []).set (dn.length + 1) (pc, dN P w pc (cgE cg ++ [(kS_ x0.s, kb, V.ref q')]))) ++ [(q', HO.lst [])]) R')) :: _) _ _
        rw [e1]
        refine ds_nil ⟨_, R', _, rfl, cg ++ [⟨x0.s, kb, q'⟩], some (eS x0.s), rfl, ?_, fun H r => ?_, rfl⟩
        · rw [List.map_append, hcg, take_next hx0, List.map_append]
          rfl
        · obtain ⟨r1, _, r3⟩ := (hR' H).mp r
          refine ⟨(hR H r1).1, fun g hg => ?_⟩
          rcases List.mem_append.mp hg with z | z
          · exact (hR H r1).2 g z
          · obtain rfl := List.mem_singleton.mp z
            exact r3
      · rintro L R ρ1 ⟨cg, b, rfl, hcg, hR, rfl⟩
        rw [List.take_length] at hcg
        have cnd : (cg.map (·.s)).Nodup := by rw [hcg]; exact dnd
        refine ds_nd fun n0 => ?_
        have hpp : ∀ x ∈ dn, x.p ≠ pk := fun x hx => by
          obtain ⟨i, hi⟩ := List.mem_iff_getElem?.mp hx
          exact nodup_ix n0 (Lo_dn hi) Lo_pk (by omega)
        refine ds_forN (dn := dn) 1 nd (fun i L R ρ1 => ∃ cv b2 b3 b4, L = Lo P w pk pc dn cg cv ∧ (∀ H, R.p H → (knF K h dn).p H ∧ (cgF K cg cv (tripA h ((dn.take i).map (·.s)))).p H) ∧ ρ1 = [some (.val (.adr pc)), Option.map Bd.val b2, Option.map Bd.val b3, Option.map Bd.val b4]) ?_ ⟨fun _ => [], b, none, none, rfl, fun H r => ⟨(hR H r).1, (hR H r).2, fun g hg => .nil⟩, rfl⟩ ?_ ?_
        · rintro i L R ρ1 ⟨cv, b2, b3, b4, rfl, hR, rfl⟩
          exact ⟨List.mem_append_left _ (List.mem_cons_self ..), by cases b2 <;> cases b3 <;> cases b4 <;> rfl, fun H r => ((hR H r).1).1⟩
        · rintro od i x0 L R ρ1 hx0 ⟨cv, b2, b3, b4, rfl, hR, rfl⟩
          have hxm : x0 ∈ dn := List.mem_of_getElem? hx0
          have vx : Valid h x0.s := cl.va _ (List.mem_map.mpr ⟨x0, hxm, rfl⟩)
          have ol := orders_len wf vx
          have wn : ((waysQ h x0.s).map (·.1)).Nodup := by
            rw [waysQ, List.map_map]
            show ((ordersQ h x0.s).map id).Nodup
            rw [List.map_id]
            exact orders_nodup wf vx
          have kse : ∀ od2 cv (R : Fact), (∀ H, R.p H → (knF K h dn).p H) → KSee K P w h pk dn (frzA x0.p od2 (frzA pk od (Lo P w pk pc dn cg cv))) R := fun od2 cv R rf =>
            have k1 := ksee1 (K := K) (P := P) (w := w) (pk := pk) (C := (pc, dN P w pc (cgE cg)) :: cgL cg cv) od rf
            ⟨k1.hk.frz fun z => absurd z.symm (hpp x0 hxm), fun x hx => (k1.hw x hx).frz fun _ => frzA_mem (List.mem_append_left _ (List.mem_cons_of_mem _ (List.mem_map.mpr ⟨x, hx, rfl⟩))) (hpp x hx), k1.rk, k1.rw_⟩
          refine ds_forK (h := h) (dn := dn) (x0 := x0) 2 hu nd dnd hxm (fun j L R ρ1 => ∃ cv b3 b4, L = frzA pk od (Lo P w pk pc dn cg cv) ∧ (∀ H, R.p H → (knF K h dn).p H ∧ (cgF K cg cv (tripA h ((dn.take i).map (·.s)) ++ tripS h x0.s ((ordersQ h x0.s).take j))).p H) ∧ ρ1 = [some (.val (.adr pc)), some (.val (eS x0.s)), Option.map Bd.val b3, Option.map Bd.val b4]) ?_ ⟨cv, b3, b4, rfl, fun H r => ⟨(hR H r).1, by rw [List.take_zero]; show (cgF K cg cv (_ ++ [])).p H; rw [List.append_nil]; exact (hR H r).2⟩, rfl⟩ (fun b => nm 2) ?_ ?_
          · rintro j L R ρ1 ⟨cv, b3, b4, rfl, hR, rfl⟩
            exact ⟨frzA_mem (List.mem_append_left _ (List.mem_cons_of_mem _ (List.mem_map.mpr ⟨x0, hxm, rfl⟩))) (hpp x0 hxm), by cases b3 <;> cases b4 <;> rfl, fun od2 => kse od2 cv R fun H r => (hR H r).1⟩
          · rintro od2 j o L R ρ1 hj ⟨cv, b3, b4, rfl, hR, rfl⟩
            have ks2 := kse od2 cv R fun H r => (hR H r).1
            have hom : o ∈ ordersQ h x0.s := List.mem_of_getElem? hj
            have hin : (o, ledQ h x0.s o) ∈ waysQ h x0.s := List.mem_map.mpr ⟨o, hom, rfl⟩
            have enx : tripS h x0.s ((ordersQ h x0.s).take (j + 1)) = tripS h x0.s ((ordersQ h x0.s).take j) ++ tripO h x0.s o := by
              unfold tripS
              rw [take_next hj, List.flatMap_append]
              simp
            refine ds_if (dt_notN (de_kso (i := 0) hu ks2 dnd hxm wn hin (nm 2) (nm 3) rfl rfl) de_non) (fun hb2 => ?_) fun hb2 => ds_nil (ds_nil ?_)
            · cases el : ledQ h x0.s o with
              | none => rw [el] at hb2; cases hb2
              | some l' =>
                have eto : tripO h x0.s o = l'.map fun x => (x0.s, o, x) := by unfold tripO; rw [el]
                have ll := led_le wf vx hom el
                refine forL l' eS 4 nd (de_is (de_kso (i := 0) hu ks2 dnd hxm wn hin (nm 2) (nm 3) rfl rfl) (by rw [el]; rfl))
                  (fun k ρ' => ∃ cv R b4, ρ' = [some (.mem (om pk (frzA x0.p od2 (frzA pk od (Lo P w pk pc dn cg cv))) R)), some (.val (.adr pc)), some (.val (eS x0.s)), some (.val (nI o)), Option.map Bd.val b4] ∧ ∀ H, R.p H → (knF K h dn).p H ∧ (cgF K cg cv (tripA h ((dn.take i).map (·.s)) ++ tripS h x0.s ((ordersQ h x0.s).take j) ++ (l'.take k).map fun x => (x0.s, o, x))).p H)
                  ⟨cv, R, b4, rfl, fun H r => ⟨(hR H r).1, by rw [List.take_zero]; show (cgF K cg cv (_ ++ [])).p H; rw [List.append_nil]; exact (hR H r).2⟩⟩ ?_ ?_
                · rintro k y ρ' hk ⟨cv, R, b4, rfl, hR⟩
                  have hyk : y ∈ cg.map (·.s) := by
                    rw [hcg]
                    exact cl.cl _ (List.mem_map.mpr ⟨x0, hxm, rfl⟩) o hom l' el y (List.mem_of_getElem? hk)
                  obtain ⟨g, hg, rfl⟩ := List.mem_map.mp hyk
                  obtain ⟨gi, hgi⟩ := List.mem_iff_getElem?.mp hg
                  refine ds_nd fun n1 => ?_
                  rw [frzA_fst, frzA_fst] at n1
                  obtain ⟨xi, hxi⟩ := List.mem_iff_getElem?.mp hxm
                  have hxl : xi < dn.length := (List.getElem?_eq_some_iff.mp hxi).1
                  have nq1 : g.q ≠ pk := nodup_ix n1 (Lo_cg hgi) Lo_pk (by omega)
                  have nq2 : g.q ≠ x0.p := nodup_ix n1 (Lo_cg hgi) (Lo_dn hxi) (by omega)
                  have lenb : ∀ H, R.p H → (cv g.s).length < sizeLine := fun H r => by
                    have r2 := ((hR H r).2).2 g hg
                    rw [← r2.length, List.length_map]
                    refine Nat.lt_of_le_of_lt (comes_len _ _) ?_
                    rw [List.length_append, List.length_append, List.length_map, List.length_take]
                    have a1 : (tripA h ((dn.take i).map (·.s))).length ≤ 1280 * 9216 := by
                      refine Nat.le_trans (tripA_le wf _ fun s hs => ?_) (Nat.mul_le_mul_right _ ?_)
                      · obtain ⟨z, hz, rfl⟩ := List.mem_map.mp hs
                        exact cl.va _ (List.mem_map.mpr ⟨z, List.mem_of_mem_take hz, rfl⟩)
                      · rw [List.length_map, List.length_take]
                        omega
                    have a2 := tripS_le wf vx ((ordersQ h x0.s).take j) fun o ho => List.mem_of_mem_take ho
                    rw [List.length_take] at a2
                    have a3 : min j (ordersQ h x0.s).length * 576 ≤ 16 * 576 := Nat.mul_le_mul_right _ (by omega)
                    exact Nat.lt_of_le_of_lt (show _ ≤ 11900000 by omega) (by decide)
                  refine ds_pure lenb fun hlb => ?_
                  refine ds_appN (k := dn.length + 2 + gi) (i := 1) (vs := cv g.s) hu (frzA_get (frzA_get (Lo_cg hgi) nq1) nq2) (((Has.frz (.inl (List.mem_append_right _ (List.mem_cons_self ..))) fun _ => List.mem_append_right _ (List.mem_cons_self ..)).frz fun z => ?_)) (fun H r => kok_cg ((hR H r).2).1) (cg_val cnd hg) hlb (nm 4) (de_tup (da_cons (nm 2) (da_one (nm 3)))) rfl rfl fun v R' hR' => ?_
                  · exact absurd z (nodup_ix n1 Lo_pc (Lo_dn hxi) (by omega))
                  rw [← frzA_set nq2, ← frzA_set nq1, Lo_set cnd hgi]
                  refine ds_nil ⟨_, R', some (eS g.s), rfl, fun H r => ?_⟩
                  obtain ⟨r1, r2⟩ := (hR' H).mp r
                  refine ⟨(hR H r1).1, ?_⟩
                  rw [take_next hk, List.map_append, ← List.append_assoc]
                  exact cgF_snoc cnd (hR H r1).2 r2
                · rintro ρ' ⟨cv, R, b4, rfl, hR⟩
                  refine ds_nil (ds_nil ⟨_, R, _, rfl, cv, some (nI o), b4, rfl, fun H r => ⟨(hR H r).1, ?_⟩, rfl⟩)
                  rw [enx, eto, ← List.append_assoc]
                  have := (hR H r).2
                  rw [List.take_length] at this
                  exact this
            · have el : ledQ h x0.s o = none := by
                cases q : ledQ h x0.s o with
                | none => rfl
                | some l' => rw [q] at hb2; cases hb2
              have eto : tripO h x0.s o = [] := by unfold tripO; rw [el]
              refine ⟨_, R, _, rfl, cv, some (nI o), b4, rfl, fun H r => ⟨(hR H r).1, ?_⟩, rfl⟩
              rw [enx, eto, List.append_nil]
              exact (hR H r).2
          · rintro L R ρ1 ⟨cv, b3, b4, rfl, hR, rfl⟩
            refine ds_nil ⟨_, R, _, rfl, cv, some (eS x0.s), b3, b4, rfl, fun H r => ⟨(hR H r).1, ?_⟩, rfl⟩
            have := (hR H r).2
            rw [List.take_length] at this
            have e2 : tripA h ((dn.take (i + 1)).map (·.s)) = tripA h ((dn.take i).map (·.s)) ++ tripS h x0.s (ordersQ h x0.s) := by
              unfold tripA
              rw [take_next hx0, List.map_append, List.flatMap_append]
              simp
            rw [e2]
            exact this
        · rintro L R ρ1 ⟨cv, b2, b3, b4, rfl, hR, rfl⟩
          rw [List.take_length] at hR
          have eL : Lo P w pk pc dn cg cv = (knK P w pk dn ++ [(pc, dN P w pc (cgE cg))]) ++ cgL cg cv := by
            unfold Lo
            simp
          rw [eL]
          have hm4 : noMem [some (Bd.val (.adr pc)), Option.map Bd.val b2, Option.map Bd.val b3, Option.map Bd.val b4] = true := by cases b2 <;> cases b3 <;> cases b4 <;> rfl
          refine ds_melt (R' := cmF K cg (comesQ (tripA h (dn.map fun (x : Dn) => x.s)))) (fun B H H1 w0 r g hg => ?_) (ds_ret (de_adr 1) rfl ⟨cg, _, rfl, hcg, fun H r => r⟩) hm4
          have wc : OwnL B H H1 (cgL cg cv) := ⟨by
            have := w0.1
            rw [List.map_append] at this
            exact (List.nodup_append.mp this).2.1, fun x hx => w0.2 x (List.mem_append_right _ hx)⟩
          have sm := ovl_same wc
          obtain ⟨_, c1, c2⟩ := hR H r
          exact ⟨(c1 g hg).mono sm, .lst (ovl_in wc (x := (g.q, .lst (cv g.s))) (List.mem_map.mpr ⟨g, hg, rfl⟩)) ((c2 g hg).mono sm)⟩
    · have z1 : d' = .adr pc := z
      subst z1
      cases r
      obtain ⟨cg, R', z3, hcg, hR'⟩ := z2
      obtain ⟨ea, w2, r2⟩ := om_at b z3
      exact q G H2 pc cg c' b.up b.bn (fun x o z => b.nw x o z) w2 hcg (hR' G r2)
end
end SK
/-! Plain Lean: the ranks, found from behind. -/
namespace SK
def ill (h : HoldM) : Nat → SM → Prop
  | 0, s => ordersQ h s = []
  | n + 1, s => ∀ o ∈ ordersQ h s, ∀ l, ledQ h s o = some l → ∃ x ∈ l, ill h n x
theorem ill_up {h : HoldM} : ∀ {n : Nat} {s : SM}, ill h n s → ill h (n + 1) s
  | 0, s, q => fun o ho => by
    have e : ordersQ h s = [] := q
    rw [e] at ho
    cases ho
  | n + 1, s, q => fun o ho l hl => let ⟨x, hx, r⟩ := q o ho l hl; ⟨x, hx, ill_up r⟩
theorem ill_le {h : HoldM} {n m : Nat} (hl : n ≤ m) {s : SM} (q : ill h n s) : ill h m s := by
  induction hl with
  | refl => exact q
  | step _ ih => exact ill_up ih
def openQ (h : HoldM) (s : SM) : List Nat := (ordersQ h s).filter fun o => (ledQ h s o).isSome
structure BS where
  F : SM → Option Nat
  L : SM → List Nat
  row : List SM
def fv (S : BS) (s : SM) : Nat := (S.F s).getD 0
structure CW (h : HoldM) (ks : List SM) (cm : SM → List (SM × Nat)) : Prop where
  to : ∀ x c, c ∈ cm x → c.1 ∈ ks ∧ c.2 ∈ ordersQ h c.1 ∧ ∃ l, ledQ h c.1 c.2 = some l ∧ x ∈ l
  of : ∀ t ∈ ks, ∀ o ∈ ordersQ h t, ∀ l, ledQ h t o = some l → ∀ x ∈ l, (t, o) ∈ cm x ∧ x ∈ ks
structure BI (h : HoldM) (ks : List SM) (cm : SM → List (SM × Nat)) (S : BS) (at_ : Nat) (D : List (SM × Nat)) : Prop where
  nd : S.row.Nodup
  sub : ∀ t ∈ S.row, t ∈ ks
  some_ : ∀ t ∈ ks, (S.F t).isSome = true ↔ t ∈ S.row
  left : ∀ t ∈ ks, ∀ o, o ∈ S.L t ↔ o ∈ openQ h t ∧ (t, o) ∉ D
  ld : ∀ t ∈ ks, (S.L t).Nodup
  emp : ∀ t ∈ ks, t ∈ S.row ↔ S.L t = []
  sort : S.row.Pairwise fun a b => fv S a ≤ fv S b
  bnd : ∀ x, S.row[at_]? = some x → ∀ t ∈ S.row, fv S t ≤ fv S x + 1
  snd : ∀ t ∈ S.row, ill h (fv S t) t
  lst : ∀ t ∈ S.row, 0 < fv S t → ordersQ h t ≠ [] ∧ (fv S t = 1 ∨ ∃ o ∈ ordersQ h t, ∃ l, ledQ h t o = some l ∧ ∀ x ∈ l, ∀ n, S.F x = some n → fv S t ≤ n + 1)
  dn : ∀ c ∈ D, ∃ l x, ledQ h c.1 c.2 = some l ∧ x ∈ l ∧ x ∈ S.row ∧ ∀ y, S.row[at_]? = some y → fv S x ≤ fv S y
  pr : ∀ i x, i < at_ → S.row[i]? = some x → ∀ c ∈ cm x, c ∈ D
def put1 {α : Type} (f : SM → α) (t : SM) (a : α) : SM → α := fun s => if s = t then a else f s
theorem put1_same {α : Type} {f : SM → α} {t : SM} {a : α} : put1 f t a t = a := if_pos rfl
theorem put1_ne {α : Type} {f : SM → α} {t s : SM} {a : α} (h : s ≠ t) : put1 f t a s = f s := if_neg h
def stepB (x : SM) (S : BS) (c : SM × Nat) : BS :=
  if c.2 ∈ S.L c.1 then
    if (S.L c.1).erase c.2 = [] then ⟨put1 S.F c.1 (some (fv S x + 1)), put1 S.L c.1 [], S.row ++ [c.1]⟩
    else ⟨S.F, put1 S.L c.1 ((S.L c.1).erase c.2), S.row⟩
  else S
theorem left_erase {h : HoldM} {ks : List SM} {cm : SM → List (SM × Nat)} {S : BS} {a : Nat} {D : List (SM × Nat)} (b : BI h ks cm S a D) {c : SM × Nat} (hc : c.1 ∈ ks) (L' : List Nat) (e : L' = (S.L c.1).erase c.2) : ∀ t ∈ ks, ∀ o, o ∈ put1 S.L c.1 L' t ↔ o ∈ openQ h t ∧ (t, o) ∉ D ++ [c] := fun t ht o => by
  have hl := b.left t ht o
  by_cases q : t = c.1
  · subst q
    rw [put1_same, e]
    have nd := b.ld _ ht
    rw [List.Nodup.mem_erase_iff nd, hl, List.mem_append, List.mem_singleton]
    constructor
    · rintro ⟨n, a, d⟩
      exact ⟨a, fun z => z.elim d fun z => n (congrArg (·.2) z)⟩
    · rintro ⟨a, d⟩
      exact ⟨fun z => d (.inr (by rw [z])), a, fun z => d (.inl z)⟩
  · rw [put1_ne q, hl, List.mem_append, List.mem_singleton]
    constructor
    · rintro ⟨a, d⟩
      exact ⟨a, fun z => z.elim d fun z => q (congrArg (·.1) z)⟩
    · rintro ⟨a, d⟩
      exact ⟨a, fun z => d (.inl z)⟩
theorem BI.turn {h : HoldM} {ks : List SM} {cm : SM → List (SM × Nat)} (cw : CW h ks cm) {S : BS} {a : Nat} {D : List (SM × Nat)} (b : BI h ks cm S a D) {x : SM} (hx : S.row[a]? = some x) {c : SM × Nat} (hc : c ∈ cm x) : BI h ks cm (stepB x S c) a (D ++ [c]) := by
  obtain ⟨ck, co, l, cl, xl⟩ := cw.to x c hc
  have xr : x ∈ S.row := List.mem_of_getElem? hx
  have dnc : ∀ (S' : BS), S'.row[a]? = some x → x ∈ S'.row → ∃ l x', ledQ h c.1 c.2 = some l ∧ x' ∈ l ∧ x' ∈ S'.row ∧ ∀ y, S'.row[a]? = some y → fv S' x' ≤ fv S' y := fun S' e1 e2 => ⟨l, x, cl, xl, e2, fun y hy => by rw [e1] at hy; cases hy; exact Nat.le_refl _⟩
  unfold stepB
  by_cases h1 : c.2 ∈ S.L c.1
  · rw [if_pos h1]
    have hop := (b.left c.1 ck c.2).mp h1
    by_cases h2 : (S.L c.1).erase c.2 = []
    · rw [if_pos h2]
      have hne : S.L c.1 ≠ [] := fun z => by rw [z] at h1; cases h1
      have tnr : c.1 ∉ S.row := fun z => hne ((b.emp _ ck).mp z)
      have ne_of : ∀ z ∈ S.row, z ≠ c.1 := fun z hz e => tnr (e ▸ hz)
      let S' : BS := ⟨put1 S.F c.1 (some (fv S x + 1)), put1 S.L c.1 [], S.row ++ [c.1]⟩
      have fo : ∀ z, z ≠ c.1 → fv S' z = fv S z := fun z hz => by show (put1 S.F c.1 _ z).getD 0 = _; rw [put1_ne hz]; rfl
      have ft : fv S' c.1 = fv S x + 1 := by show (put1 S.F c.1 _ c.1).getD 0 = _; rw [put1_same]; rfl
      have al : a < S.row.length := (List.getElem?_eq_some_iff.mp hx).1
      have hx' : S'.row[a]? = some x := by show (S.row ++ [c.1])[a]? = _; rw [List.getElem?_append_left al]; exact hx
      have lf := left_erase b ck [] h2.symm
      refine ⟨?_, ?_, ?_, lf, ?_, ?_, ?_, ?_, ?_, ?_, ?_, ?_⟩
      · refine List.nodup_append.mpr ⟨b.nd, by simp, fun z hz y hy => ?_⟩
        have : y = c.1 := by simpa using hy
        rw [this]
        exact ne_of z hz
      · intro t ht
        rcases List.mem_append.mp ht with z | z
        · exact b.sub t z
        · rw [List.mem_singleton.mp z]; exact ck
      · intro t ht
        show (put1 S.F c.1 (some (fv S x + 1)) t).isSome = true ↔ t ∈ S.row ++ [c.1]
        rw [List.mem_append, List.mem_singleton]
        by_cases q : t = c.1
        · subst q
          rw [put1_same]
          simp
        · rw [put1_ne q, b.some_ t ht]
          simp [q]
      · intro t ht
        show (put1 S.L c.1 [] t).Nodup
        by_cases q : t = c.1
        · rw [q, put1_same]; exact List.nodup_nil
        · rw [put1_ne q]; exact b.ld t ht
      · intro t ht
        show t ∈ S.row ++ [c.1] ↔ put1 S.L c.1 [] t = []
        rw [List.mem_append, List.mem_singleton]
        by_cases q : t = c.1
        · subst q
          rw [put1_same]
          simp
        · rw [put1_ne q, ← b.emp t ht]
          simp [q]
      · show (S.row ++ [c.1]).Pairwise _
        rw [List.pairwise_append]
        refine ⟨?_, List.pairwise_singleton _ _, fun z hz y hy => ?_⟩
        · exact (List.pairwise_iff_forall_sublist.mpr fun {p q} hs => by
            have hp : p ∈ S.row := hs.subset (by simp)
            have hq : q ∈ S.row := hs.subset (by simp)
            rw [fo p (ne_of p hp), fo q (ne_of q hq)]
            exact List.pairwise_iff_forall_sublist.mp b.sort hs)
        · rw [List.mem_singleton.mp hy, fo z (ne_of z hz), ft]
          exact b.bnd x hx z hz
      · intro x' e t ht
        rw [hx'] at e
        cases e
        rw [fo x (ne_of x xr)]
        rcases List.mem_append.mp ht with z | z
        · rw [fo t (ne_of t z)]; exact b.bnd x hx t z
        · rw [List.mem_singleton.mp z, ft]; exact Nat.le_refl _
      · intro t ht
        rcases List.mem_append.mp ht with z | z
        · rw [fo t (ne_of t z)]; exact b.snd t z
        · rw [List.mem_singleton.mp z, ft]
          intro o ho l' hl'
          by_cases q : o = c.2
          · subst q
            rw [cl] at hl'
            cases hl'
            exact ⟨x, xl, b.snd x xr⟩
          · have hop2 : o ∈ openQ h c.1 := List.mem_filter.mpr ⟨ho, by rw [hl']; rfl⟩
            have hnl : o ∉ S.L c.1 := fun z => by
              have := (List.mem_erase_of_ne q).mpr z
              rw [h2] at this
              cases this
            have hd : (c.1, o) ∈ D := Classical.byContradiction fun z => hnl ((b.left _ ck o).mpr ⟨hop2, z⟩)
            obtain ⟨l2, x2, e2, m2, r2, f2⟩ := b.dn _ hd
            rw [hl'] at e2
            cases e2
            exact ⟨x2, m2, ill_le (f2 x hx) (b.snd x2 r2)⟩
      · intro t ht h0
        rcases List.mem_append.mp ht with z | z
        · rw [fo t (ne_of t z)] at h0 ⊢
          obtain ⟨g1, g2⟩ := b.lst t z h0
          refine ⟨g1, g2.imp id fun ⟨o, ho, l', hl', g3⟩ => ⟨o, ho, l', hl', fun y hy n hn => ?_⟩⟩
          have hn2 : put1 S.F c.1 (some (fv S x + 1)) y = some n := hn
          by_cases q : y = c.1
          · rw [q, put1_same] at hn2
            cases hn2
            have := b.bnd x hx t z
            omega
          · rw [put1_ne q] at hn2
            exact g3 y hy n hn2
        · rw [List.mem_singleton.mp z] at h0 ⊢
          rw [ft] at h0 ⊢
          refine ⟨(fun e => by rw [e] at co; cases co), .inr ⟨c.2, co, l, cl, fun y hy n hn => ?_⟩⟩
          have hn2 : put1 S.F c.1 (some (fv S x + 1)) y = some n := hn
          by_cases q : y = c.1
          · rw [q, put1_same] at hn2
            cases hn2
            omega
          · rw [put1_ne q] at hn2
            obtain ⟨yc, yk⟩ := cw.of c.1 ck c.2 co l cl y hy
            have yr : y ∈ S.row := (b.some_ y yk).mp (by rw [hn2]; rfl)
            obtain ⟨i, hi⟩ := List.mem_iff_getElem?.mp yr
            have fy : fv S y = n := by unfold fv; rw [hn2]; rfl
            by_cases q2 : i < a
            · exact absurd (b.pr i y q2 hi c yc) hop.2
            · by_cases q3 : i = a
              · subst q3
                rw [hx] at hi
                cases hi
                omega
              · have hil : i < S.row.length := (List.getElem?_eq_some_iff.mp hi).1
                have := (List.pairwise_iff_getElem.mp b.sort) a i al hil (by omega)
                have e1 : S.row[a] = x := by have := List.getElem?_eq_getElem al; rw [this] at hx; exact Option.some.inj hx
                have e2 : S.row[i] = y := by have := List.getElem?_eq_getElem hil; rw [this] at hi; exact Option.some.inj hi
                rw [e1, e2] at this
                omega
      · intro c' hc'
        rcases List.mem_append.mp hc' with z | z
        · obtain ⟨l2, x2, e2, m2, r2, f2⟩ := b.dn c' z
          refine ⟨l2, x2, e2, m2, List.mem_append_left _ r2, fun y hy => ?_⟩
          rw [hx'] at hy
          cases hy
          rw [fo x2 (ne_of x2 r2), fo x (ne_of x xr)]
          exact f2 x hx
        · rw [List.mem_singleton.mp z]
          exact dnc S' hx' (List.mem_append_left _ xr)
      · intro i y hi hy c' hc'
        refine List.mem_append_left _ (b.pr i y hi ?_ c' hc')
        have hy2 : (S.row ++ [c.1])[i]? = some y := hy
        rw [List.getElem?_append_left (by omega)] at hy2
        exact hy2
    · rw [if_neg h2]
      have lf := left_erase b ck _ rfl
      refine ⟨b.nd, b.sub, b.some_, lf, fun t ht => ?_, fun t ht => ?_, b.sort, b.bnd, b.snd, b.lst, fun c' hc' => ?_, fun i y hi hy c' hc' => List.mem_append_left _ (b.pr i y hi hy c' hc')⟩
      · show (put1 S.L c.1 _ t).Nodup
        by_cases q : t = c.1
        · rw [q, put1_same]; exact (b.ld _ ck).erase _
        · rw [put1_ne q]; exact b.ld t ht
      · show t ∈ S.row ↔ put1 S.L c.1 _ t = []
        by_cases q : t = c.1
        · subst q
          rw [put1_same, b.emp _ ht]
          constructor
          · intro z
            rw [z] at h1
            cases h1
          · intro z
            exact absurd z h2
        · rw [put1_ne q]; exact b.emp t ht
      · rcases List.mem_append.mp hc' with z | z
        · exact b.dn c' z
        · rw [List.mem_singleton.mp z]
          exact dnc S hx xr
  · rw [if_neg h1]
    refine ⟨b.nd, b.sub, b.some_, fun t ht o => ?_, b.ld, b.emp, b.sort, b.bnd, b.snd, b.lst, fun c' hc' => ?_, fun i y hi hy c' hc' => List.mem_append_left _ (b.pr i y hi hy c' hc')⟩
    · rw [List.mem_append, List.mem_singleton]
      constructor
      · intro z
        obtain ⟨p1, p2⟩ := (b.left t ht o).mp z
        exact ⟨p1, fun q => q.elim p2 fun q => h1 (by rw [← q]; exact z)⟩
      · rintro ⟨p1, p2⟩
        exact (b.left t ht o).mpr ⟨p1, fun q => p2 (.inl q)⟩
    · rcases List.mem_append.mp hc' with z | z
      · exact b.dn c' z
      · rw [List.mem_singleton.mp z]
        exact dnc S hx xr
theorem BI.next {h : HoldM} {ks : List SM} {cm : SM → List (SM × Nat)} {S : BS} {a : Nat} {D : List (SM × Nat)} (b : BI h ks cm S a D) {x : SM} (hx : S.row[a]? = some x) (hc : ∀ c ∈ cm x, c ∈ D) : BI h ks cm S (a + 1) D := by
  have al : a < S.row.length := (List.getElem?_eq_some_iff.mp hx).1
  have le : ∀ y, S.row[a + 1]? = some y → fv S x ≤ fv S y := fun y hy => by
    have hil : a + 1 < S.row.length := (List.getElem?_eq_some_iff.mp hy).1
    have := (List.pairwise_iff_getElem.mp b.sort) a (a + 1) al hil (by omega)
    have e1 : S.row[a] = x := by have := List.getElem?_eq_getElem al; rw [this] at hx; exact Option.some.inj hx
    have e2 : S.row[a + 1] = y := by have := List.getElem?_eq_getElem hil; rw [this] at hy; exact Option.some.inj hy
    rw [e1, e2] at this
    exact this
  refine ⟨b.nd, b.sub, b.some_, b.left, b.ld, b.emp, b.sort, fun y hy t ht => ?_, b.snd, b.lst, fun c hc' => ?_, fun i y hi hy => ?_⟩
  · have := b.bnd x hx t ht
    have := le y hy
    omega
  · obtain ⟨l2, x2, e2, m2, r2, f2⟩ := b.dn c hc'
    exact ⟨l2, x2, e2, m2, r2, fun y hy => Nat.le_trans (f2 x hx) (le y hy)⟩
  · by_cases q : i < a
    · exact b.pr i y q hy
    · obtain rfl : i = a := by omega
      rw [hx] at hy
      cases hy
      exact hc
theorem BI.sound {h : HoldM} {ks : List SM} {cm : SM → List (SM × Nat)} {S : BS} {a : Nat} {D : List (SM × Nat)} (b : BI h ks cm S a D) {s : SM} (hs : s ∈ ks) {n : Nat} (e : S.F s = some n) : ill h n s := by
  have := b.snd s ((b.some_ s hs).mp (by rw [e]; rfl))
  unfold fv at this
  rw [e] at this
  exact this
theorem BI.whole {h : HoldM} {ks : List SM} {cm : SM → List (SM × Nat)} (cw : CW h ks cm) {S : BS} {a : Nat} {D : List (SM × Nat)} (b : BI h ks cm S a D) (ha : S.row.length ≤ a) : ∀ (m : Nat) (s : SM), s ∈ ks → ill h m s → ∃ n, n ≤ m ∧ S.F s = some n := by
  intro m
  induction m with
  | zero =>
    intro s hs q
    have e : ordersQ h s = [] := q
    have hl : S.L s = [] := by
      refine List.eq_nil_iff_forall_not_mem.mpr fun o ho => ?_
      have := ((b.left s hs o).mp ho).1
      unfold openQ at this
      rw [e] at this
      cases this
    have hr := (b.emp s hs).mpr hl
    obtain ⟨n, hn⟩ := Option.isSome_iff_exists.mp ((b.some_ s hs).mpr hr)
    refine ⟨n, ?_, hn⟩
    have f0 : fv S s = n := by unfold fv; rw [hn]; rfl
    by_cases z : 0 < n
    · exact absurd e (b.lst s hr (by omega)).1
    · omega
  | succ m ih =>
    intro s hs q
    have hl : S.L s = [] := by
      refine List.eq_nil_iff_forall_not_mem.mpr fun o ho => ?_
      obtain ⟨p1, p2⟩ := (b.left s hs o).mp ho
      obtain ⟨ho1, ho2⟩ := List.mem_filter.mp p1
      obtain ⟨l, hl⟩ := Option.isSome_iff_exists.mp ho2
      obtain ⟨x, hx, ix⟩ := q o ho1 l hl
      obtain ⟨xc, xk⟩ := cw.of s hs o ho1 l hl x hx
      obtain ⟨n, _, hn⟩ := ih x xk ix
      have xr := (b.some_ x xk).mp (by rw [hn]; rfl)
      obtain ⟨i, hi⟩ := List.mem_iff_getElem?.mp xr
      have := (List.getElem?_eq_some_iff.mp hi).1
      exact p2 (b.pr i x (by omega) hi _ xc)
    have hr := (b.emp s hs).mpr hl
    obtain ⟨n, hn⟩ := Option.isSome_iff_exists.mp ((b.some_ s hs).mpr hr)
    refine ⟨n, ?_, hn⟩
    have f0 : fv S s = n := by unfold fv; rw [hn]; rfl
    by_cases z : n ≤ m + 1
    · exact z
    · obtain ⟨_, g⟩ := b.lst s hr (by omega)
      rcases g with g | ⟨o, ho, l, hl', g⟩
      · omega
      · obtain ⟨x, hx, ix⟩ := q o ho l hl'
        obtain ⟨_, xk⟩ := cw.of s hs o ho l hl' x hx
        obtain ⟨n', hn', e'⟩ := ih x xk ix
        have := g x hx n' e'
        omega
/-- where the search begins -/
def row0 (h : HoldM) (ks : List SM) : List SM := ks.filter fun s => (ordersQ h s).isEmpty
def row1 (h : HoldM) (ks : List SM) : List SM := row0 h ks ++ ks.filter fun s => (openQ h s).isEmpty && !(ordersQ h s).isEmpty
def F1 (h : HoldM) (ks : List SM) (s : SM) : Option Nat := if s ∈ row1 h ks then some (if (ordersQ h s).isEmpty then 0 else 1) else none
theorem open_nil {h : HoldM} {s : SM} (e : (ordersQ h s).isEmpty = true) : openQ h s = [] := by
  unfold openQ
  rw [List.isEmpty_iff.mp e]
  rfl
theorem mem_row1 {h : HoldM} {ks : List SM} {s : SM} : s ∈ row1 h ks ↔ s ∈ ks ∧ openQ h s = [] := by
  unfold row1 row0
  rw [List.mem_append, List.mem_filter, List.mem_filter, Bool.and_eq_true, List.isEmpty_iff (l := openQ h s)]
  constructor
  · rintro (⟨a, b⟩ | ⟨a, b, c⟩)
    · exact ⟨a, open_nil b⟩
    · exact ⟨a, b⟩
  · rintro ⟨a, b⟩
    cases q : (ordersQ h s).isEmpty with
    | true => exact .inl ⟨a, rfl⟩
    | false => exact .inr ⟨a, b, rfl⟩
theorem BI.begin {h : HoldM} {ks : List SM} {cm : SM → List (SM × Nat)} (nd : ks.Nodup) (on : ∀ s ∈ ks, (ordersQ h s).Nodup) : BI h ks cm ⟨F1 h ks, openQ h, row1 h ks⟩ 0 [] := by
  have ff : ∀ s ∈ row1 h ks, fv ⟨F1 h ks, openQ h, row1 h ks⟩ s = if (ordersQ h s).isEmpty then 0 else 1 := fun s hs => by
    show (F1 h ks s).getD 0 = _
    unfold F1
    rw [if_pos hs]
    rfl
  refine ⟨?_, fun t ht => (mem_row1.mp ht).1, fun t ht => ?_, fun t ht o => ?_, fun t ht => ?_, fun t ht => ?_, ?_, fun x hx t ht => ?_, fun t ht => ?_, fun t ht h0 => ?_, (fun c hc => by cases hc), fun i x hi => by omega⟩
  · unfold row1 row0
    refine List.nodup_append.mpr ⟨nd.sublist List.filter_sublist, nd.sublist List.filter_sublist, fun x hx y hy e => ?_⟩
    subst e
    have a := (List.mem_filter.mp hx).2
    have b := (List.mem_filter.mp hy).2
    rw [a] at b
    simp at b
  · show (F1 h ks t).isSome = true ↔ t ∈ row1 h ks
    unfold F1
    split <;> rename_i q <;> simp [q]
  · simp
  · exact (on t ht).sublist List.filter_sublist
  · show t ∈ row1 h ks ↔ openQ h t = []
    rw [mem_row1]
    simp [ht]
  · show (row1 h ks).Pairwise _
    refine List.pairwise_iff_forall_sublist.mpr fun {p q} hs => ?_
    rw [ff p (hs.subset (by simp)), ff q (hs.subset (by simp))]
    have h3 : (row1 h ks).Pairwise fun a b => (ordersQ h b).isEmpty = true → (ordersQ h a).isEmpty = true := by
      unfold row1
      rw [List.pairwise_append]
      refine ⟨List.pairwise_of_forall_mem_list fun a ha b _ _ => (List.mem_filter.mp ha).2, ?_, fun a ha b _ _ => (List.mem_filter.mp ha).2⟩
      refine List.pairwise_of_forall_mem_list fun a ha b hb e => ?_
      have := (List.mem_filter.mp hb).2
      rw [e] at this
      simp at this
    have := List.pairwise_iff_forall_sublist.mp h3 hs
    cases q1 : (ordersQ h q).isEmpty with
    | true => rw [this q1]; simp
    | false => split <;> simp
  · have hxr : x ∈ row1 h ks := List.mem_of_getElem? hx
    rw [ff t ht, ff x hxr]
    split <;> split <;> omega
  · rw [ff t ht]
    split
    · rename_i q
      exact List.isEmpty_iff.mp q
    · intro o ho l hl
      have : o ∈ openQ h t := List.mem_filter.mpr ⟨ho, by rw [hl]; rfl⟩
      rw [(mem_row1.mp ht).2] at this
      cases this
  · rw [ff t ht] at h0 ⊢
    split at h0
    · omega
    · rename_i q
      rw [if_neg q]
      exact ⟨fun e => q (by rw [e]; rfl), .inl rfl⟩
end SK
/-! Plain Lean: more never hurts. -/
namespace SK
structure HLe (a b : HoldM) : Prop where
  mm : a.marks = b.marks
  fl : a.flows = b.flows
  sk : a.skies = b.skies
  st : a.stoves = b.stoves
  mo : a.most ≤ b.most
  cp : a.cap ≤ b.cap
  ld : a.load ≤ b.load
structure SLe (a b : SM) : Prop where
  bd : a.bands = b.bands
  bu : a.burn = b.burn
  wt : a.waits = b.waits
  fl : a.failed = b.failed
  hp : a.heap ≤ b.heap
theorem orders_le {a b : HoldM} (g : HLe a b) {s t : SM} (k : SLe s t) : ∀ o ∈ ordersQ a s, o ∈ ordersQ b t := fun o ho => by
  obtain ⟨n1, c1, l1, m1, f1, k1, t1⟩ := a
  obtain ⟨n2, c2, l2, m2, f2, k2, t2⟩ := b
  obtain ⟨rfl, rfl, rfl, rfl, g1, g2, g3⟩ := g
  obtain ⟨b1, u1, w1, x1, h1⟩ := s
  obtain ⟨b2, u2, w2, x2, h2⟩ := t
  obtain ⟨rfl, rfl, rfl, rfl, kh⟩ := k
  obtain ⟨p1, p2⟩ := List.mem_filter.mp ho
  refine List.mem_filter.mpr ⟨p1, ?_⟩
  rw [Bool.and_eq_true, decide_eq_true_eq, decide_eq_true_eq] at p2 ⊢
  exact ⟨Nat.le_trans p2.1 g1, Nat.le_trans p2.2 kh⟩
theorem bandsBy_le {a b : HoldM} (g : HLe a b) (bands : List Nat) (f : Nat) : bandsByQ a bands f = bandsByQ b bands f := by
  obtain ⟨n1, c1, l1, m1, f1, k1, t1⟩ := a
  obtain ⟨n2, c2, l2, m2, f2, k2, t2⟩ := b
  obtain ⟨rfl, rfl, rfl, rfl, g1, g2, g3⟩ := g
  rfl
theorem may_le {a b : HoldM} (g : HLe a b) {s t : SM} (k : SLe s t) (o : Nat) : mayQ a s o = mayQ b t o := by
  obtain ⟨n1, c1, l1, m1, f1, k1, t1⟩ := a
  obtain ⟨n2, c2, l2, m2, f2, k2, t2⟩ := b
  obtain ⟨rfl, rfl, rfl, rfl, g1, g2, g3⟩ := g
  obtain ⟨b1, u1, w1, x1, h1⟩ := s
  obtain ⟨b2, u2, w2, x2, h2⟩ := t
  obtain ⟨rfl, rfl, rfl, rfl, kh⟩ := k
  rfl
theorem behind_le {a b : HoldM} (g : HLe a b) {s t : SM} (k : SLe s t) (o u : Nat) (bands : List Nat) : SLe (behindQ a s o u bands) (behindQ b t o u bands) := by
  obtain ⟨n1, c1, l1, m1, f1, k1, t1⟩ := a
  obtain ⟨n2, c2, l2, m2, f2, k2, t2⟩ := b
  obtain ⟨rfl, rfl, rfl, rfl, g1, g2, g3⟩ := g
  obtain ⟨b1, u1, w1, x1, h1⟩ := s
  obtain ⟨b2, u2, w2, x2, h2⟩ := t
  obtain ⟨rfl, rfl, rfl, rfl, kh⟩ := k
  refine ⟨rfl, rfl, rfl, rfl, ?_⟩
  have g2' : c1 ≤ c2 := g2
  have g3' : l1 ≤ l2 := g3
  have kh' : h1 ≤ h2 := kh
  exact Nat.le_min.mpr ⟨Nat.le_trans (Nat.min_le_left ..) g2', Nat.le_trans (Nat.min_le_right ..) (Nat.add_le_add (Nat.sub_le_sub_right kh' _) g3')⟩
def All2 (l m : List SM) : Prop := ∀ y ∈ m, ∃ x ∈ l, SLe x y
theorem led_fold {a b : HoldM} (g : HLe a b) {s t : SM} (k : SLe s t) (o : Nat) : ∀ (us : List Nat) (x y : Option (List SM)), (match x, y with | none, none => True | some l, some m => All2 l m | _, _ => False) →
    match us.foldl (ledStep a s o) x, us.foldl (ledStep b t o) y with | none, none => True | some l, some m => All2 l m | _, _ => False
  | [], x, y, q => q
  | u :: us, x, y, q => by
    refine led_fold g k o us _ _ ?_
    cases x with
    | none =>
      cases y with
      | none => exact True.intro
      | some m => exact q.elim
    | some l =>
      cases y with
      | none => exact q.elim
      | some m =>
        have e : bandsByQ a s.bands (firesQ o u) = bandsByQ b t.bands (firesQ o u) := by rw [k.bd, bandsBy_le g]
        show match (match bandsByQ a s.bands (firesQ o u) with
          | none => none
          | some sp => some (l ++ sp.map (behindQ a s o u))), (match bandsByQ b t.bands (firesQ o u) with
          | none => none
          | some sp => some (m ++ sp.map (behindQ b t o u))) with | none, none => True | some l, some m => All2 l m | _, _ => False
        rw [e]
        cases bandsByQ b t.bands (firesQ o u) with
        | none => exact True.intro
        | some sp =>
          intro y hy
          have q2 : All2 l m := q
          rcases List.mem_append.mp hy with z | z
          · obtain ⟨x, hx, r⟩ := q2 y z
            exact ⟨x, List.mem_append_left _ hx, r⟩
          · obtain ⟨bd, hb, rfl⟩ := List.mem_map.mp z
            exact ⟨_, List.mem_append_right _ (List.mem_map.mpr ⟨bd, hb, rfl⟩), behind_le g k o u bd⟩
theorem led_le_ {a b : HoldM} (g : HLe a b) {s t : SM} (k : SLe s t) (o : Nat) {l : List SM} (e : ledQ a s o = some l) : ∃ m, ledQ b t o = some m ∧ All2 l m := by
  have := led_fold g k o (subsets (mayQ a s o)) (some []) (some []) (fun y hy => by cases hy)
  have e1 : (subsets (mayQ a s o)).foldl (ledStep a s o) (some []) = some l := e
  have e2 : (subsets (mayQ a s o)).foldl (ledStep b t o) (some []) = ledQ b t o := by rw [may_le g k]; rfl
  rw [e1, e2] at this
  cases q : ledQ b t o with
  | none => rw [q] at this; exact this.elim
  | some m => rw [q] at this; exact ⟨m, rfl, this⟩
theorem ill_mono {a b : HoldM} (g : HLe a b) : ∀ {n : Nat} {s t : SM}, SLe s t → ill b n t → ill a n s
  | 0, s, t, k, q => by
    have e : ordersQ b t = [] := q
    refine List.eq_nil_iff_forall_not_mem.mpr fun o ho => ?_
    have := orders_le g k o ho
    rw [e] at this
    cases this
  | n + 1, s, t, k, q => fun o ho l hl => by
    obtain ⟨m, e, al⟩ := led_le_ g k o hl
    obtain ⟨y, hy, iy⟩ := q o (orders_le g k o ho) m e
    obtain ⟨x, hx, r⟩ := al y hy
    exact ⟨x, hx, ill_mono g r iy⟩
/-- what the ranks of a hold's states say -/
structure RankOk (h : HoldM) (s : SM) (r : Option Nat) : Prop where
  snd : ∀ n, r = some n → ill h n s
  all : ∀ m, ill h m s → ∃ n, n ≤ m ∧ r = some n
theorem no_less {a b : HoldM} (g : HLe a b) {s t : SM} (k : SLe s t) {r q : Option Nat} (hr : RankOk a s r) (hq : RankOk b t q) : q = none ∨ ∃ n m, r = some n ∧ q = some m ∧ n ≤ m := by
  cases e : q with
  | none => exact .inl rfl
  | some m =>
    obtain ⟨n, hn, e2⟩ := hr.all m (ill_mono g k (hq.snd m e))
    exact .inr ⟨n, m, e2, rfl, hn⟩
end SK
set_option maxRecDepth 100000
set_option maxHeartbeats 4000000
namespace SK
open PySem L2 PyProof.Rows
def vIts (l : List Nat) : List V := l.map fun (n : Nat) => V.int (n : Int)
def pIts (l : List Nat) : List PyData := l.map fun (n : Nat) => PyData.int (n : Int)
theorem dp_ints {K : PySem.W.Frag} {H : Hp} : ∀ l : List Nat, DpAll K H (vIts l) (pIts l)
  | [] => .nil
  | a :: l => .cons (.int _) (dp_ints l)
theorem lay_ints : ∀ l : List Nat, PyData.canLayAll0 (pIts l) = true
  | [] => rfl
  | a :: l => by
    show (true && PyData.canLayAll0 (pIts l)) = true
    rw [lay_ints l]
    rfl
theorem depth_ints : ∀ l : List Nat, PyData.depthAll (pIts l) = 0
  | [] => rfl
  | a :: l => by
    show max 0 (PyData.depthAll (pIts l)) = 0
    rw [depth_ints l]
    rfl
theorem shaped_ints (l : List Nat) : SeqAt.shaped (.list (pIts l)) = true := by
  show (PyData.canLayAll0 (pIts l) && decide (PyData.depthAll (pIts l) + 1 ≤ 64)) = true
  rw [lay_ints, depth_ints]
  rfl
theorem eqv_ints (l : List Nat) : PyData.eqv (.list (pIts l)) (.list []) = l.isEmpty := by
  cases l <;> rfl
theorem inV_ints (o : Nat) : ∀ l : List Nat, inV (.int (o : Int)) (vIts l) = decide (o ∈ l)
  | [] => rfl
  | a :: l => by
    show (((a : Int) == (o : Int)) || inV (.int (o : Int)) (vIts l)) = _
    rw [inV_ints o l]
    have : ((a : Int) == (o : Int)) = decide (o = a) := by
      rw [Bool.eq_iff_iff, beq_iff_eq, decide_eq_true_eq]
      omega
    rw [this]
    simp [List.mem_cons]
theorem flat_ints (l : List Nat) : (vIts l).all flatV = true := by
  unfold vIts
  rw [List.all_map]
  exact List.all_eq_true.mpr fun _ _ => rfl
theorem erase_ints {l : List Nat} {o : Nat} (h : o ∈ l) : ∃ j, (l.map fun (n : Nat) => (n : Int))[j]? = some (o : Int) ∧ (∀ m, m < j → (l.map fun (n : Nat) => (n : Int))[m]? ≠ some (o : Int)) ∧ ((l.map fun (n : Nat) => (n : Int)).eraseIdx j).map V.int = vIts (l.erase o) := by
  induction l with
  | nil => cases h
  | cons a l ih =>
    by_cases q : a = o
    · subst q
      refine ⟨0, rfl, fun m hm => by omega, ?_⟩
      rw [List.erase_cons_head]
      show (l.map fun (n : Nat) => (n : Int)).map V.int = vIts l
      rw [List.map_map]
      rfl
    · have h2 : o ∈ l := by
        rcases List.mem_cons.mp h with z | z
        · exact absurd z.symm q
        · exact z
      obtain ⟨j, e1, e2, e3⟩ := ih h2
      refine ⟨j + 1, e1, fun m hm => ?_, ?_⟩
      · cases m with
        | zero =>
          show some ((a : Nat) : Int) ≠ some (o : Int)
          intro z
          have := Option.some.inj z
          omega
        | succ m => exact e2 m (by omega)
      · rw [List.erase_cons_tail (by simpa using q)]
        show V.int (a : Int) :: ((l.map fun (n : Nat) => (n : Int)).eraseIdx j).map V.int = _
        rw [e3]
        rfl
theorem of_nIs {K : PySem.W.Frag} {H : Hp} : ∀ {l : List Nat} {vs : List V}, Reps K H (l.map nI) vs → vs = vIts l
  | [], _, .nil => rfl
  | a :: l, _, .cons h r => by
    cases h
    rw [of_nIs r]
    rfl
section
variable {X : Cx} {ρ : Rho} {M : Fin} {e es eo b ix elt : Expr} {ifs : List Expr} {scope : Scope} {d : D} {h : HoldM} {pk : Addr} {dn : List Dn} {L L0 A C : List (Addr × HO)} {R R0 R' : Fact} {st body : List Stmt} {pos p px py apos cpos spos p2 p3 p' : Pos} {x y z : Str} {i j k : Nat}
/-- left[state], a reading of the list's address -/
theorem te_dq {pd q : Addr} {kvs : NKV} {s : SM} (hu : X.A.units + 64 < cLine) (hd : Has L pd (dN X.prog X.w pd kvs)) (hko : ∀ H, R.p H → KOk X.K H kvs) (hval : nVal kvs (kS_ s) = some (.ref q)) (hix : DE X (some (.mem (om pk L R)) :: ρ) ix (eS s)) (hi : (some (Bd.mem (om pk L R)) :: ρ)[i]? = some (some (.val (.adr pd)))) {A B : Hp} {σ : L2.St} {H H1 : Hp} {Q : VK} (t : At X.K A B (some (.mem (om pk L R)) :: ρ) σ H H1) (kk : ∀ G H2, Step H H1 G H2 → Q (.ref q) H2) : tNGet X (tVar i) (teOf X ix) σ H1 Q := by
  refine ⟨_, adr_at t hi, hix A B σ H H1 _ t fun v G H2 s1 r => ?_⟩
  obtain ⟨kb, rfl⟩ := eS_ref r
  obtain ⟨_, w, rp⟩ := om_at (i := 0) (t.step s1) rfl
  exact ⟨pd, kvs, eS s, _, rfl, ⟨G, s1.s2, hd.rd w, hko G rp, isKey_eS _, depth_eS _, r, kb, rfl⟩, hval, kk G H2 s1⟩
/-- left[state] == [] -/
theorem dt_leftE {pd q : Addr} {kvs : NKV} {s : SM} {l : List Nat} (hu : X.A.units + 64 < cLine) (hd : Has L pd (dN X.prog X.w pd kvs)) (hko : ∀ H, R.p H → KOk X.K H kvs) (hval : nVal kvs (kS_ s) = some (.ref q)) (hq : (q, .lst (vIts l)) ∈ L) (hix : DE X (some (.mem (om pk L R)) :: ρ) ix (eS s)) (hi : (some (Bd.mem (om pk L R)) :: ρ)[i]? = some (some (.val (.adr pd)))) (hN : X.N[i]? = some x) (hv : Vis X.env.scope x := by first | exact Or.inl rfl | exact Or.inr (Or.inl rfl) | exact Or.inr (Or.inr rfl)) (hdb : (x == ("__debug__" : Str)) = false := by decide) (hcd : (x == ("__classdict__" : Str)) = false := by decide)
    (hn1 : NoSl ix := by intro _ _; rfl) : DT X (some (.mem (om pk L R)) :: ρ) (.Compare (.Subscript (.Name x p) ix p2) [.Eq] [.List [] p3] pos) l.isEmpty := fun A B σ H H1 Q t kk => tt_run (pt_cmpR (op_eqD hu) (pe_nget hu (pe_var hN hv hdb hcd) pe_of hn1) pe_of (nobehind _ (by decide) (by decide))) (te_dq hu hd hko hval hix hi t fun G H2 s1 => by
  refine (do_lst da_nil) A B σ G H2 _ (t.step s1) fun q2 us G3 H3 s2 n g h2 r => ?_
  cases r
  obtain ⟨_, w, rp⟩ := om_at (i := 0) ((t.step s1).step s2) rfl
  refine ⟨.list (pIts l), .list [], .lst (SqL.of (w.2 _ hq).1) (dp_ints l), .lst (SqL.of h2) .nil, shaped_ints l, rfl, ?_⟩
  rw [eqv_ints]
  exact ⟨_, rfl, kk G3 H3 (s1.trans s2)⟩)
/-- order in left[state] -/
theorem dt_inL {pd q : Addr} {kvs : NKV} {s : SM} {l : List Nat} {o : Nat} (hu : X.A.units + 64 < cLine) (hd : Has L pd (dN X.prog X.w pd kvs)) (hko : ∀ H, R.p H → KOk X.K H kvs) (hval : nVal kvs (kS_ s) = some (.ref q)) (hq : (q, .lst (vIts l)) ∈ L) (hix : DE X (some (.mem (om pk L R)) :: ρ) ix (eS s)) (he : DE X (some (.mem (om pk L R)) :: ρ) e (nI o)) (hi : (some (Bd.mem (om pk L R)) :: ρ)[i]? = some (some (.val (.adr pd)))) (hN : X.N[i]? = some x) (hv : Vis X.env.scope x := by first | exact Or.inl rfl | exact Or.inr (Or.inl rfl) | exact Or.inr (Or.inr rfl)) (hdb : (x == ("__debug__" : Str)) = false := by decide) (hcd : (x == ("__classdict__" : Str)) = false := by decide)
    (hn1 : NoSl ix := by intro _ _; rfl) (hmk : behindInMarks .In (.Subscript (.Name x p) ix p2) = false := by rfl) : DT X (some (.mem (om pk L R)) :: ρ) (.Compare e [.In] [.Subscript (.Name x p) ix p2] pos) (decide (o ∈ l)) := fun A B σ H H1 Q t kk => tt_run (pt_cmpR op_in_seq pe_of (pe_nget hu (pe_var hN hv hdb hcd) pe_of hn1) hmk) (he A B σ H H1 _ t fun v G H2 s1 r => by
  cases r
  refine te_dq hu hd hko hval hix hi (t.step s1) fun G3 H3 s2 => ?_
  obtain ⟨_, w, rp⟩ := om_at (i := 0) ((t.step s1).step s2) rfl
  refine ⟨q, vIts l, rfl, .inl (SqL.of (w.2 _ hq).1), rfl, flat_ints l, ?_⟩
  rw [if_neg Bool.false_ne_true, inV_ints]
  exact ⟨_, rfl, kk G3 H3 (s1.trans s2)⟩)
/-- left[state].remove(order) -/
theorem ds_remove {pd q : Addr} {kvs : NKV} {s : SM} {l : List Nat} {o : Nat} (hu : X.A.units + 64 < cLine) (hk : L[k]? = some (q, .lst (vIts l))) (hd : Has L pd (dN X.prog X.w pd kvs)) (hko : ∀ H, R.p H → KOk X.K H kvs) (hval : nVal kvs (kS_ s) = some (.ref q)) (ho : o ∈ l) (hix : DE X (some (.mem (om pk L R)) :: ρ) ix (eS s)) (he : DE X (some (.mem (om pk L R)) :: ρ) e (nI o)) (hi : (some (Bd.mem (om pk L R)) :: ρ)[i]? = some (some (.val (.adr pd)))) (hN : X.N[i]? = some x)
    (rest : DS X (some (.mem (om pk (L.set k (q, .lst (vIts (l.erase o)))) R)) :: ρ) st M) (hm : noMem ρ = true := by rfl) (hv : Vis X.env.scope x := by first | exact Or.inl rfl | exact Or.inr (Or.inl rfl) | exact Or.inr (Or.inr rfl)) (hdb : (x == ("__debug__" : Str)) = false := by decide) (hcd : (x == ("__classdict__" : Str)) = false := by decide)
    (hn1 : NoSl ix := by intro _ _; rfl)
    (hpe : PE X (.Call (.Attribute (.Subscript (.Name x p) ix spos) "remove" apos) [e] [] cpos) (tBM X.K "list" rRemI (tNGet X (tVar i) (teOf X ix)) (tCons (teOf X e) tNil)) := by exact pe_bm PySem.F.plainAttrs_list PySem.F.slot_list_remove PySem.F.type_list_remove mt_remove (pe_nget (by assumption) (pv _) pe_of (by intro _ _; rfl)) (pa_cons pe_of pa_nil))
    (hs : swapsWith (.Call (.Attribute (.Subscript (.Name x p) ix spos) "remove" apos) [e] [] cpos) none pos.line X.env = pure false := by rfl) : DS X (some (.mem (om pk L R)) :: ρ) (.Expr (.Call (.Attribute (.Subscript (.Name x p) ix spos) "remove" apos) [e] [] cpos) pos :: st) M :=
  fun A B σ H H1 E t f => ts_cons (ps_expr hpe hs) (te_dq hu hd hko hval hix hi t fun G H2 s1 => by
    have t2 := t.step s1
    obtain ⟨ea, w, rp⟩ := om_at (i := 0) t2 rfl
    refine ⟨.inl ⟨rfl, _, SqL.of (w.at_ hk).1⟩, he A B σ G H2 _ t2 fun v G2 H3 s2 r2 => ?_⟩
    cases r2
    have t3 := t2.step s2
    obtain ⟨ea3, w3, rp3⟩ := om_at (i := 0) t3 rfl
    obtain ⟨k1, k2, k3⟩ := w3.at_ hk
    obtain ⟨j, e1, e2, e3⟩ := erase_ints ho
    have el : vIts l = (l.map fun (n : Nat) => (n : Int)).map V.int := by rw [List.map_map]; rfl
    refine ⟨q, l.map fun (n : Nat) => (n : Int), o, j, rfl, rfl, by rw [← el]; exact k1, e1, e2, ?_⟩
    rw [e3]
    exact rest A B σ G2 _ E (t3.swap hm (t3.jel rfl) (t3.toLt.put k2 k3) (Same.refl _) (.mem (om pk _ _)) rfl ⟨pk, ea3, rfl, w3.put hk, rp3⟩) (f.mono (s1.s1.trans s2.s1)))
/-- row.append(e), row among the owned lists -/
theorem ds_appR {pr : Addr} {vs : List V} (hk : L[k]? = some (pr, .lst vs)) (hl : vs.length < sizeLine) (he : DE X (some (.mem (om pk L R)) :: ρ) e d) (hi : (some (Bd.mem (om pk L R)) :: ρ)[i]? = some (some (.val (.adr pr)))) (hN : X.N[i]? = some x)
    (rest : ∀ (v : V) (R' : Fact), (∀ H, R'.p H ↔ (R.p H ∧ Rep X.K H d v)) → DS X (some (.mem (om pk (L.set k (pr, .lst (vs ++ [v]))) R')) :: ρ) st M) (hm : noMem ρ = true := by rfl) (hv : Vis X.env.scope x := by first | exact Or.inl rfl | exact Or.inr (Or.inl rfl) | exact Or.inr (Or.inr rfl)) (hdb : (x == ("__debug__" : Str)) = false := by decide) (hcd : (x == ("__classdict__" : Str)) = false := by decide)
    (hpe : PE X (.Call (.Attribute (.Name x p) "append" apos) [e] [] cpos) (tBM X.K "list" rAppend (tVar i) (tCons (teOf X e) tNil)) := by exact pe_bm PySem.F.plainAttrs_list PySem.F.slot_list_append PySem.F.type_list_append mt_append (pv _) (pa_cons pe_of pa_nil))
    (hs : swapsWith (.Call (.Attribute (.Name x p) "append" apos) [e] [] cpos) none pos.line X.env = pure false := by rfl) : DS X (some (.mem (om pk L R)) :: ρ) (.Expr (.Call (.Attribute (.Name x p) "append" apos) [e] [] cpos) pos :: st) M :=
  fun A B σ H H1 E t f => ts_cons (ps_expr hpe hs) (by
    obtain ⟨_, w, _⟩ := om_at (i := 0) t rfl
    refine ⟨_, adr_at t hi, .inl ⟨rfl, vs, SqL.of (w.at_ hk).1⟩, he A B σ H H1 _ t fun v G2 H3 s2 r2 => ?_⟩
    have t3 := t.step s2
    obtain ⟨ea3, w3, rp3⟩ := om_at (i := 0) t3 rfl
    obtain ⟨k1, k2, k3⟩ := w3.at_ hk
    refine ⟨pr, vs, v, rfl, rfl, k1, hl, ?_⟩
    exact rest v ⟨fun H => R.p H ∧ Rep X.K H d v, fun e ⟨a, b⟩ => ⟨R.m e a, b.mono e⟩⟩ (fun H => Iff.rfl) A B σ G2 _ E (t3.swap hm (t3.jel rfl) (t3.toLt.put k2 k3) (Same.refl _) (.mem (om pk _ _)) rfl ⟨pk, ea3, rfl, w3.put hk, rp3, r2⟩) (f.mono s2.s1))
/-- len(row), row[at] -/
theorem de_lenP {pr : Addr} {vs : List V} (hm : X.mg "len" = none) (hk : (pr, .lst vs) ∈ L) (hi : (some (Bd.mem (om pk L R)) :: ρ)[i]? = some (some (.val (.adr pr)))) (hN : X.N[i]? = some x) (hv : Vis X.env.scope x := by first | exact Or.inl rfl | exact Or.inr (Or.inl rfl) | exact Or.inr (Or.inr rfl)) (hg : Gl X "len" := by rfl)
    (hs : starEach [.Name x p'] X.env = (false, eval (.Name x p') X.env) :: starEach [] X.env := by rfl) (hd : (x == ("__debug__" : Str)) = false := by decide) (hcd : (x == ("__classdict__" : Str)) = false := by decide) (hpl : (backTo pos (starEach [] X.env)).any (·.1) = false := by rfl) :
    DE X (some (.mem (om pk L R)) :: ρ) (.Call (.Name "len" p) [.Name x p'] [] pos) (nI vs.length) := fun A B σ H H1 Q t k =>
  te_run (pe_callB call_lenA hg hm PySem.boot_len (pa_cons (pe_var hN hv hd hcd) pa_nil hs) (he := hs) (hpl := hpl)) (by
    obtain ⟨_, w, _⟩ := om_at (i := 0) t rfl
    exact ⟨_, adr_at t hi, pr, vs, rfl, .inl (SqL.of (w.2 _ hk).1), k _ H H1 (Step.refl t.up) .int⟩)
theorem de_rowP {pr : Addr} {vs : List V} {row : List SM} {n : Nat} {s : SM} (hk : (pr, .lst vs) ∈ L) (hR : ∀ H, R.p H → Reps X.K H (row.map eS) vs) (hs : row[n]? = some s) (hb : DE X (some (.mem (om pk L R)) :: ρ) b (nI n)) (hi : (some (Bd.mem (om pk L R)) :: ρ)[i]? = some (some (.val (.adr pr)))) (hN : X.N[i]? = some x) (hv : Vis X.env.scope x := by first | exact Or.inl rfl | exact Or.inr (Or.inl rfl) | exact Or.inr (Or.inr rfl)) (hd : (x == ("__debug__" : Str)) = false := by decide) (hcd : (x == ("__classdict__" : Str)) = false := by decide)
    (hpi : PlainIx b := by intro _ _; rfl) : DE X (some (.mem (om pk L R)) :: ρ) (.Subscript (.Name x p) b pos) (eS s) := fun A B σ H H1 Q t k => te_run (pe_ix ix_list (pe_var hN hv hd hcd) pe_of hpi) (by
  refine ⟨_, adr_at t hi, hb A B σ H H1 _ t fun v G H2 st r => ?_⟩
  cases r
  obtain ⟨_, w, rp⟩ := om_at (i := 0) (t.step st) rfl
  obtain ⟨u, hu, ru⟩ := (hR G rp).get (i := n) (d := eS s) (by rw [List.getElem?_map, hs]; rfl)
  exact ⟨pr, vs, n, u, rfl, rfl, SqL.of (w.2 _ hk).1, atI_nat hu, k u G H2 st ru⟩)
/-- a value of a dict that is seen: d[state] -/
theorem de_dv {pd : Addr} {kvs : NKV} {s : SM} {v : V} (hu : X.A.units + 64 < cLine) (hd : Has L pd (dN X.prog X.w pd kvs)) (hko : ∀ H, R.p H → KOk X.K H kvs) (hval : nVal kvs (kS_ s) = some v) (hrep : ∀ H, R.p H → Rep X.K H d v) (hix : DE X (some (.mem (om pk L R)) :: ρ) ix (eS s)) (hi : (some (Bd.mem (om pk L R)) :: ρ)[i]? = some (some (.val (.adr pd)))) (hN : X.N[i]? = some x) (hv : Vis X.env.scope x := by first | exact Or.inl rfl | exact Or.inr (Or.inl rfl) | exact Or.inr (Or.inr rfl)) (hdb : (x == ("__debug__" : Str)) = false := by decide) (hcd : (x == ("__classdict__" : Str)) = false := by decide)
    (hn1 : NoSl ix := by intro _ _; rfl) : DE X (some (.mem (om pk L R)) :: ρ) (.Subscript (.Name x p) ix pos) d := fun A B σ H H1 Q t k => te_run (pe_nget hu (pe_var hN hv hdb hcd) pe_of hn1) (by
  refine ⟨_, adr_at t hi, hix A B σ H H1 _ t fun u G H2 s1 r => ?_⟩
  obtain ⟨kb, rfl⟩ := eS_ref r
  obtain ⟨_, w, rp⟩ := om_at (i := 0) (t.step s1) rfl
  exact ⟨pd, kvs, eS s, v, rfl, ⟨G, s1.s2, hd.rd w, hko G rp, isKey_eS _, depth_eS _, r, kb, rfl⟩, hval, k v G H2 s1 (hrep G rp)⟩)
/-- for y in row, row not written -/
theorem ds_forP (j : Nat) {pr : Addr} {vs : List V} {row : List SM} (nd : X.N.Nodup) (Inv : Nat → List (Addr × HO) → Fact → Rho → Prop) (hin : ∀ i L R ρ1, Inv i L R ρ1 → (pr, .lst vs) ∈ L ∧ ∀ H, R.p H → Reps X.K H (row.map eS) vs) (h0 : Inv 0 L R ρ)
    (hs : ∀ i s L R ρ1, row[i]? = some s → Inv i L R ρ1 → DS X (some (.mem (om pk L R)) :: ρ1.set j (some (.val (eS s)))) body ⟨fun ρ2 => ∃ L' R' ρ1', ρ2 = some (.mem (om pk L' R')) :: ρ1' ∧ Inv (i + 1) L' R' ρ1', M.rt, fun _ => False⟩)
    (hd : ∀ L R ρ1, Inv row.length L R ρ1 → DS X (some (.mem (om pk L R)) :: ρ1) st M) (hi : (some (Bd.mem (om pk L R)) :: ρ)[i]? = some (some (.val (.adr pr)))) (hN : X.N[i]? = some x) (hp : PassesOwn (model X.prog X.w) X.A X.env X.xe := by exact PassesOwn.never) (hc : X.calm = true := by rfl) (hj : X.N[j + 1]? = some y := by rfl) (hx : Loc X.env.scope y := by first | exact Or.inl rfl | exact Or.inr rfl)
    (hf : X.fn y = true ∨ X.env.scope.names.lookup y = some .local := by first | exact .inl rfl | exact .inr rfl) (hs2 : ∀ z, foldedSetIterable (.Name x px) X.env z = pure z := by intro _; rfl) (hv : Vis X.env.scope x := by first | exact Or.inl rfl | exact Or.inr (Or.inl rfl) | exact Or.inr (Or.inr rfl)) (hdb : (x == ("__debug__" : Str)) = false := by decide) (hcd : (x == ("__classdict__" : Str)) = false := by decide) :
    DS X (some (.mem (om pk L R)) :: ρ) (.For (.Name y p) (.Name x px) body [] pos :: st) M := fun A B σ H H1 E t f =>
  ts_cons (ps_for hp hc (pi_list (pe_var hN hv hdb hcd)) (pg_name nd hj hx hf) pss_of hs2) (by
    obtain ⟨ea, w, r⟩ := om_at (i := 0) t rfl
    obtain ⟨i1, i2⟩ := hin 0 L R ρ h0
    have hl : vs.length = row.length := by rw [← (i2 H r).length, List.length_map]
    refine ⟨_, adr_at t hi, pr, rfl, ⟨vs, SqL.of (w.2 _ i1).1⟩, for_list (xs := vs) (fun i σ' H' => ∃ L' R' ρ1 G', Inv i L' R' ρ1 ∧ At X.K A B (some (.mem (om pk L' R')) :: ρ1) σ' G' H' ∧ Same H G') ⟨L, R, ρ, H, h0, t, Same.refl _⟩ ?_ ?_ ?_⟩
    · rintro i σ' H' _ ⟨L', R', ρ1, G', iv, t', sm⟩
      obtain ⟨_, w', _⟩ := om_at (i := 0) t' rfl
      exact SqL.of (w'.2 _ (hin i L' R' ρ1 iv).1).1
    · rintro i v σ' H' hi ⟨L', R', ρ1, G', iv, t', sm⟩
      obtain ⟨_, w', rp⟩ := om_at (i := 0) t' rfl
      obtain ⟨d0, hd', rd⟩ := ((hin i L' R' ρ1 iv).2 G' rp).back hi
      rw [List.getElem?_map] at hd'
      obtain ⟨s, hs', rfl⟩ := Option.map_eq_some_iff.mp hd'
      refine hs i s L' R' ρ1 hs' iv A B _ G' _ _ (t'.set (j + 1) rd) ⟨fun ρ2 σ2 G2 H3 ⟨L2, R2, ρ3, e3, a3⟩ b c => ?_, fun d v ρ2 σ2 G2 H3 _ m => m.elim⟩
      subst e3
      exact ⟨L2, R2, ρ3, G2, a3, b, sm.trans c⟩
    · rintro σ' H' ⟨L', R', ρ1, G', iv, t', sm⟩
      rw [hl] at iv
      exact hd L' R' ρ1 iv A B σ' G' _ E t' (f.mono sm))
/-- for (y, z) in a list of pairs -/
theorem ds_forPair (j k : Nat) (nd : X.N.Nodup) (l : List (SM × Nat)) (he : DE X ρ e (.lst (l.map ePair))) (Inv : Nat → Rho → Prop) (h0 : Inv 0 ρ) (hs : ∀ i c ρ', l[i]? = some c → Inv i ρ' → DS X ((ρ'.set j (some (.val (eS c.1)))).set k (some (.val (nI c.2)))) body ⟨Inv (i + 1), M.rt, M.at_⟩) (hd : ∀ ρ', Inv l.length ρ' → DS X ρ' st M)
    (hp : PassesOwn (model X.prog X.w) X.A X.env X.xe := by exact PassesOwn.never) (hc : X.calm = true := by rfl) {kt : Nat} {tp py pz : Pos} (hj : X.N[j]? = some y := by rfl) (hk : X.N[k]? = some z := by rfl) (hx : Loc X.env.scope y := by first | exact Or.inl rfl | exact Or.inr rfl) (hz : Loc X.env.scope z := by first | exact Or.inl rfl | exact Or.inr rfl)
    (hf : X.fn y = true ∨ X.env.scope.names.lookup y = some .local := by first | exact .inl rfl | exact .inr rfl) (hf2 : X.fn z = true ∨ X.env.scope.names.lookup z = some .local := by first | exact .inl rfl | exact .inr rfl) (hs2 : ∀ z, foldedSetIterable e X.env z = pure z := by intro _; rfl)
    (hpg : PG X (.Tuple [.Name y py, .Name z pz] kt tp) (gTup X.K 2 (gCons (gName j) (gCons (gName k) gNil))) := by exact pg_tup rfl (pgs_cons (pg_name (by assumption) rfl (by first | exact Or.inl rfl | exact Or.inr rfl)) (pgs_cons (pg_name (by assumption) rfl (by first | exact Or.inl rfl | exact Or.inr rfl)) pgs_nil))) : DS X ρ (.For (.Tuple [.Name y py, .Name z pz] kt tp) e body [] pos :: st) M := fun A B σ H H1 E t f =>
  ts_cons (ps_for hp hc (pi_list pe_of) hpg pss_of hs2) (he A B σ H H1 _ t fun v G H2 s r => by
    cases r with
    | @lst a xs _ hp rs =>
      have hl : xs.length = l.length := by rw [← rs.length, List.length_map]
      refine ⟨a, rfl, ⟨xs, SqL.of (s.s2 _ _ hp)⟩, for_list (xs := xs) (fun i σ' H' => ∃ ρ' G', Inv i ρ' ∧ At X.K A B ρ' σ' G' H' ∧ Same G G') ⟨ρ, G, h0, t.step s, Same.refl _⟩ (fun i σ' H' _ ⟨ρ', G', iv, t', e'⟩ => SqL.of (t'.up _ _ (e' _ _ hp))) ?_ ?_⟩
      · rintro i v σ' H' hi ⟨ρ', G', iv, t', e'⟩
        obtain ⟨d0, hd', rd⟩ := rs.back hi
        rw [List.getElem?_map] at hd'
        obtain ⟨c, hc', rfl⟩ := Option.map_eq_some_iff.mp hd'
        have rd2 := rd.mono e'
        cases rd2 with
        | tup hq rq =>
          cases rq with
          | cons r1 rq =>
          cases rq with
          | cons r2 rq =>
          cases rq
          refine ⟨_, _, rfl, same_t t'.up hq, rfl, _, _, rfl, _, _, rfl, rfl, ?_⟩
          exact hs i c ρ' hc' iv A B _ G' H' _ ((t'.set j r1).set k r2) ⟨fun ρ2 σ2 G2 H3 a b c => ⟨ρ2, G2, a, b, e'.trans c⟩, fun d v ρ2 σ2 G2 H3 a m b c r => f.rt d v ρ2 σ2 G2 H3 a m b ((s.s1.trans e').trans c) r⟩
      · rintro σ' H' ⟨ρ', G', iv, t', e'⟩
        rw [hl] at iv
        exact hd ρ' iv A B σ' G' H' E t' (f.mono (s.s1.trans e')))
/-- row = [y for y in known if ..] -/
theorem ds_rowLc (i j : Nat) (nd : X.N.Nodup) (hk : (pk, dN X.prog X.w pk (dnE dn)) ∈ L) (hm : noMem ρ = true) (hrep : ∀ H, R.p H → ∀ x ∈ dn, Rep X.K H (eS x.s) (.ref x.b)) (fb : Dn → Bool) (fe : Dn → D) (hb : ∀ od x0, x0 ∈ dn → LcOk X scope (some (.mem (om pk (frzA pk od L) R)) :: ρ) j ifs elt (eS x0.s) (fb x0) (fe x0)) (hz : dn.length < sizeLine) (ok : BlkOk X.N X.env.scope scope [(y, j)])
    (rest : ∀ (q : Addr) (us : List V) (R' : Fact), (∀ H, R'.p H ↔ (R.p H ∧ Reps X.K H ((dn.filter fb).map fe) us)) → DS X (some (.mem (om pk (L ++ [(q, .lst us)]) R')) :: ρ.set i (some (.val (.adr q)))) st M)
    (hi : X.N[i + 1]? = some z := by rfl) (hx : X.env.scope.names.lookup z = some .local := by rfl) {lp sp2 : Pos} (hsw : swapsWith (.ListComp elt [⟨.Name y p, .Name x px, ifs, 0⟩] scope lp) (some (.Name z sp2)) pos.line X.env = pure true := by exact sw_true (by rfl) (by rfl) (by rfl) (by decide +kernel))
    (hg : ∀ (s : Shared) (H : Hp) (C : Addr) (cl : List (Str × Addr)) (fp : List Addr), PG (bk X scope s H C cl fp) (.Name y p) (gName j) := by exact fun _ _ _ _ _ => pg_name (by assumption) (by rfl) (Or.inl (by rfl)) (Or.inr (by rfl))) (hc : X.calm = true := by rfl) (hs2 : ∀ z, foldedSetIterable (.Name x px) X.env z = pure z := by intro _; rfl) (hN : X.N[0]? = some x := by rfl) (hv : Vis X.env.scope x := by first | exact Or.inl rfl | exact Or.inr (Or.inl rfl) | exact Or.inr (Or.inr rfl)) (hdb : (x == ("__debug__" : Str)) = false := by decide) (hcd : (x == ("__classdict__" : Str)) = false := by decide) :
    DS X (some (.mem (om pk L R)) :: ρ) (.Assign [.Name z sp2] (.ListComp elt [⟨.Name y p, .Name x px, ifs, 0⟩] scope lp) pos :: st) M := fun A B σ H H1 E t f =>
  ts_cons (ps_lock (ps_setLc (own := [(y, j)]) (tt := ttB X scope ifs) (te := teB X scope elt) hc nd hi hx hsw (pi_keysN (pe_var hN hv hdb hcd)) ok hg (fun s H C cl fp => ⟨fun pins s' σ H' Q I h => h s H C cl fp pins s' I⟩) (fun s H C cl fp => ⟨fun pins s' σ H' Q I h => h s H C cl fp pins s' I⟩) hs2)) (by
    obtain ⟨ea, w, r⟩ := om_at (i := 0) t rfl
    obtain ⟨w1, w2, w3⟩ := w.2 _ hk
    refine ⟨pk, _, w1, trivial, fun od => ?_⟩
    have t1 := om_lock od t hm hk
    obtain ⟨_, w1', r1⟩ := om_at (i := 0) t1 rfl
    have hfz := (w1'.2 _ (frzA_at hk)).1
    refine ⟨_, ea, pk, od, dnE dn, rfl, hfz, fun Dl hD => lc_J (n := dn.length) (fun i H' => LcP X.K H (upd H1 pk (.frz od (dN X.prog X.w pk (dnE dn)))) Dl (((dn.take i).filter fb).map fe) H') (lc_start t1 hD) ?_ ?_ ?_ ?_⟩
    · rintro i H' hi ⟨G', us, st, _⟩
      exact ⟨st.s3 _ _ hfz, by rw [dnE, List.length_map]; exact hi⟩
    · rintro H' ⟨G', us, st, _⟩
      exact ⟨st.s3 _ _ hfz, by rw [dnE, List.length_map]; exact Nat.le_refl _⟩
    · rintro i v H' H'' hi p0 ⟨rfl, y0, hy, rfl⟩
      rw [dnE, List.getElem?_map] at hy
      obtain ⟨x0, hx0, rfl⟩ := Option.map_eq_some_iff.mp hy
      refine lc_turn t1 hD p0 (fun G' e => (hrep H r x0 (List.mem_of_getElem? hx0)).mono e) (hb od x0 (List.mem_of_getElem? hx0)) (Nat.lt_of_le_of_lt (fm_len fb fe _ i) hz) fun H'' q => ?_
      rw [fm_next fb fe hx0]
      exact q
    · rintro H' ⟨G', us, st, g0, h1, r2⟩
      rw [List.take_length] at r2
      have hq : Dl ≠ pk := fun z => by rw [z, hfz] at hD; cases hD
      refine ⟨st.s3 _ _ hfz, ?_⟩
      have st2 := lock_step w1 w2 st
      have hD1 : H1 Dl = none := by rw [upd_ne hq] at hD; exact hD
      have t3 := t.step st2
      obtain ⟨ea3, w3', r3⟩ := om_at (i := 0) t3 rfl
      have ow2 := w3'.more (o := .lst us) (fun x hx z => by
        have := (w.2 x hx).1
        rw [z, hD1] at this
        cases this) (by rw [upd_ne hq]; exact h1) g0 (t.bn.free hD1)
      have t4 := t3.swap hm (t3.jel rfl) t3.toLt (Same.refl _) (.mem (om pk (L ++ [(Dl, .lst us)]) ⟨fun H => R.p H ∧ Reps X.K H ((dn.filter fb).map fe) us, fun e ⟨a, b⟩ => ⟨R.m e a, b.mono e⟩⟩)) rfl ⟨pk, ea3, rfl, ow2, r3, r2⟩
      exact rest Dl us _ (fun H => Iff.rfl) A B _ G' _ E (t4.set (i + 1) .adr) (f.mono st.s1))
end
end SK
set_option maxRecDepth 100000
set_option maxHeartbeats 4000000
namespace SK
open PySem L2 PyProof.Rows
def vO : Option Nat → V
  | none => .non
  | some n => .int (n : Int)
def fE (fb : List (SM × Addr)) (F : SM → Option Nat) : NKV := fb.map fun x => (kS_ x.1, x.2, vO (F x.1))
section
variable {P : Program} {w : World} {pk pf pl pr : Addr} {dn : List Dn} {of ol orr o : HO} {ls ms : List (Addr × HO)} {i : Nat} {x : Addr × HO}
def LR (P : Program) (w : World) (pk : Addr) (dn : List Dn) (pf : Addr) (of : HO) (pl : Addr) (ol : HO) (pr : Addr) (orr : HO) (ls : List (Addr × HO)) : List (Addr × HO) := knK P w pk dn ++ (pf, of) :: (pl, ol) :: (pr, orr) :: ls
theorem kn_len : (knK P w pk dn).length = dn.length + 1 := by simp [knK, dnL]
theorem LR_ix (j : Nat) : (LR P w pk dn pf of pl ol pr orr ls)[dn.length + 1 + j]? = ((pf, of) :: (pl, ol) :: (pr, orr) :: ls)[j]? := by
  unfold LR
  rw [List.getElem?_append_right (by rw [kn_len]; omega), kn_len]
  congr 1
  omega
theorem LR_set (j : Nat) : (LR P w pk dn pf of pl ol pr orr ls).set (dn.length + 1 + j) x = knK P w pk dn ++ ((pf, of) :: (pl, ol) :: (pr, orr) :: ls).set j x := by
  unfold LR
  rw [List.set_append_right _ _ (by rw [kn_len]; omega), kn_len]
  congr 2
  omega
theorem LR_s0 : (LR P w pk dn pf of pl ol pr orr ls).set (dn.length + 1 + 0) (pf, o) = LR P w pk dn pf o pl ol pr orr ls := LR_set 0
theorem LR_s1 : (LR P w pk dn pf of pl ol pr orr ls).set (dn.length + 1 + 1) (pl, o) = LR P w pk dn pf of pl o pr orr ls := LR_set 1
theorem LR_s2 : (LR P w pk dn pf of pl ol pr orr ls).set (dn.length + 1 + 2) (pr, o) = LR P w pk dn pf of pl ol pr o ls := LR_set 2
theorem LR_s3 : (LR P w pk dn pf of pl ol pr orr ls).set (dn.length + 1 + (3 + i)) x = LR P w pk dn pf of pl ol pr orr (ls.set i x) := by
  rw [LR_set, Nat.add_comm 3 i]
  rfl
theorem LR_app : LR P w pk dn pf of pl ol pr orr ls ++ ms = LR P w pk dn pf of pl ol pr orr (ls ++ ms) := by
  unfold LR
  simp
theorem LR_kn {x : Addr × HO} (h : x ∈ knK P w pk dn) : x ∈ LR P w pk dn pf of pl ol pr orr ls := List.mem_append_left _ h
theorem LR_ls {x : Addr × HO} (h : x ∈ ls) : x ∈ LR P w pk dn pf of pl ol pr orr ls := List.mem_append_right _ (List.mem_cons_of_mem _ (List.mem_cons_of_mem _ (List.mem_cons_of_mem _ h)))
end
theorem cgL_set {cg : List Cg} {cv : SM → List V} {i : Nat} {g : Cg} (nd : (cg.map (·.s)).Nodup) (hg : cg[i]? = some g) (us : List V) : (cgL cg cv).set i (g.q, .lst us) = cgL cg fun s => if s = g.s then us else cv s := by
  refine List.ext_getElem? fun k => ?_
  unfold cgL
  rw [List.getElem?_set, List.getElem?_map, List.getElem?_map, List.length_map]
  have hi : i < cg.length := (List.getElem?_eq_some_iff.mp hg).1
  by_cases q : i = k
  · subst q
    rw [if_pos rfl, if_pos hi, hg]
    show some (g.q, HO.lst us) = some (g.q, HO.lst (if g.s = g.s then us else cv g.s))
    rw [if_pos rfl]
  · rw [if_neg q]
    cases hk : cg[k]? with
    | none => rfl
    | some g' =>
      have hne : g'.s ≠ g.s := fun e => by
        have p1 : (cg.map (·.s))[i]? = some g.s := by rw [List.getElem?_map, hg]; rfl
        have p2 : (cg.map (·.s))[k]? = some g.s := by rw [List.getElem?_map, hk, ← e]; rfl
        have hl : i < (cg.map (·.s)).length := (List.getElem?_eq_some_iff.mp p1).1
        exact q ((List.getElem?_inj hl nd).mp (p1.trans p2.symm))
      show some (g'.q, HO.lst (cv g'.s)) = some (g'.q, HO.lst (if g'.s = g.s then us else cv g'.s))
      rw [if_neg hne]
theorem cgL_put {cg : List Cg} {Lf : SM → List Nat} {i : Nat} {g : Cg} (nd : (cg.map (·.s)).Nodup) (hg : cg[i]? = some g) (l : List Nat) : (cgL cg fun s => vIts (Lf s)).set i (g.q, .lst (vIts l)) = cgL cg fun s => vIts (put1 Lf g.s l s) := by
  rw [cgL_set nd hg]
  congr 1
  funext s
  unfold put1
  split <;> rfl
theorem fE_val {fb : List (SM × Addr)} {F : SM → Option Nat} {s : SM} (h : s ∈ fb.map (·.1)) : nVal (fE fb F) (kS_ s) = some (vO (F s)) := by
  cases q : nVal (fE fb F) (kS_ s) with
  | none =>
    obtain ⟨x, hx, rfl⟩ := List.mem_map.mp h
    exact absurd (List.mem_map.mpr ⟨_, List.mem_map.mpr ⟨x, hx, rfl⟩, rfl⟩) (nVal_none q)
  | some v =>
    obtain ⟨y, hy, e1, e2⟩ := nVal_mem q
    obtain ⟨z, hz, rfl⟩ := List.mem_map.mp hy
    rw [← e2, kS_inj_ e1]
theorem fE_new {fb : List (SM × Addr)} {F : SM → Option Nat} {s : SM} (h : s ∉ fb.map (·.1)) : nVal (fE fb F) (kS_ s) = none := by
  cases q : nVal (fE fb F) (kS_ s) with
  | none => rfl
  | some v =>
    obtain ⟨y, hy, e1, e2⟩ := nVal_mem q
    obtain ⟨z, hz, rfl⟩ := List.mem_map.mp hy
    exact absurd (List.mem_map.mpr ⟨z, hz, kS_inj_ e1⟩) h
theorem fE_put {fb : List (SM × Addr)} {F : SM → Option Nat} {s : SM} {b : Addr} {a : Option Nat} (h : s ∈ fb.map (·.1)) : nPut (fE fb F) (kS_ s) b (vO a) = fE fb (put1 F s a) := by
  unfold nPut
  rw [if_pos (by rw [fE_val h]; rfl)]
  unfold fE
  rw [List.map_map]
  refine List.map_congr_left fun x hx => ?_
  show (if kS_ x.1 = kS_ s then (kS_ x.1, x.2, vO a) else (kS_ x.1, x.2, vO (F x.1))) = (kS_ x.1, x.2, vO (put1 F s a x.1))
  by_cases q : x.1 = s
  · rw [if_pos (by rw [q]), q, put1_same]
  · rw [if_neg fun z => q (kS_inj_ z), put1_ne q]
theorem kok_fE {K : PySem.W.Frag} {H : Hp} {fb : List (SM × Addr)} {F : SM → Option Nat} (k : ∀ x ∈ fb, Rep K H (eS x.1) (.ref x.2)) : KOk K H (fE fb F) := fun x hx => by
  obtain ⟨z, hz, rfl⟩ := List.mem_map.mp hx
  exact ⟨eS z.1, rfl, isKey_eS _, depth_eS _, k z hz⟩
structure Rk (K : PySem.W.Frag) (h : HoldM) (dn : List Dn) (fb : List (SM × Addr)) (lg : List Cg) (row : List SM) (rv : List V) (H : Hp) : Prop where
  kn : (knF K h dn).p H
  fb : ∀ x ∈ fb, Rep K H (eS x.1) (.ref x.2)
  lg : ∀ g ∈ lg, Rep K H (eS g.s) (.ref g.b)
  rw_ : Reps K H (row.map eS) rv
theorem CW.of_closed {h : HoldM} {ks l : List SM} (cl : Closed h ks l) : CW h ks (comesQ (tripA h ks)) where
  to := fun x c hc => by
    obtain ⟨t, ht, rfl⟩ := List.mem_map.mp hc
    obtain ⟨h1, h2⟩ := List.mem_filter.mp ht
    have h2 := of_decide_eq_true h2
    obtain ⟨s, hs, h3⟩ := List.mem_flatMap.mp h1
    obtain ⟨o, ho, h4⟩ := List.mem_flatMap.mp h3
    unfold tripO at h4
    cases e : ledQ h s o with
    | none => rw [e] at h4; cases h4
    | some l' =>
      rw [e] at h4
      obtain ⟨y, hy, rfl⟩ := List.mem_map.mp h4
      have : y = x := h2
      subst this
      exact ⟨hs, ho, l', e, hy⟩
  of := fun t ht o ho l' e x hx => ⟨List.mem_map.mpr ⟨(t, o, x), List.mem_filter.mpr ⟨List.mem_flatMap.mpr ⟨t, ht, List.mem_flatMap.mpr ⟨o, ho, by unfold tripO; rw [e]; exact List.mem_map.mpr ⟨x, hx, rfl⟩⟩⟩, decide_eq_true rfl⟩, rfl⟩, cl.cl t ht o ho l' e x hx⟩
section
variable {X : Cx} {ρ : Rho} {M : Fin} {e : Expr} {h : HoldM} {pk : Addr} {dn : List Dn} {C : List (Addr × HO)} {R : Fact} {st : List Stmt} {pos p px cpos : Pos} {x : Str} {l : List SM}
/-- comes = open_orders(known) -/
theorem ds_comes (i : Nat) (T : Prg X.K X.mg) (nd : X.N.Nodup) (hr : Room 1 X.A) (wf : WF h) (cl : Closed h (dn.map (·.s)) l) (len : dn.length ≤ 1280) (hkn : ∀ H, R.p H → (knF X.K h dn).p H) (ha : DA X (some (.mem (om pk (knK X.prog X.w pk dn ++ C) R)) :: ρ) [e] [.adr pk])
    (rest : ∀ (pc : Addr) (cg : List Cg) (R' : Fact), cg.map (·.s) = dn.map (·.s) → (∀ H, R'.p H ↔ (R.p H ∧ (cmF X.K cg (comesQ (tripA h (dn.map (·.s))))).p H)) → DS X (some (.mem (om pk (knK X.prog X.w pk dn ++ C ++ [(pc, dN X.prog X.w pc (cgE cg))]) R')) :: ρ.set i (some (.val (.adr pc)))) st M)
    (hm : noMem ρ = true := by rfl) (hi : X.N[i + 1]? = some x := by rfl) (hx : Loc X.env.scope x := by first | exact Or.inl rfl | exact Or.inr rfl) (hg : Gl X "open_orders" := by rfl) (he : starEach [e] X.env = (false, eval e X.env) :: starEach [] X.env := by rfl) (hpl : (backTo cpos (starEach [] X.env)).any (·.1) = false := by rfl)
    (hs : swapsWith (.Call (.Name "open_orders" p) [e] [] cpos) (some (.Name x px)) pos.line X.env = pure false := by rfl) (hf : X.fn x = true ∨ X.env.scope.names.lookup x = some .local := by first | exact .inl rfl | exact .inr rfl) : DS X (some (.mem (om pk (knK X.prog X.w pk dn ++ C) R)) :: ρ) (.Assign [.Name x px] (.Call (.Name "open_orders" p) [e] [] cpos) pos :: st) M := by
  obtain ⟨fd, F, hF⟩ := f_open_orders (P := X.prog) (w := X.w) (base := X.base) T
  refine fun A B σ H H1 E t f => ts_cons (ps_set nd hi hx (pe_call hF hr hg (g_open_orders T) F.kp (F.bindsN fun _ _ _ _ _ _ us hl => match us, hl with | [_], _ => rfl) .nil pass0 pa_of (by decide) he hpl) hs hf) (ha A B σ H H1 _ t fun vs G H2 s r => ?_)
  cases r with
  | cons r1 r =>
  cases r
  cases r1
  have t2 := t.step s
  obtain ⟨ea, w, rp⟩ := om_at (i := 0) t2 rfl
  have nd0 := w.1
  rw [List.map_append] at nd0
  obtain ⟨n1, n2, n3⟩ := List.nodup_append.mp nd0
  have wk : OwnL (cut (knK X.prog X.w pk dn) H2) G H2 (knK X.prog X.w pk dn) := ⟨n1, fun y hy => ⟨(w.2 y (List.mem_append_left _ hy)).1, (w.2 y (List.mem_append_left _ hy)).2.1, cut_in hy⟩⟩
  refine ⟨pk, h, dn, l, cut (knK X.prog X.w pk dn) H2, G, rfl, s.s2, fun x o q => (cut_le q).1, wk, hkn G rp, wf, cl, len, fun G3 H3 pc cg g1 g2 g3 g4 w3 hcg hrep => ?_⟩
  have key : ∀ y ∈ C, cut (knK X.prog X.w pk dn) H2 y.1 = some y.2 := fun y hy => by
    rw [cut_out]
    · exact (w.2 y (List.mem_append_right _ hy)).1
    · intro z hz e
      exact n3 z.1 (List.mem_map.mpr ⟨z, hz, rfl⟩) y.1 (List.mem_map.mpr ⟨y, hy, rfl⟩) e
  have bk : ∀ q, cut (knK X.prog X.w pk dn) H2 q = none → B q = none := fun q z => by
    by_cases hq : ∃ y ∈ knK X.prog X.w pk dn, y.1 = q
    · obtain ⟨y, hy, rfl⟩ := hq
      exact (w.2 y (List.mem_append_left _ hy)).2.2
    · rw [cut_out fun y hy z => hq ⟨y, hy, z⟩] at z
      exact t2.bn.free z
  have nd3 := w3.1
  rw [List.map_append] at nd3
  obtain ⟨m1, m2, m3⟩ := List.nodup_append.mp nd3
  have hpc := w3.2 (pc, dN X.prog X.w pc (cgE cg)) (List.mem_append_right _ (List.mem_singleton.mpr rfl))
  have ow : OwnL B G3 H3 (knK X.prog X.w pk dn ++ C ++ [(pc, dN X.prog X.w pc (cgE cg))]) := by
    refine ⟨?_, fun y hy => ?_⟩
    · rw [List.map_append, List.map_append]
      refine List.nodup_append.mpr ⟨nd0, by simp, fun a ha b hb e => ?_⟩
      have hb2 : b = pc := by simpa using hb
      rw [hb2] at e
      rcases List.mem_append.mp ha with z | z
      · exact m3 a z pc (by simp) e
      · obtain ⟨y, hy, e2⟩ := List.mem_map.mp z
        have := key y hy
        rw [e2, e, hpc.2.2] at this
        cases this
    · rcases List.mem_append.mp hy with hy | hy
      · rcases List.mem_append.mp hy with hy | hy
        · obtain ⟨a1, a2, _⟩ := w3.2 y (List.mem_append_left _ hy)
          exact ⟨a1, a2, (w.2 y (List.mem_append_left _ hy)).2.2⟩
        · refine ⟨g3 _ _ (key y hy), ?_, (w.2 y (List.mem_append_right _ hy)).2.2⟩
          cases q : G3 y.1 with
          | none => rfl
          | some o =>
            rcases g4 _ _ q with z | z
            · rw [(w.2 y (List.mem_append_right _ hy)).2.1] at z; cases z
            · rw [key y hy] at z; cases z
      · obtain rfl := List.mem_singleton.mp hy
        exact ⟨hpc.1, hpc.2.1, bk _ hpc.2.2⟩
  have sb : Same B H3 := fun x o q => by
    refine g3 x o ?_
    rw [cut_out]
    · exact t2.bn x o q
    · intro y hy e
      have := (w.2 y (List.mem_append_left _ hy)).2.2
      rw [e, q] at this
      cases this
  have t3 := t2.swap hm (t2.jel rfl) ⟨g2, t2.an.trans g1, sb, fun x o q => (g4 x o q).elim (t2.nw x o) fun z => .inr (bk x z)⟩ g1 (.mem (om pk (knK X.prog X.w pk dn ++ C ++ [(pc, dN X.prog X.w pc (cgE cg))]) (R.and (cmF X.K cg (comesQ (tripA h (dn.map fun (x : Dn) => x.s))))))) rfl ⟨pk, ea, rfl, ow, R.m g1 rp, hrep⟩
  exact rest pc cg _ hcg (fun H => Iff.rfl) A B _ G3 H3 E (t3.set (i + 1) .adr) (f.mono (s.s1.trans g1))
end
end SK
set_option maxRecDepth 100000
set_option maxHeartbeats 4000000
namespace SK
open PySem L2 PyProof.Rows
section
variable {X : Cx} {ρ : Rho} {M : Fin} {pk : Addr} {L : List (Addr × HO)} {R : Fact} {st : List Stmt} {pos p cpos : Pos} {x : Str}
theorem ds_newD (i : Nat) (nd : X.N.Nodup) (rest : ∀ q, DS X (some (.mem (om pk (L ++ [(q, dN X.prog X.w q [])]) R)) :: ρ.set i (some (.val (.adr q)))) st M) (hm : noMem ρ = true := by rfl) (hi : X.N[i + 1]? = some x := by rfl) (hx : Loc X.env.scope x := by first | exact Or.inl rfl | exact Or.inr rfl)
    (hs : swapsWith (.Dict [] [] cpos) (some (.Name x p)) pos.line X.env = pure false := by rfl) (hf : X.fn x = true ∨ X.env.scope.names.lookup x = some .local := by first | exact .inl rfl | exact .inr rfl) : DS X (some (.mem (om pk L R)) :: ρ) (.Assign [.Name x p] (.Dict [] [] cpos) pos :: st) M :=
  fun A B σ H H1 E t f => ds_newN i nd (fun _ => M) rest t (fun _ => f) hm hi hx hs hf
end
abbrev D_ := SK.D
def spB (K : PySem.W.Frag) (P : Program) (w : World) : Sp := fun vs H1 Q _ => ∃ (pk : Addr) (h : HoldM) (dn : List Dn) (l : List SM) (B H : Hp), vs = [.ref pk] ∧ Same H H1 ∧ Same B H1 ∧ OwnL B H H1 (knK P w pk dn) ∧ (knF K h dn).p H ∧ WF h ∧ Closed h (dn.map (·.s)) l ∧ dn.length ≤ 1280 ∧
  ∀ G H2 (pf : Addr) (fb : List (SM × Addr)) (F : SM → Option Nat), Same H G → Same G H2 → Same B H2 → (∀ x o, G x = some o → H x = some o ∨ B x = none) → OwnL B G H2 [(pf, dN P w pf (fE fb F))] → fb.map (·.1) = dn.map (·.s) → (∀ x ∈ fb, Rep K G (eS x.1) (.ref x.2)) → (∀ s ∈ dn.map (·.s), RankOk h s (F s)) → Q (.ref pf) H2
def rowI (h : HoldM) (ks : List SM) (i : Nat) : List SM := row0 h ks ++ (ks.take i).filter fun s => (openQ h s).isEmpty && !(ordersQ h s).isEmpty
theorem rowI_len (h : HoldM) (ks : List SM) (i : Nat) : (rowI h ks i).length ≤ ks.length + ks.length := by
  unfold rowI row0
  rw [List.length_append]
  have h1 := List.length_filter_le (fun s => (ordersQ h s).isEmpty) ks
  have h2 := List.length_filter_le (fun s => (openQ h s).isEmpty && !(ordersQ h s).isEmpty) (ks.take i)
  rw [List.length_take] at h2
  omega
theorem rowI_next {h : HoldM} {ks : List SM} {i : Nat} {s : SM} (hs : ks[i]? = some s) : rowI h ks (i + 1) = if ((openQ h s).isEmpty && !(ordersQ h s).isEmpty) = true then rowI h ks i ++ [s] else rowI h ks i := by
  unfold rowI
  rw [take_next hs, List.filter_append]
  by_cases q : ((openQ h s).isEmpty && !(ordersQ h s).isEmpty) = true
  · rw [if_pos q, List.filter_cons, if_pos q, List.append_assoc]
    rfl
  · rw [if_neg q, List.filter_cons, if_neg q]
    simp
theorem F1_next {h : HoldM} {ks : List SM} {i : Nat} {s : SM} (hs : (row1 h ks)[i]? = some s) : (fun t => if t ∈ (row1 h ks).take (i + 1) then some (if (ordersQ h t).isEmpty then 0 else 1) else none) = put1 (fun t => if t ∈ (row1 h ks).take i then some (if (ordersQ h t).isEmpty then 0 else 1) else none) s (some (if (ordersQ h s).isEmpty = true then 0 else 1)) := by
  funext t
  have hm : t ∈ (row1 h ks).take (i + 1) ↔ t ∈ (row1 h ks).take i ∨ t = s := by rw [take_next hs, List.mem_append, List.mem_singleton]
  unfold put1
  by_cases q : t = s
  · subst q
    rw [if_pos rfl, if_pos (hm.mpr (.inr rfl))]
  · rw [if_neg q]
    by_cases z : t ∈ (row1 h ks).take i
    · rw [if_pos (hm.mpr (.inl z))]
      exact (if_pos z).symm
    · rw [if_neg fun y => (hm.mp y).elim z q]
      exact (if_neg z).symm
theorem step_at {S : BS} {x : SM} {a : Nat} (h : S.row[a]? = some x) (c : SM × Nat) : (stepB x S c).row[a]? = some x := by
  unfold stepB
  split
  · split
    · show (S.row ++ [c.1])[a]? = _
      rw [List.getElem?_append_left (List.getElem?_eq_some_iff.mp h).1]
      exact h
    · exact h
  · exact h
section
variable {P : Program} {w : World} {K : PySem.W.Frag} {mg : Str → Option Value} {base : Heap}
theorem Lo_dn_ {pk : Addr} {dn : List Dn} {C : List (Addr × HO)} {i : Nat} {x : Dn} (hx : dn[i]? = some x) : (knK P w pk dn ++ C)[i + 1]? = some (x.p, .dK x.ws) := by
  unfold knK
  show (dnL dn ++ _)[i]? = _
  rw [List.getElem?_append_left (by rw [dnL, List.length_map]; exact (List.getElem?_eq_some_iff.mp hx).1), dnL, List.getElem?_map, hx]
  rfl
theorem de_om {X : Cx} {ρ : Rho} {pk : Addr} {L : List (Addr × HO)} {R : Fact} {x : Str} {pos : Pos} (hN : X.N[0]? = some x := by rfl) (hv : Vis X.env.scope x := by first | exact Or.inl rfl | exact Or.inr (Or.inl rfl) | exact Or.inr (Or.inr rfl)) (hd : (x == ("__debug__" : Str)) = false := by decide) (hcd : (x == ("__classdict__" : Str)) = false := by decide) : DE X (some (.mem (om pk L R)) :: ρ) (.Name x pos) (.adr pk) := fun A B σ H H1 Q t k => te_run (pe_var hN hv hd hcd) ⟨_, (om_at (i := 0) t rfl).1, k _ H H1 (Step.refl t.up) .adr⟩
theorem LR_pk {pk pf pl pr : Addr} {dn : List Dn} {of ol orr : HO} {ls : List (Addr × HO)} : (LR P w pk dn pf of pl ol pr orr ls)[0]? = some (pk, dN P w pk (dnE dn)) := rfl
theorem f_ranks_by (T : Prg K mg) : ∃ fd, FunD K "ranks_by" "ranks_by" (defArgs s_ranks_by) (defBody s_ranks_by) (defScope s_ranks_by) [] [] (He.ga K "ranks_by") fd ∧ FnOk P w K mg base CX0 2 (He.ga K "ranks_by") fd ["known"] (spB K P w) := by
  obtain ⟨fd, F⟩ := F_ranks_by T
  refine ⟨fd, F, F.ok sc_ranks_by (fun vs H Q E h => ?_) (fun cdv A outer s H vs Q E hr h => ?_)⟩
  · obtain ⟨_, _, _, _, _, _, rfl, _⟩ := h
    rfl
  · obtain ⟨pk, h, dn, l, B, Hv, rfl, e, eb, ow, kf, wf, cl, len, q⟩ := h
    refine ⟨_, PSs.nox (pss_of (X := cx P w K mg base n_ranks_by "ranks_by" (defScope s_ranks_by) (He.ga K "ranks_by") cdv A outer s H E)), ?_⟩
    have t := at_memo (K := K) (N := ["found", "left", "row", "state", "comes", "at", "order"]) (M := om pk (knK P w pk dn) (knF K h dn)) (ds := []) (ws := []) e eb .nil ⟨rfl, ow, kf⟩
    have nd := sc_ranks_by.nd
    have hu := hr.units
    have dnd := cl.nd
    have cw := CW.of_closed cl
    have onl : ∀ s ∈ dn.map (·.s), (ordersQ h s).Nodup := fun s hs => orders_nodup wf (cl.va s hs)
    have hzn : ∀ {n : Nat}, n ≤ 4000 → n < sizeLine := fun z => Nat.lt_of_le_of_lt z (by decide)
    have wn : ∀ x0 ∈ dn, ((waysQ h x0.s).map (·.1)).Nodup := fun x0 hx => by
      rw [waysQ, List.map_map]
      show ((ordersQ h x0.s).map id).Nodup
      rw [List.map_id]
      exact onl _ (List.mem_map.mpr ⟨x0, hx, rfl⟩)
    refine ds_newN (X := cx P w K mg base n_ranks_by "ranks_by" (defScope s_ranks_by) (He.ga K "ranks_by") cdv A outer s H E) 0 nd (fun pf => ⟨fun _ => False, fun d => d = .adr pf, fun ρ => ∃ fb F R' L', ρ[0]? = some (some (.mem (om pk L' R'))) ∧ (pf, dN P w pf (fE fb F)) ∈ L' ∧ fb.map (·.1) = dn.map (·.s) ∧ (∀ H, R'.p H → ∀ x ∈ fb, Rep K H (eS x.1) (.ref x.2)) ∧ ∀ s ∈ dn.map (·.s), RankOk h s (F s)⟩) (fun pf => ?_) t fun pf => ⟨fun ρ σ G H2 z => z.elim, fun d' v ρ σ G H2 z z2 b c' r => ?_⟩
    · refine ds_newD 1 nd fun pl => ?_
      -- the rows that have no orders
      refine ds_rowLc (dn := dn) 2 4 nd (List.mem_append_left _ (List.mem_append_left _ (List.mem_cons_self ..))) rfl (fun H (r : (knF K h dn).p H) => r.1) (fun x0 => (ordersQ h x0.s).isEmpty) (fun x0 => eS x0.s) (fun od x0 hx0 s0 H0 C cl2 fp => ⟨dq_one (dt_emp (i := 0) hu ?_ dnd hx0 (nm 4) rfl rfl), fun _ => nm 4⟩) (hzn (by omega)) (blkOk_by (N := n_ranks_by) (sc := defScope s_ranks_by) (by decide +kernel)) fun pr rv R1 hR1 => ?_
      · rw [List.append_assoc]
        exact ksee1 od fun H r => r
      have e0 : (dn.filter fun x0 => (ordersQ h x0.s).isEmpty).map (fun x0 => eS x0.s) = (rowI h (dn.map (·.s)) 0).map eS := by
        unfold rowI row0
        rw [List.take_zero, List.filter_nil, List.append_nil, List.filter_map, List.map_map]
        rfl
      have eL0 : knK P w pk dn ++ [(pf, dN P w pf [])] ++ [(pl, dN P w pl [])] ++ [(pr, HO.lst rv)] = LR P w pk dn pf (dN P w pf (fE [] fun _ => none)) pl (dN P w pl (cgE [])) pr (.lst rv) [] := by
        unfold LR fE cgE
        simp
      change DS _ (some (Bd.mem (om pk (knK P w pk dn ++ [(pf, dN P w pf [])] ++ [(pl, dN P w pl [])] ++ [(pr, HO.lst rv)]) R1)) :: _) _ _
      rw [eL0]
      refine ds_forN (dn := dn) 3 nd (fun i L R ρ1 => ∃ fb lg rv b3, L = LR P w pk dn pf (dN P w pf (fE fb fun _ => none)) pl (dN P w pl (cgE lg)) pr (.lst rv) (cgL lg fun s => vIts (openQ h s)) ∧ fb.map (·.1) = (dn.take i).map (·.s) ∧ lg.map (·.s) = (dn.take i).map (·.s) ∧ (∀ H, R.p H → Rk K h dn fb lg (rowI h (dn.map (·.s)) i) rv H) ∧
        ρ1 = [some (.val (.adr pf)), some (.val (.adr pl)), some (.val (.adr pr)), Option.map Bd.val b3, none, none, none]) ?_ ⟨[], [], rv, none, rfl, rfl, rfl, fun H r => ⟨((hR1 H).mp r).1, (fun x hx => by cases hx), (fun x hx => by cases hx), by rw [← e0]; exact ((hR1 H).mp r).2⟩, rfl⟩ ?_ ?_
      · rintro i L R ρ1 ⟨fb, lg, rv, b3, rfl, _, _, hR, rfl⟩
        exact ⟨LR_kn (List.mem_cons_self ..), by cases b3 <;> rfl, fun H r => (hR H r).kn.1⟩
      · rintro od i x0 L R ρ1 hx0 ⟨fb, lg, rv, b3, rfl, hfb, hlg, hR, rfl⟩
        have hxm : x0 ∈ dn := List.mem_of_getElem? hx0
        have hxk : (dn.map (·.s))[i]? = some x0.s := by rw [List.getElem?_map, hx0]; rfl
        have hnf : x0.s ∉ fb.map (·.1) := by
          rw [hfb, List.map_take]
          exact nodup_take_not dnd hxk
        have hnl : x0.s ∉ lg.map (·.s) := by
          rw [hlg, List.map_take]
          exact nodup_take_not dnd hxk
        have lf : fb.length ≤ 1280 := by
          have := congrArg List.length hfb
          rw [List.length_map, List.length_map, List.length_take] at this
          omega
        have llg : lg.length ≤ 1280 := by
          have := congrArg List.length hlg
          rw [List.length_map, List.length_map, List.length_take] at this
          omega
        refine ds_nd fun n1 => ?_
        rw [frzA_fst] at n1
        have npf : pf ≠ pk := nodup_ix n1 (LR_ix 0) LR_pk (by omega)
        have npl : pl ≠ pk := nodup_ix n1 (LR_ix 1) LR_pk (by omega)
        have npr : pr ≠ pk := nodup_ix n1 (LR_ix 2) LR_pk (by omega)
        have hpp : ∀ x ∈ dn, x.p ≠ pk := fun x hx => by
          obtain ⟨k, hk⟩ := List.mem_iff_getElem?.mp hx
          have : (LR P w pk dn pf (dN P w pf (fE fb fun _ => none)) pl (dN P w pl (cgE lg)) pr (.lst rv) (cgL lg fun s => vIts (openQ h s)))[k + 1]? = some (x.p, .dK x.ws) := Lo_dn_ hk
          exact nodup_ix n1 this LR_pk (by omega)
        refine ds_putN (k := dn.length + 1 + 0) (i := 1) hu (frzA_get (LR_ix 0) npf) (fun H r => kok_fE (hR H r).fb) (by rw [fE, List.length_map]; exact hzn (by omega)) de_non (nm 4) rfl rfl fun v kb1 R2 hR2 => ?_
        refine ds_pure (Pp := v = .non) (fun H r => by cases ((hR2 H).mp r).2.1; rfl) fun hv => ?_
        subst hv
        rw [← frzA_set npf, nPut_new (fE_new hnf)]
        change DS _ (some (Bd.mem (om pk (frzA pk od ((LR P w pk dn pf (dN P w pf (fE fb fun _ => none)) pl (dN P w pl (cgE lg)) pr (.lst rv) (cgL lg fun s => vIts (openQ h s))).set (dn.length + 1 + 0) (pf, dN P w pf (fE fb (fun _ => none) ++ [(kS_ x0.s, kb1, V.non)])))) R2)) :: _) _ _
        rw [LR_s0]
        have efb : fE fb (fun _ => none) ++ [(kS_ x0.s, kb1, V.non)] = fE (fb ++ [(x0.s, kb1)]) fun _ => none := by
          unfold fE
          rw [List.map_append]
          rfl
        rw [efb]
        have hR2' : ∀ H, R2.p H → Rk K h dn (fb ++ [(x0.s, kb1)]) lg (rowI h (dn.map (·.s)) i) rv H := fun H r => by
          obtain ⟨r1, _, r3⟩ := (hR2 H).mp r
          have r0 := hR H r1
          exact ⟨r0.kn, fun x hx => by
            rcases List.mem_append.mp hx with z | z
            · exact r0.fb x z
            · obtain rfl := List.mem_singleton.mp z
              exact r3, r0.lg, r0.rw_⟩
        have kse : ∀ od2 of ol orr ls (R : Fact), (∀ H, R.p H → (knF K h dn).p H) → KSee K P w h pk dn (frzA x0.p od2 (frzA pk od (LR P w pk dn pf of pl ol pr orr ls))) R := fun od2 of ol orr ls R rf =>
          have k1 := ksee1 (K := K) (P := P) (w := w) (pk := pk) (C := (pf, of) :: (pl, ol) :: (pr, orr) :: ls) od rf
          ⟨k1.hk.frz fun z => absurd z.symm (hpp x0 hxm), fun x hx => (k1.hw x hx).frz fun _ => frzA_mem (List.mem_append_left _ (List.mem_cons_of_mem _ (List.mem_map.mpr ⟨x, hx, rfl⟩))) (hpp x hx), k1.rk, k1.rw_⟩
        have hin : ∀ o ∈ ordersQ h x0.s, (o, ledQ h x0.s o) ∈ waysQ h x0.s := fun o ho => List.mem_map.mpr ⟨o, ho, rfl⟩
        have ol16 := orders_len wf (cl.va _ (List.mem_map.mpr ⟨x0, hxm, rfl⟩))
        refine ds_putNL (k := dn.length + 1 + 1) (i := 2) (ds := (openQ h x0.s).map nI) hu (frzA_get (LR_ix 1) npl) (fun H r => kok_cg (hR2' H r).lg) (by rw [cgE, List.length_map]; exact hzn (by omega)) (do_lcK 7 hu nd dnd hxm (frzA_mem (LR_kn (List.mem_cons_of_mem _ (List.mem_map.mpr ⟨x0, hxm, rfl⟩))) (hpp x0 hxm)) rfl (fun od2 => kse od2 _ _ _ _ R2 fun H r => (hR2' H r).kn) (fun b => nm 4) (fun o => (ledQ h x0.s o).isSome) nI (fun od2 o ho s0 H0 C cl2 fp => ⟨dq_one (dt_is (dt_notN (de_kso (i := 0) hu (kse od2 _ _ _ _ R2 fun H r => (hR2' H r).kn) dnd hxm (wn x0 hxm) (hin o ho) (nm 4) (nm 7) rfl rfl) de_non) (by cases ledQ h x0.s o <;> rfl)), fun _ => nm 7⟩) (hzn (by omega)) (blkOk_by (N := n_ranks_by) (sc := defScope s_ranks_by) (by decide +kernel))) (nm 4) rfl rfl fun q' vs kb2 R3 hR3 => ?_
        refine ds_pure (Pp := vs = vIts (openQ h x0.s)) (fun H r => of_nIs ((hR3 H).mp r).2.1) fun hvs => ?_
        subst hvs
        rw [← frzA_set npl, nPut_new (cg_new hnl)]
        change DS _ (some (Bd.mem (om pk (frzA pk od ((LR P w pk dn pf (dN P w pf (fE (fb ++ [(x0.s, kb1)]) fun _ => none)) pl (dN P w pl (cgE lg)) pr (.lst rv) (cgL lg fun s => vIts (openQ h s))).set (dn.length + 1 + 1) (pl, dN P w pl (cgE lg ++ [(kS_ x0.s, kb2, V.ref q')]))) ++ [(q', HO.lst (vIts (openQ h x0.s)))]) R3)) :: _) _ _
        rw [LR_s1]
        refine ds_nd fun n2 => ?_
        have nq : q' ≠ pk := by
          rw [List.map_append, frzA_fst] at n2
          obtain ⟨_, _, n3⟩ := List.nodup_append.mp n2
          exact fun z => n3 pk (List.mem_map.mpr ⟨_, List.mem_of_getElem? LR_pk, rfl⟩) q' (by simp) z.symm
        have e1 : frzA pk od (LR P w pk dn pf (dN P w pf (fE (fb ++ [(x0.s, kb1)]) fun _ => none)) pl (dN P w pl (cgE lg ++ [(kS_ x0.s, kb2, V.ref q')])) pr (.lst rv) (cgL lg fun s => vIts (openQ h s))) ++ [(q', HO.lst (vIts (openQ h x0.s)))] = frzA pk od (LR P w pk dn pf (dN P w pf (fE (fb ++ [(x0.s, kb1)]) fun _ => none)) pl (dN P w pl (cgE (lg ++ [⟨x0.s, kb2, q'⟩]))) pr (.lst rv) (cgL (lg ++ [⟨x0.s, kb2, q'⟩]) fun s => vIts (openQ h s))) := by
          have e2 : cgE (lg ++ [⟨x0.s, kb2, q'⟩]) = cgE lg ++ [(kS_ x0.s, kb2, V.ref q')] := by unfold cgE; rw [List.map_append]; rfl
          have e3 : (cgL (lg ++ [⟨x0.s, kb2, q'⟩]) fun s => vIts (openQ h s)) = (cgL lg fun s => vIts (openQ h s)) ++ [(q', HO.lst (vIts (openQ h x0.s)))] := by unfold cgL; rw [List.map_append]; rfl
          rw [e2, e3, ← LR_app, frzA_app]
          congr 1
          exact (frzA_off (fun x hx => by
            obtain rfl := List.mem_singleton.mp hx
            exact nq)).symm
        rw [e1]
        have hR3' : ∀ H, R3.p H → Rk K h dn (fb ++ [(x0.s, kb1)]) (lg ++ [⟨x0.s, kb2, q'⟩]) (rowI h (dn.map (·.s)) i) rv H := fun H r => by
          obtain ⟨r1, _, r3⟩ := (hR3 H).mp r
          have r0 := hR2' H r1
          exact ⟨r0.kn, r0.fb, fun g hg => by
            rcases List.mem_append.mp hg with z | z
            · exact r0.lg g z
            · obtain rfl := List.mem_singleton.mp z
              exact r3, r0.rw_⟩
        have hfb' : (fb ++ [(x0.s, kb1)]).map (·.1) = (dn.take (i + 1)).map (·.s) := by rw [List.map_append, hfb, take_next hx0, List.map_append]; rfl
        have hlg' : (lg ++ [(⟨x0.s, kb2, q'⟩ : Cg)]).map (·.s) = (dn.take (i + 1)).map (·.s) := by rw [List.map_append, hlg, take_next hx0, List.map_append]; rfl
        have lnd : ((lg ++ [(⟨x0.s, kb2, q'⟩ : Cg)]).map (·.s)).Nodup := by rw [hlg', List.map_take]; exact dnd.sublist (List.take_sublist ..)
        have hgm : (⟨x0.s, kb2, q'⟩ : Cg) ∈ lg ++ [(⟨x0.s, kb2, q'⟩ : Cg)] := List.mem_append_right _ (List.mem_singleton.mpr rfl)
        have rnx := rowI_next (h := h) hxk
        refine ds_if (DW.dt (dw_and (dt_leftE (i := 2) (pd := pl) (q := q') (l := openQ h x0.s) hu (.inl (frzA_mem (List.mem_of_getElem? (LR_ix 1)) npl)) (fun H r => kok_cg (hR3' H r).lg) (cg_val lnd hgm) (frzA_mem (LR_ls (List.mem_map.mpr ⟨_, hgm, rfl⟩)) nq) (nm 4) rfl rfl) fun _ => dw_and1 (dt_nemp (i := 0) hu (ksee1 od fun H r => (hR3' H r).kn) dnd hxm (nm 4) rfl rfl)))
          (fun hb => ?_) fun hb => ds_nil (ds_nil ⟨_, R3, _, rfl, fb ++ [(x0.s, kb1)], lg ++ [⟨x0.s, kb2, q'⟩], rv, some (eS x0.s), rfl, hfb', hlg', fun H r => ?_, rfl⟩)
        · refine ds_pure (Pp := rv.length < sizeLine) (fun H r => ?_) fun hrl => ?_
          · rw [← ((hR3' H r).rw_).length, List.length_map]
            refine hzn (Nat.le_trans (rowI_len h _ i) ?_)
            rw [List.length_map]
            omega
          refine ds_appR (k := dn.length + 1 + 2) (i := 3) (frzA_get (LR_ix 2) npr) hrl (nm 4) rfl rfl fun v R4 hR4 => ?_
          · rw [← frzA_set npr, LR_s2]
            refine ds_nil (ds_nil ⟨_, R4, _, rfl, fb ++ [(x0.s, kb1)], lg ++ [⟨x0.s, kb2, q'⟩], rv ++ [v], some (eS x0.s), rfl, hfb', hlg', fun H r => ?_, rfl⟩)
            obtain ⟨r1, r2⟩ := (hR4 H).mp r
            have r0 := hR3' H r1
            rw [rnx, if_pos hb]
            exact ⟨r0.kn, r0.fb, r0.lg, by rw [List.map_append]; exact r0.rw_.snoc r2⟩
        · rw [rnx, if_neg (by rw [hb]; exact Bool.false_ne_true)]
          exact hR3' H r
      · rintro L R ρ1 ⟨fb, lg, rv, b3, rfl, hfb, hlg, hR, rfl⟩
        rw [List.take_length] at hfb hlg
        have er : rowI h (dn.map (·.s)) dn.length = row1 h (dn.map (·.s)) := by
          unfold rowI row1
          rw [List.take_of_length_le (by rw [List.length_map]; exact Nat.le_refl _)]
        rw [er] at hR
        have lnd : (lg.map (·.s)).Nodup := by rw [hlg]; exact dnd
        have ef0 : (fun _ => none : SM → Option Nat) = fun t => if t ∈ (row1 h (dn.map (·.s))).take 0 then some (if (ordersQ h t).isEmpty then 0 else 1) else none := by
          funext t
          rw [if_neg (by rw [List.take_zero]; exact List.not_mem_nil)]
        refine ds_forP (i := 3) 3 (pr := pr) (vs := rv) (row := row1 h (dn.map (·.s))) nd (fun i L R ρ1 => ∃ b3, L = LR P w pk dn pf (dN P w pf (fE fb fun t => if t ∈ (row1 h (dn.map (·.s))).take i then some (if (ordersQ h t).isEmpty then 0 else 1) else none)) pl (dN P w pl (cgE lg)) pr (.lst rv) (cgL lg fun s => vIts (openQ h s)) ∧ (∀ H, R.p H → Rk K h dn fb lg (row1 h (dn.map (·.s))) rv H) ∧
          ρ1 = [some (.val (.adr pf)), some (.val (.adr pl)), some (.val (.adr pr)), Option.map Bd.val b3, none, none, none]) ?_ ⟨b3, by rw [← ef0], hR, rfl⟩ ?_ ?_ rfl rfl
        · rintro i L R ρ1 ⟨b3, rfl, hR, rfl⟩
          exact ⟨List.mem_of_getElem? (LR_ix 2), fun H r => (hR H r).rw_⟩
        · rintro i s0 L R ρ1 hs0 ⟨b3, rfl, hR, rfl⟩
          have hsk := (mem_row1.mp (List.mem_of_getElem? hs0)).1
          obtain ⟨x0, hxm, rfl⟩ := List.mem_map.mp hsk
          refine ds_putN (k := dn.length + 1 + 0) (i := 1) (d := nI (if (ordersQ h x0.s).isEmpty = true then 0 else 1)) hu (LR_ix 0) (fun H r => kok_fE (hR H r).fb) (by rw [fE, List.length_map, ← List.length_map (f := (·.1)) (as := fb), hfb, List.length_map]; exact hzn (by omega)) (de_if (dt_emp (i := 0) hu (ksee0 fun H r => (hR H r).kn) dnd hxm (nm 4) rfl rfl) (fun z => by rw [if_pos z]; exact de_int) fun z => by rw [if_neg (by rw [z]; exact Bool.false_ne_true)]; exact de_int) (nm 4) rfl rfl fun v kb1 R2 hR2 => ?_
          refine ds_pure (Pp := v = vO (some (if (ordersQ h x0.s).isEmpty = true then 0 else 1))) (fun H r => by cases ((hR2 H).mp r).2.1; rfl) fun hv => ?_
          subst hv
          rw [fE_put (by rw [hfb]; exact hsk), ← F1_next hs0]
          refine ds_nil ⟨_, R2, _, ?_, some (eS x0.s), rfl, fun H r => hR H ((hR2 H).mp r).1, rfl⟩
          exact congrArg (fun z => some (Bd.mem (om pk z R2)) :: _) LR_s0
        · rintro L R ρ1 ⟨b3, rfl, hR, rfl⟩
          have ef1 : (fun t => if t ∈ (row1 h (dn.map (·.s))).take (row1 h (dn.map (·.s))).length then some (if (ordersQ h t).isEmpty then 0 else 1) else none) = F1 h (dn.map (·.s)) := by
            funext t
            unfold F1
            simp only [List.take_length]
          rw [ef1]
          have hb3 : noMem [some (Bd.val (.adr pf)), some (.val (.adr pl)), some (.val (.adr pr)), Option.map Bd.val b3, none, none, none] = true := by cases b3 <;> rfl
          change DS (cx P w K mg base n_ranks_by "ranks_by" (defScope s_ranks_by) (He.ga K "ranks_by") cdv A outer s H E) (some (Bd.mem (om pk (knK P w pk dn ++ ((pf, dN P w pf (fE fb (F1 h (dn.map (·.s))))) :: (pl, dN P w pl (cgE lg)) :: (pr, .lst rv) :: (cgL lg fun s => vIts (openQ h s)))) R)) :: [some (Bd.val (.adr pf)), some (.val (.adr pl)), some (.val (.adr pr)), Option.map Bd.val b3, none, none, none]) _ _
          refine ds_comes 4 T nd hr wf cl len (fun H r => (hR H r).kn) (da_one de_om) (fun pc cg R2 hcg hR2 => ?_) hb3
          have cgn : (cg.map (·.s)).Nodup := by rw [hcg]; exact dnd
          change DS _ (some (Bd.mem (om pk (LR P w pk dn pf (dN P w pf (fE fb (F1 h (dn.map (·.s))))) pl (dN P w pl (cgE lg)) pr (.lst rv) (cgL lg fun s => vIts (openQ h s)) ++ [(pc, dN P w pc (cgE cg))]) R2)) :: _) _ _
          rw [LR_app]
          refine asg 6 nd (d := nI 0) de_int ?_
          refine whl (fun m ρ' => ∃ (S : BS) (a : Nat) (D : List (SM × Nat)) (rv : List V) (R : Fact) (b4 b7 : Option D_), m = 3000 - a ∧ BI h (dn.map fun (x : Dn) => x.s) (comesQ (tripA h (dn.map fun (x : Dn) => x.s))) S a D ∧ (∀ H, R.p H → Rk K h dn fb lg S.row rv H ∧ (cmF K cg (comesQ (tripA h (dn.map fun (x : Dn) => x.s)))).p H) ∧
            ρ' = [some (.mem (om pk (LR P w pk dn pf (dN P w pf (fE fb S.F)) pl (dN P w pl (cgE lg)) pr (.lst rv) ((cgL lg fun s => vIts (S.L s)) ++ [(pc, dN P w pc (cgE cg))])) R)), some (.val (.adr pf)), some (.val (.adr pl)), some (.val (.adr pr)), Option.map Bd.val b4, some (.val (.adr pc)), some (.val (nI a)), Option.map Bd.val b7]) 3000
            ⟨⟨F1 h (dn.map fun (x : Dn) => x.s), openQ h, row1 h (dn.map fun (x : Dn) => x.s)⟩, 0, [], rv, R2, b3, none, rfl, BI.begin dnd onl, fun H r => ⟨hR H ((hR2 H).mp r).1, ((hR2 H).mp r).2⟩, rfl⟩ ?_
          rintro m ρ' ⟨S, a, D, rv, R, b4, b7, rfl, bi, hR, rfl⟩
          have rl : S.row.length ≤ 1280 := Nat.le_trans (nodup_le S.row (dn.map (·.s)) bi.nd bi.sub) (by rw [List.length_map]; exact len)
          refine ⟨_, dt_lt (nm 6) (de_lenP (i := 3) (b_len T) (List.mem_of_getElem? (LR_ix 2)) rfl rfl), fun hb => ?_, fun hb => ?_⟩
          · refine ds_pure (Pp := rv.length = S.row.length) (fun H r => by rw [← (hR H r).1.rw_.length, List.length_map]) fun hrl => ?_
            have hlt : a < S.row.length := by have := of_decide_eq_true hb; omega
            obtain ⟨x, hx⟩ : ∃ x, S.row[a]? = some x := ⟨_, List.getElem?_eq_getElem hlt⟩
            have hxk : x ∈ dn.map fun (x : Dn) => x.s := bi.sub x (List.mem_of_getElem? hx)
            obtain ⟨gc, hgc, hgs⟩ := List.mem_map.mp (show x ∈ cg.map (·.s) by rw [hcg]; exact hxk)
            have hnm : ∀ (b4 b7 : Option D_), noMem [some (Bd.val (.adr pf)), some (.val (.adr pl)), some (.val (.adr pr)), Option.map Bd.val b4, some (.val (.adr pc)), some (.val (nI a)), Option.map Bd.val b7] = true := fun b4 b7 => by cases b4 <;> cases b7 <;> rfl
            refine ds_forPair 4 7 nd (comesQ (tripA h (dn.map fun (x : Dn) => x.s)) x) (de_dv (i := 5) (pd := pc) (kvs := cgE cg) (s := x) (v := .ref gc.q) hu (.inl (LR_ls (List.mem_append_right _ (List.mem_singleton.mpr rfl)))) (fun H r => kok_cg fun g hg => ((hR H r).2 g hg).1) (by rw [← hgs]; exact cg_val cgn hgc) (fun H r => by have := ((hR H r).2 gc hgc).2; rw [hgs] at this; exact this) (de_rowP (i := 3) (List.mem_of_getElem? (LR_ix 2)) (fun H r => (hR H r).1.rw_) hx (nm 6) rfl rfl) rfl rfl)
              (fun i ρ' => ∃ (S' : BS) (rv : List V) (R : Fact) (b4 b7 : Option D_), BI h (dn.map fun (x : Dn) => x.s) (comesQ (tripA h (dn.map fun (x : Dn) => x.s))) S' a (D ++ (comesQ (tripA h (dn.map fun (x : Dn) => x.s)) x).take i) ∧ S'.row[a]? = some x ∧ (∀ H, R.p H → Rk K h dn fb lg S'.row rv H ∧ (cmF K cg (comesQ (tripA h (dn.map fun (x : Dn) => x.s)))).p H) ∧
                ρ' = [some (.mem (om pk (LR P w pk dn pf (dN P w pf (fE fb S'.F)) pl (dN P w pl (cgE lg)) pr (.lst rv) ((cgL lg fun s => vIts (S'.L s)) ++ [(pc, dN P w pc (cgE cg))])) R)), some (.val (.adr pf)), some (.val (.adr pl)), some (.val (.adr pr)), Option.map Bd.val b4, some (.val (.adr pc)), some (.val (nI a)), Option.map Bd.val b7])
              ⟨S, rv, R, b4, b7, by rw [List.take_zero, List.append_nil]; exact bi, hx, hR, rfl⟩ ?_ ?_
            · rintro i c ρ' hc ⟨S', rv, R, b4, b7, bi', hx', hR, rfl⟩
              have hcm := List.mem_of_getElem? hc
              have bt := bi'.turn cw hx' hcm
              have hx2 := step_at hx' c
              obtain ⟨ck, co, _⟩ := cw.to x c hcm
              obtain ⟨g, hg, hgt⟩ := List.mem_map.mp (show c.1 ∈ lg.map (·.s) by rw [hlg]; exact ck)
              obtain ⟨gi, hgi⟩ := List.mem_iff_getElem?.mp hg
              have ed : D ++ (comesQ (tripA h (dn.map fun (x : Dn) => x.s)) x).take (i + 1) = (D ++ (comesQ (tripA h (dn.map fun (x : Dn) => x.s)) x).take i) ++ [c] := by rw [take_next hc, List.append_assoc]
              rw [← ed] at bt
              have gil : gi < (cgL lg fun s => vIts (S'.L s)).length := by rw [cgL, List.length_map]; exact (List.getElem?_eq_some_iff.mp hgi).1
              have hval : nVal (cgE lg) (kS_ c.1) = some (V.ref g.q) := by rw [← hgt]; exact cg_val lnd hg
              have hkq : ∀ (of ol orr : HO) (Lf : SM → List Nat) (l : List Nat), Lf c.1 = l → (LR P w pk dn pf of pl ol pr orr ((cgL lg fun s => vIts (Lf s)) ++ [(pc, dN P w pc (cgE cg))]))[dn.length + 1 + (3 + gi)]? = some (g.q, .lst (vIts l)) := fun of ol orr Lf l e => by
                rw [LR_ix, Nat.add_comm 3 gi]
                show ((cgL lg fun s => vIts (Lf s)) ++ [(pc, dN P w pc (cgE cg))])[gi]? = _
                rw [List.getElem?_append_left (by rw [cgL, List.length_map]; exact (List.getElem?_eq_some_iff.mp hgi).1), cgL, List.getElem?_map, hgi, ← e, ← hgt]
                rfl
              refine ds_if (dt_inL (i := 2) (pd := pl) (kvs := cgE lg) (q := g.q) (l := S'.L c.1) hu (.inl (List.mem_of_getElem? (LR_ix 1))) (fun H r => kok_cg (hR H r).1.lg) hval (List.mem_of_getElem? (hkq _ _ _ S'.L _ rfl)) (nm 4) (nm 7) rfl rfl) (fun hb1 => ?_) fun hb1 => ds_nil (ds_nil ⟨S', rv, R, some (eS c.1), some (nI c.2), ?_, hx', hR, rfl⟩)
              · have h1 : c.2 ∈ S'.L c.1 := of_decide_eq_true hb1
                refine ds_remove (k := dn.length + 1 + (3 + gi)) (i := 2) (pd := pl) (kvs := cgE lg) (q := g.q) (l := S'.L c.1) hu (hkq _ _ _ S'.L _ rfl) (.inl (List.mem_of_getElem? (LR_ix 1))) (fun H r => kok_cg (hR H r).1.lg) hval h1 (nm 4) (nm 7) rfl rfl ?_
                rw [LR_s3, List.set_append_left _ _ gil, cgL_put lnd hgi, hgt]
                refine ds_if (dt_leftE (i := 2) (pd := pl) (kvs := cgE lg) (q := g.q) (l := (S'.L c.1).erase c.2) hu (.inl (List.mem_of_getElem? (LR_ix 1))) (fun H r => kok_cg (hR H r).1.lg) hval (List.mem_of_getElem? (hkq _ _ _ (put1 S'.L c.1 ((S'.L c.1).erase c.2)) _ put1_same)) (nm 4) rfl rfl) (fun hb2 => ?_) fun hb2 => ds_nil (ds_nil (ds_nil ⟨⟨S'.F, put1 S'.L c.1 ((S'.L c.1).erase c.2), S'.row⟩, rv, R, some (eS c.1), some (nI c.2), ?_, hx', hR, rfl⟩))
                · have h2 : (S'.L c.1).erase c.2 = [] := List.isEmpty_iff.mp hb2
                  have est : stepB x S' c = ⟨put1 S'.F c.1 (some (fv S' x + 1)), put1 S'.L c.1 [], S'.row ++ [c.1]⟩ := by
                    unfold stepB
                    rw [if_pos h1, if_pos h2]
                  rw [est] at bt hx2
                  have hfx : S'.F x = some (fv S' x) := by
                    obtain ⟨n, hn⟩ := Option.isSome_iff_exists.mp ((bi'.some_ x hxk).mpr (List.mem_of_getElem? hx'))
                    unfold fv
                    rw [hn]
                    rfl
                  have hxf : x ∈ fb.map (·.1) := by rw [hfb]; exact hxk
                  rw [h2]
                  refine ds_putN (k := dn.length + 1 + 0) (i := 1) (d := nI (fv S' x + 1)) hu (LR_ix 0) (fun H r => kok_fE (hR H r).1.fb) (by rw [fE, List.length_map, ← List.length_map (f := (·.1)) (as := fb), hfb, List.length_map]; exact hzn (by omega)) (de_is (de_add (de_dv (i := 1) (pd := pf) (kvs := fE fb S'.F) (s := x) (d := nI (fv S' x)) (v := .int (fv S' x : Nat)) hu (.inl (List.mem_of_getElem? (LR_ix 0))) (fun H r => kok_fE (hR H r).1.fb) (by rw [fE_val hxf, hfx]; rfl) (fun H r => .int) (de_rowP (i := 3) (List.mem_of_getElem? (LR_ix 2)) (fun H r => (hR H r).1.rw_) hx' (nm 6) rfl rfl) rfl rfl) de_int) rfl) (nm 4) rfl rfl fun v kb1 R2 hR2 => ?_
                  refine ds_pure (Pp := v = vO (some (fv S' x + 1))) (fun H r => by cases ((hR2 H).mp r).2.1; rfl) fun hv => ?_
                  subst hv
                  rw [fE_put (by rw [hfb]; exact ck)]
                  change DS _ (some (Bd.mem (om pk ((LR P w pk dn pf (dN P w pf (fE fb S'.F)) pl (dN P w pl (cgE lg)) pr (.lst rv) ((cgL lg fun s => vIts (put1 S'.L c.1 [] s)) ++ [(pc, dN P w pc (cgE cg))])).set (dn.length + 1 + 0) (pf, dN P w pf (fE fb (put1 S'.F c.1 (some (fv S' x + 1)))))) R2)) :: _) _ _
                  rw [LR_s0]
                  refine ds_pure (Pp := rv.length = S'.row.length) (fun H r => by rw [← (hR H ((hR2 H).mp r).1).1.rw_.length, List.length_map]) fun hrl2 => ?_
                  have rl2 : S'.row.length ≤ 1280 := Nat.le_trans (nodup_le S'.row _ bi'.nd bi'.sub) (by rw [List.length_map]; exact len)
                  refine ds_appR (k := dn.length + 1 + 2) (i := 3) (LR_ix 2) (hzn (by omega)) (nm 4) rfl rfl fun v2 R3 hR3 => ?_
                  rw [LR_s2]
                  refine ds_nil (ds_nil (ds_nil ⟨_, rv ++ [v2], R3, some (eS c.1), some (nI c.2), bt, hx2, fun H r => ?_, rfl⟩))
                  obtain ⟨r1, r2⟩ := (hR3 H).mp r
                  obtain ⟨q1, q2⟩ := hR H ((hR2 H).mp r1).1
                  exact ⟨⟨q1.kn, q1.fb, q1.lg, by rw [List.map_append]; exact q1.rw_.snoc r2⟩, q2⟩
                · have h2 : ¬ (S'.L c.1).erase c.2 = [] := fun z => by rw [z] at hb2; cases hb2
                  have est : stepB x S' c = ⟨S'.F, put1 S'.L c.1 ((S'.L c.1).erase c.2), S'.row⟩ := by
                    unfold stepB
                    rw [if_pos h1, if_neg h2]
                  rw [est] at bt
                  exact bt
              · have est : stepB x S' c = S' := by
                  unfold stepB
                  rw [if_neg (of_decide_eq_false hb1)]
                rw [est] at bt
                exact bt
            · rintro ρ' ⟨S', rv, R, b4, b7, bi', hx', hR, rfl⟩
              rw [List.take_length] at bi'
              have bn := bi'.next hx' fun c hc => List.mem_append_right _ hc
              have rl2 : S'.row.length ≤ 1280 := Nat.le_trans (nodup_le S'.row _ bi'.nd bi'.sub) (by rw [List.length_map]; exact len)
              have al : a < S'.row.length := (List.getElem?_eq_some_iff.mp hx').1
              exact asg 6 nd (d := nI (a + 1)) (de_is (de_add (nm 6) de_int) rfl) (ds_nil ⟨3000 - (a + 1), by omega, S', a + 1, _, rv, R, b4, b7, rfl, bn, hR, rfl⟩)
          · refine ds_pure (Pp := rv.length = S.row.length) (fun H r => by rw [← (hR H r).1.rw_.length, List.length_map]) fun hrl => ?_
            have hge : S.row.length ≤ a := by have := of_decide_eq_false hb; omega
            refine ds_ret (de_adr 1) rfl ⟨fb, S.F, R, _, rfl, List.mem_of_getElem? (LR_ix 0), hfb, fun H r => (hR H r).1.fb, fun s hs => ⟨fun n e => bi.sound hs e, fun m q => bi.whole cw hge m s hs q⟩⟩
    · have z1 : d' = .adr pf := z
      subst z1
      cases r
      obtain ⟨fb, F', R', L', z3, hm, hfb, hrep, hrk⟩ := z2
      obtain ⟨ea, w2, r2⟩ := om_at b z3
      exact q G H2 pf fb F' c' b.up b.bn (fun x o z => b.nw x o z) ⟨by simp, fun x hx => by
        obtain rfl := List.mem_singleton.mp hx
        exact w2.2 _ hm⟩ hfb (hrep G r2) hrk
end
end SK
set_option maxRecDepth 100000
set_option maxHeartbeats 4000000
namespace SK
open PySem L2 PyProof.Rows
def spNS (K : PySem.W.Frag) (P : Program) (w : World) : Sp := fun vs H1 Q _ => ∃ (a dx p : Addr) (h : HoldM) (B H : Hp), vs = [.ref a, .ref p] ∧ H1 a = some (.ins (CS K) dx []) ∧ Same H H1 ∧ H a = none ∧ Same B H1 ∧ B a = none ∧ Rep K H (eH K h) (.ref p) ∧
  ∀ H2, Same H H2 → Same B H2 → (spr K P w h a).ok B H H2 a → Q .non H2
def spR (K : PySem.W.Frag) (P : Program) (w : World) : Sp := fun vs H1 Q _ => ∃ (v1 v2 : V) (h : HoldM) (l : List SM) (kb kw kf : Nat) (H : Hp), vs = [v1, v2, .int 2000] ∧ Same H H1 ∧ Rep K H (eH K h) v1 ∧ Rep K H (eSS l) v2 ∧ WF h ∧ Few h kb kw kf ∧ (∀ s ∈ l, Valid h s) ∧
  ∀ G H2 (pf : Addr) (fb : List (SM × Addr)) (F : SM → Option Nat), Step H H1 G H2 → H2 pf = some (dN P w pf (fE fb F)) → (∀ x ∈ fb, Rep K G (eS x.1) (.ref x.2)) → (∀ s ∈ l, s ∈ fb.map (·.1)) → (∀ s ∈ l, RankOk h s (F s)) → Q (.ref pf) H2
section
variable {P : Program} {w : World} {K : PySem.W.Frag} {mg : Str → Option Value} {base : Heap}
theorem c_asked (T : Prg K mg) : Cal P w K mg base 5 "asked_states" ["hold", "states"] [] (spD K fun ds d => ∃ (h : HoldM) (l : List SM), WF h ∧ (∀ s ∈ l, Valid h s) ∧ ds = [eH K h, eSS l] ∧ d = .non) := by
  obtain ⟨fd, F⟩ := F_asked_states T
  refine mkC F (g_asked_states T) sc_asked_states (fun _ _ _ _ _ _ us hl => match us, hl with | [_, _], _ => rfl) (fun ds d h => ?_) fun cdv A outer s H E ds d hr h => ?_
  · obtain ⟨h, l, _, _, rfl, rfl⟩ := h
    rfl
  · obtain ⟨h, l, wf, vl, rfl, rfl⟩ := h
    have nd := sc_asked_states.nd
    refine forL l eS 2 nd (nm 1) (fun i ρ' => ∃ b, ρ' = [some (.val (eH K h)), some (.val (eSS l)), b]) ⟨none, rfl⟩ ?_ ?_
    · rintro i s ρ' hi ⟨b, rfl⟩
      exact ds_skip (dt_not (dt_val (call (c_is_state T) hr (da_cons (nm 0) (da_one (nm 2))) ⟨h, s, wf, vl s (List.mem_of_getElem? hi), rfl, rfl⟩))) rfl (ds_nil ⟨some (.val (eS s)), rfl⟩)
    · rintro ρ' ⟨b, rfl⟩
      exact ds_nil rfl
theorem f_spread_init (T : Prg K mg) : ∃ fd, FnOk P w K mg base CX0 1 (He.ma K (CS K) "__init__") fd ["self", "hold"] (spNS K P w) ∧ Binds K fd ["self", "hold"] [] := by
  obtain ⟨fd, F⟩ := F_Spread_init T
  refine ⟨fd, F.ok sc_Spread_init (fun vs H Q E h => ?_) (fun cdv A outer s H vs Q E hr h => ?_), F.bindsN fun _ _ _ _ _ _ us hl => match us, hl with | [_, _], _ => rfl⟩
  · obtain ⟨_, _, _, _, _, _, rfl, _⟩ := h
    rfl
  · obtain ⟨a, dx, p, h, B, Hv, rfl, ha, e, h0, eb, hb, rp, q⟩ := h
    refine ⟨_, PSs.nox (pss_of (X := cx P w K mg base n_Spread_init "Spread.__init__" (defScope s_Spread_init) (He.ma K (CS K) "__init__") cdv A outer s H E)), ?_⟩
    refine ts_cons (ps_fld (pv 0) (pv 1) (by rfl)) ⟨_, rfl, _, rfl, a, CS K, dx, [], rfl, ha, cl_Spread T, na_Spread_my_hold T, by decide, ?_⟩
    refine ts_cons (ps_fld (pv 0) pe_dnewN (by rfl)) fun d hd => ?_
    have nda : d ≠ a := fun z => by rw [z, upd_same] at hd; cases hd
    have hd1 : H d = none := by rw [upd_ne nda] at hd; exact hd
    refine ⟨_, rfl, a, CS K, dx, _, rfl, by rw [upd_ne (Ne.symm nda)]; exact upd_same, cl_Spread T, na_Spread_my_spans T, Nat.lt_of_le_of_lt (Nat.le_of_ble_eq_true rfl) (show 7 < 1000 by decide), ?_⟩
    have keep : ∀ {D : Hp}, Same D H → D a = none → Same D (upd (upd (upd H a (.ins (CS K) dx (putF "my_hold" (V.ref p) []))) d (dN P w d [])) a (.ins (CS K) dx (putF "my_spans" (V.ref d) (putF "my_hold" (V.ref p) [])))) := fun {D} sd da x o z => by
      have n1 : x ≠ a := fun y => by rw [y, da] at z; cases z
      have n2 : x ≠ d := fun y => by rw [y] at z; have := sd _ _ z; rw [hd1] at this; cases this
      rw [upd_ne n1, upd_ne n2, upd_ne n1]
      exact sd x o z
    exact ts_nil (q _ (keep e h0) (keep eb hb) ⟨rfl, d, [], ⟨p, dx, upd_same, rp⟩, by rw [upd_ne nda]; exact upd_same, (fun x hx => by cases hx), (fun x hx => by cases hx), e.free hd1, eb.free hd1, List.nodup_nil⟩)
theorem dn_few {h : HoldM} {kb kw kf : Nat} (fw : Few h kb kw kf) {dn : List Dn} {l : List SM} (cl : Closed h (dn.map (·.s)) l) : dn.length ≤ 1280 := by
  have := valid_few fw cl.nd cl.va
  rw [List.length_map] at this
  exact this
theorem DE.run {X : Cx} {ρ : Rho} {e : Expr} {d : D} {A B : Hp} {σ : L2.St} {H H1 : Hp} {Q : VK} (h : DE X ρ e d) (t : At X.K A B ρ σ H H1) (k : ∀ v G H2, Step H H1 G H2 → Rep X.K G d v → Q v H2) : teOf X e σ H1 Q := h A B σ H H1 Q t k
theorem f_ranks_of (T : Prg K mg) : ∃ fd, FunD K "ranks_of" "ranks_of" (defArgs s_ranks_of) (defBody s_ranks_of) (defScope s_ranks_of) [V.int 2000] [] (He.ga K "ranks_of") fd ∧ FnOk P w K mg base CX0 12 (He.ga K "ranks_of") fd ["hold", "states", "limit"] (spR K P w) := by
  obtain ⟨fd, F⟩ := F_ranks_of T
  refine ⟨fd, F, F.ok sc_ranks_of (fun vs H Q E h => ?_) (fun cdv A outer s H vs Q E hr h => ?_)⟩
  · obtain ⟨_, _, _, _, _, _, _, _, rfl, _⟩ := h
    rfl
  · obtain ⟨v1, v2, h, l, kb, kw, kf, Hv, rfl, e, r1, r2, wf, fw, vl, q⟩ := h
    refine ⟨_, PSs.nox (pss_of (X := cx P w K mg base n_ranks_of "ranks_of" (defScope s_ranks_of) (He.ga K "ranks_of") cdv A outer s H E)), ?_⟩
    have t : At K Hv H (rho0 n_ranks_of [eH K h, eSS l, .int 2000]) (L2.start n_ranks_of [v1, v2, .int 2000]) Hv H := At.start e (.cons r1 (.cons r2 (.cons .int .nil)))
    obtain ⟨fa, FA, hFA⟩ := f_ranks_by (P := P) (w := w) (base := base) T
    obtain ⟨fs, FS, hFS⟩ := f_states_by (P := P) (w := w) (base := base) T
    obtain ⟨fi, hFI, hBI⟩ := f_spread_init (P := P) (w := w) (base := base) T
    have hu := hr.units
    refine ts_cons (X := cx P w K mg base n_ranks_of "ranks_of" (defScope s_ranks_of) (He.ga K "ranks_of") cdv A outer s H E) (ps_expr pe_of (by rfl)) (DE.run (call (c_asked T) (hr.mono (by decide)) (da_cons (nm 0) (da_one (nm 1))) ⟨h, l, wf, vl, rfl, rfl⟩) t fun v G H2 st r => ?_)
    have t2 := t.step st
    refine ts_cons (ps_ret (pe_call hFA (hr.mono (by decide)) (by rfl) (g_ranks_by T) FA.kp (FA.bindsN fun _ _ _ _ _ _ us hl => match us, hl with | [_], _ => rfl) .nil pass0 (pa_cons (pe_call hFS hr (by rfl) (g_states_by T) FS.kp (FS.bindsN fun _ _ _ _ _ _ us hl => match us, hl with | [_, _, _, _], _ => rfl) .nil pass0 (pa_cons (pe_make (mk_Spread T) hFI (hr.mono (by decide)) (by rfl) (g_Spread T) hBI .nil pass0 (pa_cons (pv 0) pa_nil)) (pa_cons (pv 0) (pa_cons (pv 1) (pa_cons (pv 2) pa_nil))))) pa_nil))) ?_
    obtain ⟨u0, e0, q0⟩ := t2.sl 0 _ rfl
    obtain ⟨u1, e1, q1⟩ := t2.sl 1 _ rfl
    obtain ⟨u2, e2, q2⟩ := t2.sl 2 _ rfl
    cases q2
    obtain ⟨p0, rfl⟩ : ∃ p, u0 = .ref p := by
      cases q0 with
      | ins _ _ => exact ⟨_, rfl⟩
    refine ⟨_, e0, fun x dx nx ndx ne => ?_⟩
    have up2 : Same H2 (upd (upd H2 dx (.own x)) x (.ins (CS K) dx [])) := (Same.new ndx).trans (Same.new (by rw [upd_ne (Ne.symm ne)]; exact nx))
    refine ⟨x, dx, p0, h, H2, G, rfl, upd_same, st.s2.trans up2, st.s2.free nx, up2, nx, q0, fun H3 s1 s2 ok => ⟨rfl, ?_⟩⟩
    refine ⟨_, e0, _, e1, _, e2, ?_⟩
    refine ⟨x, _, _, h, l, kb, kw, kf, H2, G, rfl, s1, s2, ok, q0, q1, wf, fw, vl, fun G2 H4 pk dn g1 g2 g3 g4 ow kn cl => ?_⟩
    refine ⟨pk, h, dn, l, H2, G2, rfl, g2, g3, ow, ⟨kn.d1, kn.d2⟩, wf, cl, dn_few fw cl, fun G3 H5 pf fb F k1 k2 k3 k4 ow2 hfb hrep hrk => ?_⟩
    refine q G3 H5 pf fb F ⟨st.s1.trans (g1.trans k1), k2, st.s3.trans k3, fun x o z => ?_⟩ (ow2.at_ (i := 0) rfl).1 hrep (fun s hs => by rw [hfb]; exact cl.st s hs) fun s hs => hrk s (cl.st s hs)
    rcases k4 x o z with y | y
    · rcases g4 x o y with y | y
      · exact st.nw x o y
      · exact .inr (st.s3.free y)
    · exact .inr (st.s3.free y)
end
end SK
set_option maxRecDepth 100000
set_option maxHeartbeats 4000000
namespace SK
open PySem L2 PyProof.Rows
def primes : List Nat := [65537, 65521, 65519, 65497, 65479, 65449, 65447, 65437]
def mixQ (c : Int) (k t : Nat) : Nat := ((c % 1000003 + 1) * (k * k + 48271 + 4099 * t : Nat) % (primes.getD t 1 : Nat)).toNat
theorem prime_pos : ∀ t, t < 8 → 0 < primes.getD t 1 ∧ primes.getD t 1 < 65538 := by decide
theorem mixQ_eq (c : Int) (k : Nat) {t : Nat} (ht : t < 8) : (c % 1000003 + 1) * (k * k + 48271 + 4099 * t : Nat) % (primes.getD t 1 : Nat) = (mixQ c k t : Nat) := by
  have := prime_pos t ht
  unfold mixQ
  rw [Int.toNat_of_nonneg (Int.emod_nonneg _ (by omega))]
theorem mix_cast (k t : Nat) : ((k : Int) * (k : Int) + 48271 + 4099 * (t : Int)) = ((k * k + 48271 + 4099 * t : Nat) : Int) := by
  rw [Int.natCast_add, Int.natCast_add, Int.natCast_mul, Int.natCast_mul]
  rfl
theorem mixQ_lt (c : Int) (k : Nat) {t : Nat} (ht : t < 8) : mixQ c k t < 65538 := by
  have := prime_pos t ht
  have h := Int.emod_lt_of_pos ((c % 1000003 + 1) * (k * k + 48271 + 4099 * t : Nat)) (show (0 : Int) < (primes.getD t 1 : Nat) by omega)
  rw [mixQ_eq c k ht] at h
  omega
structure Scl where
  a : Int
  b : Int
  c : Int
  e : Int
structure SclOk (s : Scl) : Prop where
  a0 : 0 < s.a
  a1 : s.a ≤ 1000000000
  b0 : 0 < s.b
  b1 : s.b ≤ 1000000000
  c0 : -1000000000 ≤ s.c
  c1 : s.c ≤ 1000000000
  e0 : 0 < s.e
  e1 : s.e ≤ 1000000000
def farQ (c : Int) : Int := if c % 8 = 5 then 1000000000 else 10000
def scaleQ (c : Int) : Scl := ⟨1 + c / 8 % farQ c, 1 + c / 11 % farQ c, c / 13 % (2 * farQ c + 1) - farQ c, 1 + c / 17 % farQ c⟩
theorem far_pos (c : Int) : 0 < farQ c ∧ farQ c ≤ 1000000000 := by
  unfold farQ
  split <;> omega
theorem scale_ok (c : Int) : SclOk (scaleQ c) := by
  obtain ⟨h1, h2⟩ := far_pos c
  have m : ∀ x : Int, 0 ≤ x % farQ c ∧ x % farQ c < farQ c := fun x => ⟨Int.emod_nonneg _ (by omega), Int.emod_lt_of_pos _ h1⟩
  have m2 : ∀ x : Int, 0 ≤ x % (2 * farQ c + 1) ∧ x % (2 * farQ c + 1) < 2 * farQ c + 1 := fun x => ⟨Int.emod_nonneg _ (by omega), Int.emod_lt_of_pos _ (by omega)⟩
  have := m (c / 8)
  have := m (c / 11)
  have := m (c / 17)
  have := m2 (c / 13)
  unfold scaleQ
  refine ⟨?_, ?_, ?_, ?_, ?_, ?_, ?_, ?_⟩ <;> show _ <;> simp only <;> omega
def eScl (s : Scl) : D := .tup [.int s.a, .int s.b, .int s.c, .int s.e]
def warmQ_ (t : Int) (s : Scl) : Q := frQ (t * s.a * s.e + s.c * s.b) (s.b * s.e)
def noLess (r q : Option Nat) : Bool := match q with
  | none => true
  | some m => match r with
    | none => false
    | some n => decide (n ≤ m)
section
variable {P : Program} {w : World} {K : PySem.W.Frag} {mg : Str → Option Value} {base : Heap}
theorem c_cell (T : Prg K mg) : Cal P w K mg base 1 "_law_cell_at" ["_law_script", "_law_k"] [] (spD K fun ds d => ∃ (ns : List Int) (k : Nat), ds = [.seq (ns.map D.int), nI k] ∧ d = .int (ns.getD k 0)) := by
  obtain ⟨fd, F⟩ := F_law_cell_at T
  refine mkC F (g_law_cell_at T) sc_law_cell_at (fun _ _ _ _ _ _ us hl => match us, hl with | [_, _], _ => rfl) (fun ds d h => ?_) fun cdv A outer s H E ds d hr h => ?_
  · obtain ⟨ns, k, rfl, rfl⟩ := h
    rfl
  · obtain ⟨ns, k, rfl, rfl⟩ := h
    refine ds_if (dt_lt (nm 1) (len_S (b_len T) (nm 0))) (fun hb => ?_) fun hb => ds_nil ?_
    · have hl : k < ns.length := by have := of_decide_eq_true hb; rw [List.length_map] at this; omega
      exact ds_ret (de_ixS (nm 0) (nm 1) (at_map 0 hl)) rfl
    · have hl : ¬ k < ns.length := by have := of_decide_eq_false hb; rw [List.length_map] at this; omega
      refine ds_ret de_int ?_
      rw [List.getD_eq_getElem?_getD, List.getElem?_eq_none (by omega)]
      rfl
theorem c_mix (T : Prg K mg) : Cal P w K mg base 1 "_law_mix" ["_law_cell", "_law_k", "_law_turn"] [] (spD K fun ds d => ∃ (c : Int) (k t : Nat), k ≤ 1000 ∧ t < 8 ∧ ds = [.int c, nI k, nI t] ∧ d = nI (mixQ c k t)) := by
  obtain ⟨fd, F⟩ := F_law_mix T
  refine mkC F (g_law_mix T) sc_law_mix (fun _ _ _ _ _ _ us hl => match us, hl with | [_, _, _], _ => rfl) (fun ds d h => ?_) fun cdv A outer s H E ds d hr h => ?_
  · obtain ⟨c, k, t, _, _, rfl, rfl⟩ := h
    rfl
  · obtain ⟨c, k, t, hk, ht, rfl, rfl⟩ := h
    have nd := sc_law_mix.nd
    have pp := prime_pos t ht
    have kk : k * k ≤ 1000 * 1000 := Nat.mul_le_mul hk hk
    have cm := Int.emod_nonneg c (show (1000003 : Int) ≠ 0 by decide)
    have cm2 := Int.emod_lt_of_pos c (show (0 : Int) < 1000003 by decide)
    refine asg 3 nd (d := nI (primes.getD t 1)) (de_ixL (ds := primes.map nI) (do_lst (da_cons de_int (da_cons de_int (da_cons de_int (da_cons de_int (da_cons de_int (da_cons de_int (da_cons de_int (da_one de_int))))))))).see (nm 2) (at_map (f := nI) 1 ht)) ?_
    refine ds_ret (de_mod (de_mul (de_add (de_mod (nm 0) de_int (by decide)) de_int) (de_add (de_add (de_mul (nm 1) (nm 1) ?_) de_int) (de_mul de_int (nm 2) ?_)) ?_) (nm 3) (by omega)) ?_
    · exact cmul (n := 10) (m := 10) (by omega) (by omega) (by decide) (by decide) (by decide)
    · exact cmul (n := 13) (m := 4) (by decide) (by omega) (by decide) (by decide) (by decide)
    · refine cmul (n := 20) (m := 24) (by omega) ?_ (by decide) (by decide) (by decide)
      rw [mix_cast, Int.natAbs_natCast]
      omega
    · show D.int _ = D.int _
      rw [← mixQ_eq c k ht, ← mix_cast]
theorem c_part (T : Prg K mg) : Cal P w K mg base 1 "_law_part" ["_law_top", "_law_bottom"] [] (spD K S_fraction) := by
  obtain ⟨fd, F⟩ := F_law_part T
  refine mkC F (g_law_part T) sc_law_part (fun _ _ _ _ _ _ us hl => match us, hl with | [_, _], _ => rfl) (fun ds d h => ?_) fun cdv A outer s H E ds d hr h => ?_
  · obtain ⟨a, b, _, _, _, _, _, rfl, rfl⟩ := h
    rfl
  · obtain ⟨t, b, n, hb, n0, n9, hb2, rfl, rfl⟩ := h
    have nd := sc_law_part.nd
    have hg := gcd_pos (t := t) hb
    have hgb : (Int.gcd t b : Int).natAbs < 2 ^ n := by
      refine Nat.lt_of_le_of_lt ?_ hb2
      rw [Int.natAbs_natCast]
      exact Nat.le_of_dvd (by omega) (Nat.gcd_dvd_right ..)
    have cd : ∀ i : Int, CDivW i (Int.gcd t b : Nat) := fun i => wide_div (by omega) hgb n0 (by omega)
    refine asg 2 nd (abs_ (b_abs T) (nm 0)) (asg 3 nd (d := nI b.natAbs) (de_is (nm 1) (congrArg D.int (show b = ((b.natAbs : Nat) : Int) by omega))) ?_)
    refine whl (fun m ρ' => ∃ h x, Nat.gcd h m = Int.gcd t b ∧ ρ' = [some (.val (.int t)), some (.val (.int b)), some (.val (nI h)), some (.val (nI m)), x]) b.natAbs ⟨t.natAbs, none, rfl, rfl⟩ ?_
    rintro m ρ' ⟨h, x, hg2, rfl⟩
    refine ⟨_, dt_gt (nm 3) de_int, fun h1 => ?_, fun h1 => ?_⟩
    · have h2 : 0 < m := by have := of_decide_eq_true h1; omega
      refine asg 4 nd (de_mod (nm 2) (nm 3) (by omega)) (asg 2 nd (nm 3) (asg 3 nd (nm 4) (ds_nil ⟨h % m, Nat.mod_lt _ h2, m, some (.val (nI (h % m))), ?_, rfl⟩)))
      rw [← hg2, Nat.gcd_comm m, ← Nat.gcd_rec, Nat.gcd_comm]
    · have h2 : m = 0 := by have := of_decide_eq_false h1; omega
      subst h2
      rw [Nat.gcd_zero_right] at hg2
      subst hg2
      exact ds_ret (de_tup (da_cons (de_div (nm 0) (nm 2) (cd t)) (da_one (de_div (nm 1) (nm 2) (cd b))))) rfl
theorem c_scale (T : Prg K mg) : Cal P w K mg base 1 "_law_scale" ["_law_cell"] [] (spD K fun ds d => ∃ c : Int, ds = [.int c] ∧ d = eScl (scaleQ c)) := by
  obtain ⟨fd, F⟩ := F_law_scale T
  refine mkC F (g_law_scale T) sc_law_scale (fun _ _ _ _ _ _ us hl => match us, hl with | [_], _ => rfl) (fun ds d h => ?_) fun cdv A outer s H E ds d hr h => ?_
  · obtain ⟨c, rfl, rfl⟩ := h
    rfl
  · obtain ⟨c, rfl, rfl⟩ := h
    have nd := sc_law_scale.nd
    obtain ⟨f1, f2⟩ := far_pos c
    have dv : ∀ (i j : Int), 0 < j → j ≤ 17 → CDivW i j := fun i j h1 h2 => wide_div (b := 5) h1 (by omega) (by decide) (by decide)
    refine asg 1 nd (d := .int 10000) (de_is (de_pow de_int de_int ⟨by decide, by decide, by decide⟩) rfl) ?_
    refine ifset 1 nd (d1 := .int 1000000000) (d := .int (farQ c)) (dt_eq (de_mod (nm 0) de_int (by decide)) de_int) (fun _ => de_is (de_pow de_int de_int ⟨by decide, by decide, by decide⟩) rfl) ?_ ?_
    · unfold farQ
      by_cases q : c % 8 = 5
      · rw [if_pos (decide_eq_true q), if_pos q]
      · rw [if_neg (by rw [decide_eq_false q]; exact Bool.false_ne_true), if_neg q]
    refine ds_ret (de_tup (da_cons (de_add de_int (de_mod (de_div (nm 0) de_int (dv _ _ (by decide) (by decide))) (nm 1) f1)) (da_cons (de_add de_int (de_mod (de_div (nm 0) de_int (dv _ _ (by decide) (by decide))) (nm 1) f1)) (da_cons (de_sub (de_mod (de_div (nm 0) de_int (dv _ _ (by decide) (by decide))) (de_add (de_mul de_int (nm 1) ?_) de_int) ?_) (nm 1)) (da_one (de_add de_int (de_mod (de_div (nm 0) de_int (dv _ _ (by decide) (by decide))) (nm 1) f1))))))) rfl
    · exact cmul (n := 2) (m := 31) (by decide) (by omega) (by decide) (by decide) (by decide)
    · omega
theorem warm_sm {t : Int} {s : Scl} (o : SclOk s) (ht : t.natAbs < 2 ^ 20) : Sm 100 (warmQ_ t s) := by
  have ha : s.a.natAbs < 2 ^ 30 := by have := o.a0; have := o.a1; omega
  have hb : s.b.natAbs < 2 ^ 30 := by have := o.b0; have := o.b1; omega
  have hc : s.c.natAbs < 2 ^ 30 := by have := o.c0; have := o.c1; omega
  have he : s.e.natAbs < 2 ^ 30 := by have := o.e0; have := o.e1; omega
  refine frQ_sm (Int.mul_pos o.b0 o.e0) ?_ (lt_more (lt_mul hb he) (by decide))
  exact lt_more (lt_add (lt_mul (lt_mul ht ha) he) (lt_more (lt_mul hc hb) (by decide))) (by decide)
theorem c_warm (T : Prg K mg) : Cal P w K mg base 2 "_law_warm" ["_law_steps", "_law_scale_here"] [] (spD K fun ds d => ∃ (t : Int) (s : Scl), SclOk s ∧ t.natAbs < 2 ^ 20 ∧ ds = [.int t, eScl s] ∧ d = eQ (warmQ_ t s)) := by
  obtain ⟨fd, F⟩ := F_law_warm T
  refine mkC F (g_law_warm T) sc_law_warm (fun _ _ _ _ _ _ us hl => match us, hl with | [_, _], _ => rfl) (fun ds d h => ?_) fun cdv A outer s H E ds d hr h => ?_
  · obtain ⟨t, s, _, _, rfl, rfl⟩ := h
    rfl
  · obtain ⟨t, s, o, ht, rfl, rfl⟩ := h
    have nd := sc_law_warm.nd
    have ha : s.a.natAbs < 2 ^ 30 := by have := o.a0; have := o.a1; omega
    have hb : s.b.natAbs < 2 ^ 30 := by have := o.b0; have := o.b1; omega
    have hc : s.c.natAbs < 2 ^ 30 := by have := o.c0; have := o.c1; omega
    have he : s.e.natAbs < 2 ^ 30 := by have := o.e0; have := o.e1; omega
    have i0 : ∀ {X : Cx} {ρ : Rho} {e : Expr} {pos p : Pos} {j : Nat} {k : Int} {d : D}, atI [D.int s.a, .int s.b, .int s.c, .int s.e] k = some d → DE X ρ e (eScl s) → PlainIx (.Constant (.int k) j p) → DE X ρ (.Subscript e (.Constant (.int k) j p) pos) d := fun hk a hs => de_ixT a de_int hk hs
    refine ds_ret (call (c_part T) hr (da_cons (de_add (de_mul (de_mul (nm 0) (i0 (d := .int s.a) rfl (nm 1) (by intro _ _; rfl)) ?_) (i0 (d := .int s.e) rfl (nm 1) (by intro _ _; rfl)) ?_) (de_mul (i0 (d := .int s.c) rfl (nm 1) (by intro _ _; rfl)) (i0 (d := .int s.b) rfl (nm 1) (by intro _ _; rfl)) ?_)) (da_one (de_mul (i0 (d := .int s.b) rfl (nm 1) (by intro _ _; rfl)) (i0 (d := .int s.e) rfl (nm 1) (by intro _ _; rfl)) ?_))) ⟨_, _, 60, Int.mul_pos o.b0 o.e0, by decide, by decide, lt_mul hb he, rfl, rfl⟩) rfl
    · exact cmul ht ha (by decide) (by decide) (by decide)
    · exact cmul (lt_mul ht ha) he (by decide) (by decide) (by decide)
    · exact cmul hc hb (by decide) (by decide) (by decide)
    · exact cmul hb he (by decide) (by decide) (by decide)
theorem c_no_less (T : Prg K mg) : Cal P w K mg base 1 "_law_no_less" ["_law_one", "_law_other"] [] (spD K fun ds d => ∃ r q : Option Nat, ds = [eON r, eON q] ∧ d = .bl (noLess r q)) := by
  obtain ⟨fd, F⟩ := F_law_no_less T
  refine mkC F (g_law_no_less T) sc_law_no_less (fun _ _ _ _ _ _ us hl => match us, hl with | [_, _], _ => rfl) (fun ds d h => ?_) fun cdv A outer s H E ds d hr h => ?_
  · obtain ⟨r, q, rfl, rfl⟩ := h
    rfl
  · obtain ⟨r, q, rfl, rfl⟩ := h
    cases q with
    | none => exact ds_take (dt_isN (d := .non) (nm 1) de_non) rfl (ds_ret de_bl rfl)
    | some m =>
      refine ds_skip (dt_isN (d := nI m) (nm 1) de_non) rfl ?_
      cases r with
      | none => exact ds_ret (de_is (de_and (c := false) (de_is (de_notN (d := .non) (nm 0) de_non) rfl) fun (z : false = true) => (Bool.noConfusion z : DE _ _ _ (.bl true))) rfl) rfl
      | some n => 
        refine ds_ret (de_and (c := true) (de_is (de_notN (d := nI n) (nm 0) de_non) rfl) fun _ => de_one (de_ge (nm 1) (nm 0))) ?_
        show D.bl _ = D.bl _
        congr 1
        show (true && decide ((n : Int) ≤ (m : Int))) = decide (n ≤ m)
        rw [Bool.true_and]
        exact decide_eq_decide.mpr (by omega)
end
end SK
set_option maxRecDepth 100000
set_option maxHeartbeats 4000000
namespace SK
open PySem L2 PyProof.Rows
/-! The rooms that a script lays, by steps. -/
structure StL where
  heat : Int
  wood : Int
  stay : Int
  fails : Int
structure RmL where
  marks : List Int
  share : Int
  low : Int
  high : Int
  stove : Option StL
def m_ (c : Int) (k t : Nat) : Int := (mixQ c k t : Nat)
def lastL (l : List Int) : Int := l.getD (l.length - 1) 0
def nextL (c : Int) (k : Nat) (l : List Int) (j : Nat) : List Int := l ++ [lastL l + 6 + m_ c (k + 3 * j) 2 % 9]
def marksL (c : Int) (k n : Nat) : List Int := (List.range n).foldl (nextL c k) [m_ c 0 0 % 61 - 30]
def manyL (c : Int) (k bands : Nat) : Nat := (1 + m_ c k 1 % (bands : Int)).toNat
def belowL (c : Int) (k : Nat) : Int := max 0 (m_ c k 3 % 18 - 5)
def shareL (c : Int) (k : Nat) : Int := 1 + m_ c k 3 / 18 % 3
def firstL (c : Int) : Int := m_ c 0 0 % 61 - 30
def highL (c : Int) (k : Nat) (l : List Int) : Int := max (firstL c - belowL c k) (lastL l - m_ c k 4 % 9 + (if decide (m_ c k 4 / 9 % 7 = 0) = true then 1 else 0))
def heatL (c : Int) (k : Nat) : Int := if decide (m_ c k 5 / 3 % 4 = 0) = true then m_ c k 5 / 12 % 9 else (shareL c k * belowL c k + 11) / 12 + m_ c k 5 % 3
def stove1 (c : Int) (k : Nat) : StL := ⟨heatL c k, m_ c k 6 % 3, m_ c k 6 / 3 % 3, m_ c k 7 % 2⟩
def stove2 (c : Int) (k many : Nat) : StL := if decide ((1 : Int) < (many : Int)) = true then ⟨heatL c k, (stove1 c k).wood % 2, (stove1 c k).stay % 2 * (if decide ((many : Int) = 2) = true then 1 else 0), (stove1 c k).fails * (if (decide ((many : Int) = 2) && decide ((k : Int) = 0)) = true then 1 else 0)⟩ else stove1 c k
def stoveL (c : Int) (k many : Nat) : Option StL := if decide (m_ c k 7 / 2 % 7 = 0) = true then none else some (stove2 c k many)
def roomL (c : Int) (many bands k : Nat) : RmL := ⟨marksL c k (manyL c k bands), shareL c k, firstL c - belowL c k, highL c k (marksL c k (manyL c k bands)), stoveL c k many⟩
def roomsL (c : Int) (many bands : Nat) : List RmL := (List.range many).map (roomL c many bands)
def eStL : Option StL → D
  | none => .non
  | some s => .tup [.int s.heat, .int s.wood, .int s.stay, .int s.fails]
def eMk (l : List Int) : D := .lst (l.map D.int)
def eRm (r : RmL) : D := .tup [eMk r.marks, .int r.share, .int r.low, .int r.high, eStL r.stove]
def eRms (l : List RmL) : D := .lst (l.map eRm)
theorem m_lt (c : Int) (k : Nat) {t : Nat} (ht : t < 8) : 0 ≤ m_ c k t ∧ m_ c k t < 65538 := by
  have := mixQ_lt c k ht
  unfold m_
  omega
theorem marks_len (c : Int) (k : Nat) : ∀ n, (marksL c k n).length = n + 1
  | 0 => rfl
  | n + 1 => by
    have ih := marks_len c k n
    unfold marksL at ih ⊢
    rw [List.range_succ, List.foldl_append]
    show (_ ++ [_]).length = _
    rw [List.length_append, ih]
    rfl
theorem marks_next (c : Int) (k n : Nat) : marksL c k (n + 1) = nextL c k (marksL c k n) n := by
  unfold marksL
  rw [List.range_succ, List.foldl_append]
  rfl
theorem marks_first (c : Int) (k : Nat) : ∀ n, (marksL c k n).getD 0 0 = firstL c
  | 0 => rfl
  | n + 1 => by
    rw [marks_next, nextL, List.getD_eq_getElem?_getD, List.getElem?_append_left (by rw [marks_len]; omega), ← List.getD_eq_getElem?_getD]
    exact marks_first c k n
section
variable {P : Program} {w : World} {K : PySem.W.Frag} {mg : Str → Option Value} {base : Heap}
theorem c_rooms (T : Prg K mg) : Cal P w K mg base 2 "_law_rooms" ["_law_cell", "_law_many", "_law_bands"] [] (spD K fun ds d => ∃ (c : Int) (many bands : Nat), many ≤ 2 ∧ 0 < bands ∧ bands ≤ 3 ∧ ds = [.int c, nI many, nI bands] ∧ d = eRms (roomsL c many bands)) := by
  obtain ⟨fd, F⟩ := F_law_rooms T
  refine mkC F (g_law_rooms T) sc_law_rooms (fun _ _ _ _ _ _ us hl => match us, hl with | [_, _, _], _ => rfl) (fun ds d h => ?_) fun cdv A outer s H E ds d hr h => ?_
  · obtain ⟨c, many, bands, _, _, _, rfl, rfl⟩ := h
    rfl
  · obtain ⟨c, many, bands, hm, b0, b3, rfl, rfl⟩ := h
    have nd := sc_law_rooms.nd
    have dv : ∀ (i j : Int), 0 < j → j ≤ 18 → CDivW i j := fun i j h1 h2 => wide_div (b := 5) h1 (by omega) (by decide) (by decide)
    refine own 3 nd (do_lst da_nil) ?_
    refine forR 4 nd (b_range T) (nm 1) (by omega) (fun i ρ' => ∃ b4 b6 b7 b8 b9 b10 b11 b12 : Option D_, ∃ b5, (b5 = none ∨ ∃ d, b5 = some (Bd.val d)) ∧ ρ' = [some (.val (.int c)), some (.val (nI many)), some (.val (nI bands)), some (.own (((List.range i).map (roomL c many bands)).map eRm)), Option.map Bd.val b4, b5, Option.map Bd.val b6, Option.map Bd.val b7, Option.map Bd.val b8, Option.map Bd.val b9, Option.map Bd.val b10, Option.map Bd.val b11, Option.map Bd.val b12]) ⟨none, none, none, none, none, none, none, none, none, .inl rfl, rfl⟩ ?_ ?_
    · rintro k ρ' hk' ⟨b4, b6, b7, b8, b9, b10, b11, b12, b5, hb5, rfl⟩
      have hk2 : k < many := by omega
      have hk : k ≤ 1000 := by omega
      have e5 : (1 + m_ c k 1 % (bands : Int)) = ((manyL c k bands : Nat) : Int) := by
        unfold manyL
        have := Int.emod_nonneg (m_ c k 1) (show (bands : Int) ≠ 0 by omega)
        omega
      have hml : manyL c k bands ≤ 3 := by
        have := Int.emod_lt_of_pos (m_ c k 1) (show (0 : Int) < (bands : Int) by omega)
        omega
      have nj : noJel [some (Bd.val (.int c)), some (.val (nI many)), some (.val (nI bands)), some (.own (((List.range k).map (roomL c many bands)).map eRm)), some (.val (nI k)), b5, Option.map Bd.val b6, Option.map Bd.val b7, Option.map Bd.val b8, Option.map Bd.val b9, Option.map Bd.val b10, Option.map Bd.val b11, Option.map Bd.val b12] = true := by
        rcases hb5 with z | ⟨d, z⟩ <;> subst z <;> cases b6 <;> cases b7 <;> cases b8 <;> cases b9 <;> cases b10 <;> cases b11 <;> cases b12 <;> rfl
      refine own 5 nd (ds := [D.int (firstL c)]) (do_lst (da_one (de_sub (de_mod (call (c_mix T) hr (da_cons (nm 0) (da_cons de_int (da_one de_int))) ⟨c, 0, 0, by decide, by decide, rfl, rfl⟩) de_int (by decide)) de_int))) ?_ (hj := nj)
      refine forR 6 nd (b_range T) (n := 1 + m_ c k 1 % (bands : Int)) (de_add de_int (de_mod (call (c_mix T) hr (da_cons (nm 0) (da_cons (nm 4) (da_one de_int))) ⟨c, k, 1, hk, by decide, rfl, rfl⟩) (nm 2) (by omega))) (by omega) (fun j ρ' => ∃ b6 : Option D_, ρ' = [some (.val (.int c)), some (.val (nI many)), some (.val (nI bands)), some (.own (((List.range k).map (roomL c many bands)).map eRm)), some (.val (nI k)), some (.own ((marksL c k j).map D.int)), Option.map Bd.val b6, Option.map Bd.val b7, Option.map Bd.val b8, Option.map Bd.val b9, Option.map Bd.val b10, Option.map Bd.val b11, Option.map Bd.val b12]) ⟨b6, rfl⟩ ?_ ?_
      · rintro j ρ' hj' ⟨b6, rfl⟩
        rw [e5, Int.toNat_natCast] at hj'
        have hl := marks_len c k j
        refine app 5 (ds := (marksL c k j).map D.int) (d := .int (lastL (marksL c k j) + 6 + m_ c (k + 3 * j) 2 % 9)) (de_add (de_add (ix_O 5 (de_neg de_int) (at_last (f := D.int) 0 (by omega))) de_int) (de_mod (call (c_mix T) hr (da_cons (nm 0) (da_cons (de_is (d := nI (k + 3 * j)) (de_add (nm 4) (de_mul de_int (nm 6) (cmul (n := 2) (m := 10) (by decide) (by omega) (by decide) (by decide) (by decide)))) rfl) (da_one de_int))) ⟨c, k + 3 * j, 2, by omega, by decide, rfl, rfl⟩) de_int (by decide))) ?_ ?_
        · rw [List.length_map, hl]
          exact small1000 (by omega)
        · refine ds_nil ⟨some (nI j), ?_⟩
          rw [marks_next, nextL, List.map_append]
          rfl
      · rintro ρ' ⟨b6, rfl⟩
        rw [e5, Int.toNat_natCast]
        have hl := marks_len c k (manyL c k bands)
        refine frz 5 ?_
        refine asg 7 nd (d := .int (belowL c k)) (max_ (b_max T) de_int (de_sub (de_mod (call (c_mix T) hr (da_cons (nm 0) (da_cons (nm 4) (da_one de_int))) ⟨c, k, 3, hk, by decide, rfl, rfl⟩) de_int (by decide)) de_int)) ?_
        refine asg 8 nd (d := .int (shareL c k)) (de_add de_int (de_mod (de_div (call (c_mix T) hr (da_cons (nm 0) (da_cons (nm 4) (da_one de_int))) ⟨c, k, 3, hk, by decide, rfl, rfl⟩) de_int (dv _ _ (by decide) (by decide))) de_int (by decide))) ?_
        refine asg 9 nd (d := .int (firstL c - belowL c k)) (de_sub (de_is (de_ixL (nm 5) de_int (at_map (f := D.int) 0 (show 0 < (marksL c k (manyL c k bands)).length by omega))) (by rw [marks_first])) (nm 7)) ?_
        refine asg 10 nd (d := .int (highL c k (marksL c k (manyL c k bands)))) (max_ (b_max T) (nm 9) (de_add (de_sub (de_ixL (nm 5) (de_neg de_int) (at_last (f := D.int) 0 (by omega))) (de_mod (call (c_mix T) hr (da_cons (nm 0) (da_cons (nm 4) (da_one de_int))) ⟨c, k, 4, hk, by decide, rfl, rfl⟩) de_int (by decide))) (int_B (b_int T) (de_eq (de_mod (de_div (call (c_mix T) hr (da_cons (nm 0) (da_cons (nm 4) (da_one de_int))) ⟨c, k, 4, hk, by decide, rfl, rfl⟩) de_int (dv _ _ (by decide) (by decide))) de_int (by decide)) de_int)))) ?_
        have q3 := m_lt c k (show 3 < 8 by decide)
        have q18 := Int.emod_lt_of_pos (m_ c k 3) (show (0 : Int) < 18 by decide)
        have qs := Int.emod_lt_of_pos (m_ c k 3 / 18) (show (0 : Int) < 3 by decide)
        have qs0 := Int.emod_nonneg (m_ c k 3 / 18) (show (3 : Int) ≠ 0 by decide)
        refine asg 11 nd (d := .int ((shareL c k * belowL c k + 11) / 12 + m_ c k 5 % 3)) (de_add (de_div (de_add (de_mul (nm 8) (nm 7) ?_) de_int) de_int (dv _ _ (by decide) (by decide))) (de_mod (call (c_mix T) hr (da_cons (nm 0) (da_cons (nm 4) (da_one de_int))) ⟨c, k, 5, hk, by decide, rfl, rfl⟩) de_int (by decide))) ?_
        · exact cmul (n := 3) (m := 5) (by unfold shareL; omega) (by unfold belowL; omega) (by decide) (by decide) (by decide)
        refine ifset 11 nd (d0 := .int ((shareL c k * belowL c k + 11) / 12 + m_ c k 5 % 3)) (d1 := .int (m_ c k 5 / 12 % 9)) (d := .int (heatL c k)) (dt_eq (de_mod (de_div (call (c_mix T) hr (da_cons (nm 0) (da_cons (nm 4) (da_one de_int))) ⟨c, k, 5, hk, by decide, rfl, rfl⟩) de_int (dv _ _ (by decide) (by decide))) de_int (by decide)) de_int) (fun _ => de_mod (de_div (call (c_mix T) hr (da_cons (nm 0) (da_cons (nm 4) (da_one de_int))) ⟨c, k, 5, hk, by decide, rfl, rfl⟩) de_int (dv _ _ (by decide) (by decide))) de_int (by decide)) (by unfold heatL; exact (apply_ite D.int _ _ _).symm) ?_
        refine asg 12 nd (d := eStL (some (stove1 c k))) (de_tup (da_cons (nm 11) (da_cons (de_mod (call (c_mix T) hr (da_cons (nm 0) (da_cons (nm 4) (da_one de_int))) ⟨c, k, 6, hk, by decide, rfl, rfl⟩) de_int (by decide)) (da_cons (de_mod (de_div (call (c_mix T) hr (da_cons (nm 0) (da_cons (nm 4) (da_one de_int))) ⟨c, k, 6, hk, by decide, rfl, rfl⟩) de_int (dv _ _ (by decide) (by decide))) de_int (by decide)) (da_one (de_mod (call (c_mix T) hr (da_cons (nm 0) (da_cons (nm 4) (da_one de_int))) ⟨c, k, 7, hk, by decide, rfl, rfl⟩) de_int (by decide))))))) ?_
        have i0 : ∀ {X : Cx} {ρ : Rho} {e : Expr} {pos p : Pos} {j : Nat} {i : Int} {d : D}, atI [D.int (stove1 c k).heat, .int (stove1 c k).wood, .int (stove1 c k).stay, .int (stove1 c k).fails] i = some d → DE X ρ e (eStL (some (stove1 c k))) → PlainIx (.Constant (.int i) j p) → DE X ρ (.Subscript e (.Constant (.int i) j p) pos) d := fun hk a hs => de_ixT a de_int hk hs
        have s6 := Int.emod_lt_of_pos (m_ c k 6 / 3) (show (0 : Int) < 3 by decide)
        have s60 := Int.emod_nonneg (m_ c k 6 / 3) (show (3 : Int) ≠ 0 by decide)
        have s7 := Int.emod_lt_of_pos (m_ c k 7) (show (0 : Int) < 2 by decide)
        have s70 := Int.emod_nonneg (m_ c k 7) (show (2 : Int) ≠ 0 by decide)
        have ess : (stove1 c k).stay = m_ c k 6 / 3 % 3 := rfl
        have esf : (stove1 c k).fails = m_ c k 7 % 2 := rfl
        refine ifset 12 nd (d0 := eStL (some (stove1 c k))) (d1 := .tup [.int (heatL c k), .int ((stove1 c k).wood % 2), .int ((stove1 c k).stay % 2 * (if decide ((many : Int) = 2) = true then 1 else 0)), .int ((stove1 c k).fails * (if (decide ((many : Int) = 2) && decide ((k : Int) = 0)) = true then 1 else 0))]) (d := eStL (some (stove2 c k many))) (dt_gt (nm 1) de_int) (fun _ => de_tup (da_cons (nm 11) (da_cons (de_mod (i0 (d := .int (stove1 c k).wood) rfl (nm 12) (by intro _ _; rfl)) de_int (by decide)) (da_cons (de_mul (de_mod (i0 (d := .int (stove1 c k).stay) rfl (nm 12) (by intro _ _; rfl)) de_int (by decide)) (int_B (b_int T) (de_eq (nm 1) de_int)) ?_) (da_one (de_mul (i0 (d := .int (stove1 c k).fails) rfl (nm 12) (by intro _ _; rfl)) (int_B (b_int T) (de_and (de_eq (nm 1) de_int) fun _ => de_one (de_eq (nm 4) de_int))) ?_)))))) ?_ ?_
        · exact cmul (n := 2) (m := 2) (by have := Int.emod_lt_of_pos (stove1 c k).stay (show (0 : Int) < 2 by decide); have := Int.emod_nonneg (stove1 c k).stay (show (2 : Int) ≠ 0 by decide); omega) (by split <;> decide) (by decide) (by decide) (by decide)
        · exact cmul (n := 2) (m := 2) (by omega) (by split <;> decide) (by decide) (by decide) (by decide)
        · unfold stove2
          split <;> rfl
        refine ifset 12 nd (d0 := eStL (some (stove2 c k many))) (d1 := .non) (d := eStL (stoveL c k many)) (dt_eq (de_mod (de_div (call (c_mix T) hr (da_cons (nm 0) (da_cons (nm 4) (da_one de_int))) ⟨c, k, 7, hk, by decide, rfl, rfl⟩) de_int (dv _ _ (by decide) (by decide))) de_int (by decide)) de_int) (fun _ => de_non) (by unfold stoveL; exact (apply_ite eStL _ none (some (stove2 c k many))).symm) ?_
        refine app 3 (ds := ((List.range k).map (roomL c many bands)).map eRm) (d := eRm (roomL c many bands k)) (de_tup (da_cons (nm 5) (da_cons (nm 8) (da_cons (nm 9) (da_cons (nm 10) (da_one (nm 12))))))) ?_ ?_
        · rw [List.length_map, List.length_map, List.length_range]
          exact small1000 (by omega)
        · refine ds_nil ⟨some (nI k), b6, some (.int (belowL c k)), some (.int (shareL c k)), some (.int (firstL c - belowL c k)), some (.int (highL c k (marksL c k (manyL c k bands)))), some (.int (heatL c k)), some (eStL (stoveL c k many)), some (Bd.val (eMk (marksL c k (manyL c k bands)))), .inr ⟨_, rfl⟩, ?_⟩
          rw [map_next, List.map_append]
          rfl
    · rintro ρ' ⟨b4, b6, b7, b8, b9, b10, b11, b12, b5, hb5, rfl⟩
      rw [Int.toNat_natCast]
      refine frz 3 (ds_ret (nm 3) rfl)
end
end SK
/-! Plain Lean: the shares of the law's holds. -/
namespace SK
def S12 : List Q := [(0, 1), (1, 12), (1, 6), (1, 4)]
theorem share_in {k : Int} (h0 : 0 ≤ k) (h3 : k ≤ 3) : frQ k 12 ∈ S12 := by
  have : k = 0 ∨ k = 1 ∨ k = 2 ∨ k = 3 := by omega
  rcases this with rfl | rfl | rfl | rfl <;> decide +kernel
theorem s12_sm : ∀ q ∈ S12, 0 < q.2 ∧ q.1.natAbs < 2 ^ 4 ∧ q.2.natAbs < 2 ^ 4 := by decide +kernel
theorem s12_no : ∀ q ∈ S12, underQ q q00 = false := by decide +kernel
/-- one room: its sky's share is put -/
theorem put1_ok : ∀ q ∈ S12, underQ (1, 1) (plusQ (minusQ (plusQ q00 q00) q00) q) = false := by decide +kernel
/-- two rooms: the sky's share, then the other room's -/
theorem put2_ok : ∀ q ∈ S12, underQ (1, 1) (plusQ (minusQ (plusQ (plusQ q00 q00) q00) q00) q) = false := by decide +kernel
theorem put3_ok : ∀ q ∈ S12, ∀ f ∈ S12, underQ (1, 1) (plusQ (minusQ (plusQ (plusQ q q00) q00) q00) f) = false := by decide +kernel
/-- steps of the scale keep the order -/
theorem frQ_cross (t b : Int) (hb : 0 < b) : ∃ g : Int, 0 < g ∧ t = (frQ t b).1 * g ∧ b = (frQ t b).2 * g := by
  have hg := gcd_pos (t := t) hb
  refine ⟨(Int.gcd t b : Nat), by omega, ?_, ?_⟩
  · exact (Int.ediv_mul_cancel (Int.gcd_dvd_left ..)).symm
  · exact (Int.ediv_mul_cancel (Int.gcd_dvd_right ..)).symm
/-- comparing fractions with one bottom -/
theorem under_same {s t b : Int} (hb : 0 < b) : underQ (frQ s b) (frQ t b) = decide (s < t) := by
  obtain ⟨g, g0, e1, e2⟩ := frQ_cross s b hb
  obtain ⟨g', g0', e1', e2'⟩ := frQ_cross t b hb
  unfold underQ
  refine decide_eq_decide.mpr ?_
  have p2 : 0 < (frQ s b).2 := by
    rcases Int.lt_or_le 0 (frQ s b).2 with z | z
    · exact z
    · have := Int.mul_nonpos_of_nonpos_of_nonneg z (Int.le_of_lt g0)
      omega
  have p2' : 0 < (frQ t b).2 := by
    rcases Int.lt_or_le 0 (frQ t b).2 with z | z
    · exact z
    · have := Int.mul_nonpos_of_nonpos_of_nonneg z (Int.le_of_lt g0')
      omega
  generalize (frQ s b).1 = s1 at e1 ⊢
  generalize (frQ s b).2 = s2 at e2 p2 ⊢
  generalize (frQ t b).1 = t1 at e1' ⊢
  generalize (frQ t b).2 = t2 at e2' p2' ⊢
  have k1 : s * (t2 * g') = s1 * t2 * (g * g') := by rw [e1]; simp only [Int.mul_assoc, Int.mul_comm, Int.mul_left_comm]
  have k2 : t * (s2 * g) = t1 * s2 * (g * g') := by rw [e1']; simp only [Int.mul_assoc, Int.mul_comm, Int.mul_left_comm]
  rw [← e2'] at k1
  rw [← e2] at k2
  have gg : 0 < g * g' := Int.mul_pos g0 g0'
  constructor
  · intro z
    have : s1 * t2 * (g * g') < t1 * s2 * (g * g') := Int.mul_lt_mul_of_pos_right z gg
    rw [← k1, ← k2] at this
    exact Int.lt_of_mul_lt_mul_right this (Int.le_of_lt hb)
  · intro z
    have : s * b < t * b := Int.mul_lt_mul_of_pos_right z hb
    rw [k1, k2] at this
    exact Int.lt_of_mul_lt_mul_right this (Int.le_of_lt gg)
/-- a fraction that is not below nought -/
theorem under_zero {t b : Int} (hb : 0 < b) (ht : 0 ≤ t) : underQ (frQ t b) q00 = false := by
  have h := under_same (s := t) (t := 0) hb
  obtain ⟨g, g0, e1, e2⟩ := frQ_cross t b hb
  unfold underQ
  refine decide_eq_false fun z => ?_
  have z2 : (frQ t b).1 * 1 < 0 * (frQ t b).2 := z
  have : (frQ t b).1 < 0 := by omega
  have := Int.mul_neg_of_neg_of_pos this g0
  omega
end SK
set_option maxRecDepth 100000
set_option maxHeartbeats 4000000
namespace SK
open PySem L2 PyProof.Rows
theorem warm_under {s : Scl} (o : SclOk s) (t u : Int) : underQ (warmQ_ t s) (warmQ_ u s) = decide (t < u) := by
  unfold warmQ_
  rw [under_same (Int.mul_pos o.b0 o.e0)]
  refine decide_eq_decide.mpr ?_
  have hp : 0 < s.a * s.e := Int.mul_pos o.a0 o.e0
  have e1 : t * s.a * s.e = t * (s.a * s.e) := Int.mul_assoc ..
  have e2 : u * s.a * s.e = u * (s.a * s.e) := Int.mul_assoc ..
  rw [e1, e2]
  constructor
  · intro z
    have : t * (s.a * s.e) < u * (s.a * s.e) := by omega
    exact Int.lt_of_mul_lt_mul_right this (Int.le_of_lt hp)
  · intro z
    have := Int.mul_lt_mul_of_pos_right z hp
    omega
/-- the marks rise and stay small -/
theorem marks_rise (c : Int) (k : Nat) : ∀ n, n ≤ 3 → (∀ i, i + 1 < (marksL c k n).length → (marksL c k n).getD i 0 < (marksL c k n).getD (i + 1) 0) ∧ ∀ x ∈ marksL c k n, -30 ≤ x ∧ x ≤ 31 + 15 * (n : Int)
  | 0, _ => by
    have h1 := Int.emod_lt_of_pos (m_ c 0 0) (show (0 : Int) < 61 by decide)
    have h2 := Int.emod_nonneg (m_ c 0 0) (show (61 : Int) ≠ 0 by decide)
    refine ⟨fun i hi => ?_, fun x hx => ?_⟩
    · rw [marks_len] at hi
      omega
    · have : x = m_ c 0 0 % 61 - 30 := List.mem_singleton.mp hx
      omega
  | n + 1, hn => by
    obtain ⟨r1, r2⟩ := marks_rise c k n (by omega)
    have hl := marks_len c k n
    have h1 := Int.emod_lt_of_pos (m_ c (k + 3 * n) 2) (show (0 : Int) < 9 by decide)
    have h2 := Int.emod_nonneg (m_ c (k + 3 * n) 2) (show (9 : Int) ≠ 0 by decide)
    have hlast : lastL (marksL c k n) ∈ marksL c k n := getD_mem (by omega)
    have hb := r2 _ hlast
    rw [marks_next, nextL]
    refine ⟨fun i hi => ?_, fun x hx => ?_⟩
    · rw [List.length_append, hl] at hi
      simp only [List.length_cons, List.length_nil] at hi
      have ei : (marksL c k n ++ [lastL (marksL c k n) + 6 + m_ c (k + 3 * n) 2 % 9]).getD i 0 = (marksL c k n).getD i 0 := by
        rw [List.getD_eq_getElem?_getD, List.getElem?_append_left (by omega), ← List.getD_eq_getElem?_getD]
      rw [ei]
      by_cases q : i + 1 < n + 1
      · have ei2 : (marksL c k n ++ [lastL (marksL c k n) + 6 + m_ c (k + 3 * n) 2 % 9]).getD (i + 1) 0 = (marksL c k n).getD (i + 1) 0 := by
          rw [List.getD_eq_getElem?_getD, List.getElem?_append_left (by omega), ← List.getD_eq_getElem?_getD]
        rw [ei2]
        exact r1 i (by omega)
      · have e0 : i = n := by omega
        subst e0
        have ei2 : (marksL c k i ++ [lastL (marksL c k i) + 6 + m_ c (k + 3 * i) 2 % 9]).getD (i + 1) 0 = lastL (marksL c k i) + 6 + m_ c (k + 3 * i) 2 % 9 := by
          rw [List.getD_eq_getElem?_getD, List.getElem?_append_right (by omega), hl, Nat.sub_self]
          rfl
        rw [ei2]
        have : lastL (marksL c k i) = (marksL c k i).getD i 0 := by unfold lastL; rw [hl]; rfl
        omega
    · rcases List.mem_append.mp hx with z | z
      · have := r2 x z
        push_cast
        omega
      · rw [List.mem_singleton.mp z]
        push_cast
        omega
theorem rises_marks {s : Scl} (o : SclOk s) (c : Int) (k : Nat) {n : Nat} (h1 : 1 ≤ n) (h3 : n ≤ 3) : Rises ((marksL c k n).map (warmQ_ · s)) := by
  obtain ⟨r1, r2⟩ := marks_rise c k n h3
  have hl := marks_len c k n
  refine ⟨by rw [List.length_map, hl]; omega, by rw [List.length_map, hl]; omega, fun q hq => ?_, fun i hi => ?_⟩
  · obtain ⟨x, hx, rfl⟩ := List.mem_map.mp hq
    have := r2 x hx
    exact warm_sm o (by omega)
  · rw [List.length_map] at hi
    have e : ∀ j, j < (marksL c k n).length → ((marksL c k n).map (warmQ_ · s)).getD j q00 = warmQ_ ((marksL c k n).getD j 0) s := fun j hj => by
      rw [List.getD_eq_getElem?_getD, List.getElem?_map, List.getElem?_eq_getElem hj, List.getD_eq_getElem?_getD, List.getElem?_eq_getElem hj]
      rfl
    rw [e i (by omega), e (i + 1) hi, warm_under o]
    exact decide_eq_true (r1 i hi)
end SK
set_option maxRecDepth 100000
set_option maxHeartbeats 4000000
namespace SK
open PySem L2 PyProof.Rows
structure RoomOk (m : List Q) (sk : Q × Q × Q) (st : Option Stv) : Prop where
  mk_ : Rises m
  sh : sk.1 ∈ S12
  s1 : Sm 100 sk.2.1
  s2 : Sm 100 sk.2.2
  su : underQ sk.2.2 sk.2.1 = false
  st : ∀ s, st = some s → Sm 100 s.heat ∧ underQ s.heat q00 = false ∧ s.wood ≤ 9 ∧ s.stay ≤ 3 ∧ s.fails ≤ 3
theorem sm4 {q : Q} (h : q ∈ S12) : Sm 100 q := by
  obtain ⟨a, b, c⟩ := s12_sm q h
  exact ⟨a, Nat.lt_of_lt_of_le b (Nat.pow_le_pow_right (by decide) (by decide)), Nat.lt_of_lt_of_le c (Nat.pow_le_pow_right (by decide) (by decide))⟩
def H1_ (n c l : Nat) (m : List Q) (sk : Q × Q × Q) (st : Option Stv) : HoldM := ⟨n, c, l, [m], [[q00]], [sk], [st]⟩
def H2_ (n c l : Nat) (m0 m1 : List Q) (f0 f1 : Q) (k0 k1 : Q × Q × Q) (t0 t1 : Option Stv) : HoldM := ⟨n, c, l, [m0, m1], [[q00, f0], [f1, q00]], [k0, k1], [t0, t1]⟩
theorem wf1 {n c l : Nat} {m : List Q} {sk : Q × Q × Q} {st : Option Stv} (r : RoomOk m sk st) (hn : n ≤ 4) (hc : c ≤ 30) (hl : l ≤ 30) : WF (H1_ n c l m sk st) where
  one := Nat.le_refl 1
  few := by show 1 ≤ 2; decide
  fl := rfl
  flr := fun k hk => by
    have hk' : k < 1 := hk
    obtain rfl : k = 0 := by omega
    rfl
  sk := rfl
  st := rfl
  mks := fun k hk => by
    have hk' : k < 1 := hk
    obtain rfl : k = 0 := by omega
    exact ⟨r.mk_.1, r.mk_.2.1⟩
  qm := fun k hk => by
    have hk' : k < 1 := hk
    obtain rfl : k = 0 := by omega
    exact r.mk_.2.2.1
  qf := fun k hk q hq => by
    have hk' : k < 1 := hk
    obtain rfl : k = 0 := by omega
    rw [List.mem_singleton.mp (show q ∈ [q00] from hq)]
    exact q00_sm
  qs := fun k hk => by
    have hk' : k < 1 := hk
    obtain rfl : k = 0 := by omega
    exact ⟨sm4 r.sh, r.s1, r.s2⟩
  qt := fun k s hs => by
    cases k with
    | zero => exact let ⟨a, _, b⟩ := r.st s hs; ⟨a, b⟩
    | succ k => cases hs
  bd := ⟨hn, hc, hl⟩
theorem like1 {n c l n' c' l' : Nat} {m : List Q} {sk : Q × Q × Q} {st : Option Stv} : likeQ (H1_ n c l m sk st) n' c' l' = H1_ n' c' l' m sk st := by
  cases st <;> rfl
theorem like2 {n c l n' c' l' : Nat} {m0 m1 : List Q} {f0 f1 : Q} {k0 k1 : Q × Q × Q} {t0 t1 : Option Stv} : likeQ (H2_ n c l m0 m1 f0 f1 k0 k1 t0 t1) n' c' l' = H2_ n' c' l' m0 m1 f0 f1 k0 k1 t0 t1 := by
  cases t0 <;> cases t1 <;> rfl
theorem wf2 {n c l : Nat} {m0 m1 : List Q} {f0 f1 : Q} {k0 k1 : Q × Q × Q} {t0 t1 : Option Stv} (r0 : RoomOk m0 k0 t0) (r1 : RoomOk m1 k1 t1) (g0 : f0 ∈ S12) (g1 : f1 ∈ S12) (hn : n ≤ 4) (hc : c ≤ 30) (hl : l ≤ 30) : WF (H2_ n c l m0 m1 f0 f1 k0 k1 t0 t1) := by
  have c2 : ∀ k, k < 2 → k = 0 ∨ k = 1 := fun k hk => by omega
  refine ⟨by show 1 ≤ 2; decide, Nat.le_refl 2, rfl, fun k hk => ?_, rfl, rfl, fun k hk => ?_, fun k hk => ?_, fun k hk q hq => ?_, fun k hk => ?_, fun k s hs => ?_, ⟨hn, hc, hl⟩⟩
  · rcases c2 k hk with rfl | rfl <;> rfl
  · rcases c2 k hk with rfl | rfl
    · exact ⟨r0.mk_.1, r0.mk_.2.1⟩
    · exact ⟨r1.mk_.1, r1.mk_.2.1⟩
  · rcases c2 k hk with rfl | rfl
    · exact r0.mk_.2.2.1
    · exact r1.mk_.2.2.1
  · rcases c2 k hk with rfl | rfl
    · rcases List.mem_cons.mp (show q ∈ [q00, f0] from hq) with rfl | z
      · exact q00_sm
      · rw [List.mem_singleton.mp z]; exact sm4 g0
    · rcases List.mem_cons.mp (show q ∈ [f1, q00] from hq) with rfl | z
      · exact sm4 g1
      · rw [List.mem_singleton.mp z]; exact q00_sm
  · rcases c2 k hk with rfl | rfl
    · exact ⟨sm4 r0.sh, r0.s1, r0.s2⟩
    · exact ⟨sm4 r1.sh, r1.s1, r1.s2⟩
  · match k with
    | 0 => exact let ⟨a, _, b⟩ := r0.st s hs; ⟨a, b⟩
    | 1 => exact let ⟨a, _, b⟩ := r1.st s hs; ⟨a, b⟩
    | k + 2 => cases hs
end SK
set_option maxRecDepth 100000
set_option maxHeartbeats 4000000
namespace SK
open PySem L2 PyProof.Rows
theorem likeok1 {n c l n' c' l' : Nat} {m : List Q} {sk : Q × Q × Q} {st : Option Stv} (r : RoomOk m sk st) (hn : n' ≤ 4) (hc : c' ≤ 30) (hl : l' ≤ 30) : LikeOk (H1_ n c l m sk st) n' c' l' where
  n4 := hn
  c30 := hc
  l30 := hl
  rm := fun i m' hm => by
    match i, hm with
    | 0, hm =>
      cases hm
      exact ⟨m, r.mk_, Nat.zero_le _, (fun x hx => by cases hx), Nat.zero_le _, (fun x hx => by cases hx), Nat.zero_le _, Nat.zero_le _, rfl, rfl, rfl⟩
    | i + 1, hm => cases hm
  sk := fun k g hk eg => by
    have hk' : k < 1 := hk
    obtain rfl : k = 0 := by omega
    subst eg
    refine ⟨0, sk, ⟨by show 0 < 1; decide, ⟨by show 0 < 1; decide, by show 0 < 1; decide, by show 1 ≤ 4; decide, fun q hq => ?_, q00_sm⟩, q00_sm, sm4 r.sh, s12_no _ r.sh, put1_ok _ r.sh⟩, r.s1, r.s2, r.su, rfl, rfl, rfl⟩
    rw [List.mem_singleton.mp (show q ∈ [q00] from hq)]
    exact q00_sm
  fl := fun k o g hk ho hne eg => by
    have hk' : k < 1 := hk
    have ho' : o < 1 := ho
    omega
  st := fun k g s hk hs eg => by
    have hk' : k < 1 := hk
    obtain rfl : k = 0 := by omega
    subst eg
    have hs' : st = some s := hs
    obtain ⟨a, b, d, e, f⟩ := r.st s hs'
    exact ⟨0, s, by show 0 < 1; decide, by show 0 < 1; decide, a, b, d, e, f, rfl, rfl, rfl⟩
theorem likeok2 {n c l n' c' l' : Nat} {m0 m1 : List Q} {f0 f1 : Q} {k0 k1 : Q × Q × Q} {t0 t1 : Option Stv} (r0 : RoomOk m0 k0 t0) (r1 : RoomOk m1 k1 t1) (g0 : f0 ∈ S12) (g1 : f1 ∈ S12) (hn : n' ≤ 4) (hc : c' ≤ 30) (hl : l' ≤ 30) : LikeOk (H2_ n c l m0 m1 f0 f1 k0 k1 t0 t1) n' c' l' := by
  have c2 : ∀ k, k < 2 → k = 0 ∨ k = 1 := fun k hk => by omega
  have two : ∀ q ∈ [q00, q00], Sm 100 q := fun q hq => by
    rcases List.mem_cons.mp hq with rfl | z
    · exact q00_sm
    · rw [List.mem_singleton.mp z]; exact q00_sm
  refine ⟨hn, hc, hl, fun i m' hm => ?_, fun k g hk eg => ?_, fun k o g hk ho hne eg => ?_, fun k g s hk hs eg => ?_⟩
  · match i, hm with
    | 0, hm =>
      cases hm
      exact ⟨m0, r0.mk_, Nat.zero_le _, (fun x hx => by cases hx), Nat.zero_le _, (fun x hx => by cases hx), Nat.zero_le _, Nat.zero_le _, rfl, rfl, rfl⟩
    | 1, hm =>
      cases hm
      exact ⟨m1, r1.mk_, Nat.le_refl _, (fun x hx => by rw [List.mem_singleton.mp (show x ∈ [m0] from hx)]; exact ⟨r0.mk_.1, r0.mk_.2.1⟩), Nat.le_refl _, (fun x hx => by rw [List.mem_singleton.mp (show x ∈ [[q00]] from hx)]; exact Nat.le_refl _), Nat.le_refl _, Nat.le_refl _, rfl, rfl, rfl⟩
    | i + 2, hm => cases hm
  · rcases c2 k hk with rfl | rfl
    · subst eg
      exact ⟨0, k0, ⟨by show 0 < 2; decide, ⟨by show 0 < 2; decide, by show 0 < 2; decide, by show 2 ≤ 4; decide, two, q00_sm⟩, q00_sm, sm4 r0.sh, s12_no _ r0.sh, put2_ok _ r0.sh⟩, r0.s1, r0.s2, r0.su, rfl, rfl, rfl⟩
    · subst eg
      cases t0 <;> exact ⟨1, k1, ⟨by show 1 < 2; decide, ⟨by show 1 < 2; decide, by show 1 < 2; decide, by show 2 ≤ 4; decide, two, q00_sm⟩, q00_sm, sm4 r1.sh, s12_no _ r1.sh, put2_ok _ r1.sh⟩, r1.s1, r1.s2, r1.su, rfl, rfl, rfl⟩
  · rcases c2 k hk with rfl | rfl
    · obtain rfl : o = 1 := by have ho' : o < 2 := ho; omega
      subst eg
      exact ⟨0, 1, f0, ⟨by show 0 < 2; decide, ⟨by show 0 < 2; decide, by show 0 < 2; decide, by show 2 ≤ 4; decide, two, sm4 r0.sh⟩, q00_sm, sm4 g0, s12_no _ g0, put3_ok _ r0.sh _ g0⟩, by show 1 < 2; decide, by show 1 < 2; decide, by decide, rfl, rfl, rfl⟩
    · obtain rfl : o = 0 := by have ho' : o < 2 := ho; omega
      subst eg
      cases t0 <;> exact ⟨1, 0, f1, ⟨by show 1 < 2; decide, ⟨by show 1 < 2; decide, by show 1 < 2; decide, by show 2 ≤ 4; decide, two, sm4 r1.sh⟩, q00_sm, sm4 g1, s12_no _ g1, put3_ok _ r1.sh _ g1⟩, by show 0 < 2; decide, by show 0 < 2; decide, by decide, rfl, rfl, rfl⟩
  · rcases c2 k hk with rfl | rfl
    · subst eg
      obtain ⟨a, b, d, e, f⟩ := r0.st s hs
      exact ⟨0, s, by show 0 < 2; decide, by show 0 < 2; decide, a, b, d, e, f, rfl, rfl, rfl⟩
    · subst eg
      obtain ⟨a, b, d, e, f⟩ := r1.st s hs
      cases t0 <;> exact ⟨1, s, by show 1 < 2; decide, by show 1 < 2; decide, a, b, d, e, f, rfl, rfl, rfl⟩
end SK
set_option maxRecDepth 100000
set_option maxHeartbeats 4000000
namespace SK
open PySem L2 PyProof.Rows
def stvL (s : Scl) (t : StL) : Stv := ⟨frQ (t.heat * s.a) s.b, t.wood.toNat, t.stay.toNat, t.fails.toNat⟩
def skyL (s : Scl) (r : RmL) : Q × Q × Q := (frQ r.share 12, warmQ_ r.low s, warmQ_ r.high s)
def mkL (s : Scl) (r : RmL) : List Q := r.marks.map (warmQ_ · s)
def stL (s : Scl) (r : RmL) : Option Stv := r.stove.map (stvL s)
theorem many_b (c : Int) (k : Nat) {bands : Nat} (b0 : 0 < bands) (b3 : bands ≤ 3) : 1 ≤ manyL c k bands ∧ manyL c k bands ≤ bands := by
  have h1 := Int.emod_lt_of_pos (m_ c k 1) (show (0 : Int) < (bands : Int) by omega)
  have h2 := Int.emod_nonneg (m_ c k 1) (show (bands : Int) ≠ 0 by omega)
  unfold manyL
  omega
theorem share_b (c : Int) (k : Nat) : 1 ≤ shareL c k ∧ shareL c k ≤ 3 := by
  have h1 := Int.emod_lt_of_pos (m_ c k 3 / 18) (show (0 : Int) < 3 by decide)
  have h2 := Int.emod_nonneg (m_ c k 3 / 18) (show (3 : Int) ≠ 0 by decide)
  unfold shareL
  omega
theorem below_b (c : Int) (k : Nat) : 0 ≤ belowL c k ∧ belowL c k ≤ 12 := by
  have h1 := Int.emod_lt_of_pos (m_ c k 3) (show (0 : Int) < 18 by decide)
  unfold belowL
  omega
theorem heat_b (c : Int) (k : Nat) : 0 ≤ heatL c k ∧ heatL c k ≤ 100 := by
  obtain ⟨s1, s2⟩ := share_b c k
  obtain ⟨b1, b2⟩ := below_b c k
  have h1 := Int.emod_lt_of_pos (m_ c k 5) (show (0 : Int) < 3 by decide)
  have h2 := Int.emod_nonneg (m_ c k 5) (show (3 : Int) ≠ 0 by decide)
  have h3 := Int.emod_lt_of_pos (m_ c k 5 / 12) (show (0 : Int) < 9 by decide)
  have h4 := Int.emod_nonneg (m_ c k 5 / 12) (show (9 : Int) ≠ 0 by decide)
  have p0 : 0 ≤ shareL c k * belowL c k := Int.mul_nonneg (by omega) b1
  have p1 : shareL c k * belowL c k ≤ 3 * 12 := Int.mul_le_mul s2 b2 b1 (by decide)
  unfold heatL
  generalize shareL c k * belowL c k = z at p0 p1 ⊢
  split <;> omega
structure StOk (t : StL) (kw kf : Nat) : Prop where
  h0 : 0 ≤ t.heat
  h1 : t.heat ≤ 100
  w0 : 0 ≤ t.wood
  w1 : t.wood ≤ 2
  s0 : 0 ≤ t.stay
  s1 : t.stay ≤ kw
  f0 : 0 ≤ t.fails
  f1 : t.fails ≤ kf
theorem stove1_ok (c : Int) (k : Nat) : StOk (stove1 c k) 2 1 := by
  obtain ⟨a, b⟩ := heat_b c k
  have h1 := Int.emod_lt_of_pos (m_ c k 6) (show (0 : Int) < 3 by decide)
  have h2 := Int.emod_nonneg (m_ c k 6) (show (3 : Int) ≠ 0 by decide)
  have h3 := Int.emod_lt_of_pos (m_ c k 6 / 3) (show (0 : Int) < 3 by decide)
  have h4 := Int.emod_nonneg (m_ c k 6 / 3) (show (3 : Int) ≠ 0 by decide)
  have h5 := Int.emod_lt_of_pos (m_ c k 7) (show (0 : Int) < 2 by decide)
  have h6 := Int.emod_nonneg (m_ c k 7) (show (2 : Int) ≠ 0 by decide)
  refine ⟨a, b, ?_, ?_, ?_, ?_, ?_, ?_⟩ <;> simp only [stove1] <;> omega
theorem stove2_ok1 (c : Int) (k : Nat) : StOk (stove2 c k 1) 2 1 := stove1_ok c k
theorem stove2_ok2 (c : Int) (k : Nat) : StOk (stove2 c k 2) 1 1 := by
  obtain ⟨a, b, c1, c2, d1, d2, e1, e2⟩ := stove1_ok c k
  obtain ⟨a, b⟩ := heat_b c k
  have h1 := Int.emod_lt_of_pos (stove1 c k).wood (show (0 : Int) < 2 by decide)
  have h2 := Int.emod_nonneg (stove1 c k).wood (show (2 : Int) ≠ 0 by decide)
  have h3 := Int.emod_lt_of_pos (stove1 c k).stay (show (0 : Int) < 2 by decide)
  have h4 := Int.emod_nonneg (stove1 c k).stay (show (2 : Int) ≠ 0 by decide)
  have hx : stove2 c k 2 = ⟨heatL c k, (stove1 c k).wood % 2, (stove1 c k).stay % 2 * 1, (stove1 c k).fails * (if (decide ((2 : Int) = 2) && decide ((k : Int) = 0)) = true then 1 else 0)⟩ := rfl
  rw [hx]
  refine ⟨a, b, h2, ?_, ?_, ?_, ?_, ?_⟩
  · show (stove1 c k).wood % 2 ≤ 2; omega
  · show 0 ≤ (stove1 c k).stay % 2 * 1; omega
  · show (stove1 c k).stay % 2 * 1 ≤ 1; omega
  · show 0 ≤ (stove1 c k).fails * _; split <;> omega
  · show (stove1 c k).fails * _ ≤ 1; split <;> omega
theorem room_ok {s : Scl} (o : SclOk s) (c : Int) (k : Nat) {many bands kw kf : Nat} (b0 : 0 < bands) (b3 : bands ≤ 3) (hst : StOk (stove2 c k many) kw kf) (hw : kw ≤ 3) (hf : kf ≤ 3) : RoomOk (mkL s (roomL c many bands k)) (skyL s (roomL c many bands k)) (stL s (roomL c many bands k)) := by
  obtain ⟨n1, n2⟩ := many_b c k b0 b3
  obtain ⟨s1, s2⟩ := share_b c k
  obtain ⟨b1, b2⟩ := below_b c k
  have mr := (marks_rise c k (manyL c k bands) (by omega)).2
  have f1 := Int.emod_lt_of_pos (m_ c 0 0) (show (0 : Int) < 61 by decide)
  have f2 := Int.emod_nonneg (m_ c 0 0) (show (61 : Int) ≠ 0 by decide)
  have hlast := mr _ (show lastL (marksL c k (manyL c k bands)) ∈ marksL c k (manyL c k bands) from getD_mem (by rw [marks_len]; omega))
  have q1 := Int.emod_lt_of_pos (m_ c k 4) (show (0 : Int) < 9 by decide)
  have q2 := Int.emod_nonneg (m_ c k 4) (show (9 : Int) ≠ 0 by decide)
  have hlo : (firstL c - belowL c k).natAbs < 2 ^ 20 := by unfold firstL; omega
  have hhi : (highL c k (marksL c k (manyL c k bands))).natAbs < 2 ^ 20 := by unfold highL firstL; split <;> omega
  refine ⟨rises_marks o c k n1 (by omega), share_in (by show 0 ≤ shareL c k; omega) s2, warm_sm o hlo, warm_sm o hhi, ?_, fun t ht => ?_⟩
  · show underQ (warmQ_ (highL c k (marksL c k (manyL c k bands))) s) (warmQ_ (firstL c - belowL c k) s) = false
    rw [warm_under o]
    refine decide_eq_false ?_
    unfold highL
    omega
  · have ht' : (stoveL c k many).map (stvL s) = some t := ht
    obtain ⟨x, hx, rfl⟩ := Option.map_eq_some_iff.mp ht'
    have ex : x = stove2 c k many := by
      unfold stoveL at hx
      split at hx
      · cases hx
      · exact (Option.some.inj hx).symm
    subst ex
    have ha : s.a.natAbs < 2 ^ 30 := by have := o.a0; have := o.a1; omega
    have hb : s.b.natAbs < 2 ^ 30 := by have := o.b0; have := o.b1; omega
    have hh : (stove2 c k many).heat.natAbs < 2 ^ 7 := by have := hst.h0; have := hst.h1; omega
    refine ⟨frQ_sm o.b0 (lt_more (lt_mul hh ha) (by decide)) (lt_more hb (by decide)), under_zero o.b0 (Int.mul_nonneg hst.h0 (Int.le_of_lt o.a0)), ?_, ?_, ?_⟩
    · show (stove2 c k many).wood.toNat ≤ 9
      have := hst.w1; omega
    · show (stove2 c k many).stay.toNat ≤ 3
      have := hst.s1; omega
    · show (stove2 c k many).fails.toNat ≤ 3
      have := hst.f1; omega
end SK
set_option maxRecDepth 100000
set_option maxHeartbeats 4000000
namespace SK
open PySem L2 PyProof.Rows
def flowL (f : Int) (j : Nat) : Q := frQ (f / ([1, 4, 16, 64] : List Int).getD j 1 % 4) 12
def stepRoomW (h g : HoldM) (r : Nat) : HoldM := flowsTo h (withStove h (putSky g r (h.sk r)) r) r h.many
def roomsToW (h g : HoldM) (i : Nat) : HoldM := (List.range i).foldl (stepRoomW h) g
structure LawOk (h : HoldM) : Prop where
  n4 : h.most ≤ 4
  c30 : h.cap ≤ 30
  l30 : h.load ≤ 30
  rm : ∀ i m, h.marks[i]? = some m → S_put_room (marksTo h (newHold h.most h.cap h.load) i) [eQs m] (putRoom (marksTo h (newHold h.most h.cap h.load) i) m) (nI (marksTo h (newHold h.most h.cap h.load) i).marks.length)
  sk : ∀ r g, r < h.many → g = roomsToW h (marksTo h (newHold h.most h.cap h.load) h.many) r → S_put_sky g [nI r, eQ (h.sk r).1, eQ (h.sk r).2.1, eQ (h.sk r).2.2] (putSky g r (h.sk r)) .non
  st : ∀ r g s, r < h.many → h.st r = some s → g = putSky (roomsToW h (marksTo h (newHold h.most h.cap h.load) h.many) r) r (h.sk r) → S_put_stove g [nI r, eQ s.heat, nI s.wood, nI s.stay, nI s.fails] (putStove g r s) .non
  fl : ∀ r o g, r < h.many → o < h.many → o ≠ r → g = flowsTo h (withStove h (putSky (roomsToW h (marksTo h (newHold h.most h.cap h.load) h.many) r) r (h.sk r)) r) r o → S_put_flow g [nI r, nI o, eQ (shareQ h r o)] (putFlow g r o (shareQ h r o)) .non
theorem lawok1 {n c l : Nat} {m : List Q} {sk : Q × Q × Q} {st : Option Stv} (r : RoomOk m sk st) (hn : n ≤ 4) (hc : c ≤ 30) (hl : l ≤ 30) : LawOk (H1_ n c l m sk st) := by
  have k := likeok1 (n := n) (c := c) (l := l) r hn hc hl
  refine ⟨hn, hc, hl, k.rm, fun i g hk eg => ?_, fun i g s hk hs eg => ?_, fun i o g hk ho hne eg => ?_⟩
  · have hk' : i < 1 := hk
    obtain rfl : i = 0 := by omega
    exact k.sk 0 g hk eg
  · have hk' : i < 1 := hk
    obtain rfl : i = 0 := by omega
    subst eg
    obtain ⟨a, b, d, e, f⟩ := r.st s hs
    exact ⟨0, s, by show 0 < 1; decide, by show 0 < 1; decide, a, b, d, e, f, rfl, rfl, rfl⟩
  · have hk' : i < 1 := hk
    have ho' : o < 1 := ho
    omega
theorem lawok2 {n c l : Nat} {m0 m1 : List Q} {f0 f1 : Q} {k0 k1 : Q × Q × Q} {t0 t1 : Option Stv} (r0 : RoomOk m0 k0 t0) (r1 : RoomOk m1 k1 t1) (g0 : f0 ∈ S12) (g1 : f1 ∈ S12) (hn : n ≤ 4) (hc : c ≤ 30) (hl : l ≤ 30) : LawOk (H2_ n c l m0 m1 f0 f1 k0 k1 t0 t1) := by
  have c2 : ∀ k, k < 2 → k = 0 ∨ k = 1 := fun k hk => by omega
  have two : ∀ q ∈ [q00, q00], Sm 100 q := fun q hq => by
    rcases List.mem_cons.mp hq with rfl | z
    · exact q00_sm
    · rw [List.mem_singleton.mp z]; exact q00_sm
  have kk := likeok2 (n := n) (c := c) (l := l) r0 r1 g0 g1 hn hc hl
  refine ⟨hn, hc, hl, kk.rm, fun k g hk eg => ?_, fun k g s hk hs eg => ?_, fun k o g hk ho hne eg => ?_⟩
  · rcases c2 k hk with rfl | rfl
    · subst eg
      exact ⟨0, k0, ⟨by show 0 < 2; decide, ⟨by show 0 < 2; decide, by show 0 < 2; decide, by show 2 ≤ 4; decide, two, q00_sm⟩, q00_sm, sm4 r0.sh, s12_no _ r0.sh, put2_ok _ r0.sh⟩, r0.s1, r0.s2, r0.su, rfl, rfl, rfl⟩
    · subst eg
      cases t0 <;> exact ⟨1, k1, ⟨by show 1 < 2; decide, ⟨by show 1 < 2; decide, by show 1 < 2; decide, by show 2 ≤ 4; decide, two, q00_sm⟩, q00_sm, sm4 r1.sh, s12_no _ r1.sh, put2_ok _ r1.sh⟩, r1.s1, r1.s2, r1.su, rfl, rfl, rfl⟩
  · rcases c2 k hk with rfl | rfl
    · subst eg
      obtain ⟨a, b, d, e, f⟩ := r0.st s hs
      exact ⟨0, s, by show 0 < 2; decide, by show 0 < 2; decide, a, b, d, e, f, rfl, rfl, rfl⟩
    · subst eg
      obtain ⟨a, b, d, e, f⟩ := r1.st s hs
      cases t0 <;> exact ⟨1, s, by show 1 < 2; decide, by show 1 < 2; decide, a, b, d, e, f, rfl, rfl, rfl⟩
  · rcases c2 k hk with rfl | rfl
    · obtain rfl : o = 1 := by have ho' : o < 2 := ho; omega
      subst eg
      cases t0 <;> exact ⟨0, 1, f0, ⟨by show 0 < 2; decide, ⟨by show 0 < 2; decide, by show 0 < 2; decide, by show 2 ≤ 4; decide, two, sm4 r0.sh⟩, q00_sm, sm4 g0, s12_no _ g0, put3_ok _ r0.sh _ g0⟩, by show 1 < 2; decide, by show 1 < 2; decide, by decide, rfl, rfl, rfl⟩
    · obtain rfl : o = 0 := by have ho' : o < 2 := ho; omega
      subst eg
      cases t0 <;> cases t1 <;> exact ⟨1, 0, f1, ⟨by show 1 < 2; decide, ⟨by show 1 < 2; decide, by show 1 < 2; decide, by show 2 ≤ 4; decide, two, sm4 r1.sh⟩, q00_sm, sm4 g1, s12_no _ g1, put3_ok _ r1.sh _ g1⟩, by show 0 < 2; decide, by show 0 < 2; decide, by decide, rfl, rfl, rfl⟩
def lawQ (h : HoldM) : HoldM := roomsToW h (marksTo h (newHold h.most h.cap h.load) h.many) h.many
theorem law1_eq {n c l : Nat} {m : List Q} {sk : Q × Q × Q} {st : Option Stv} : lawQ (H1_ n c l m sk st) = H1_ n c l m sk st := by
  cases st <;> rfl
theorem law2_eq {n c l : Nat} {m0 m1 : List Q} {f0 f1 : Q} {k0 k1 : Q × Q × Q} {t0 t1 : Option Stv} : lawQ (H2_ n c l m0 m1 f0 f1 k0 k1 t0 t1) = H2_ n c l m0 m1 f0 f1 k0 k1 t0 t1 := by
  cases t0 <;> cases t1 <;> rfl
end SK
set_option maxRecDepth 100000
set_option maxHeartbeats 4000000
namespace SK
open PySem L2 PyProof.Rows
structure RoomB (r : RmL) : Prop where
  mk_ : ∀ x ∈ r.marks, x.natAbs < 2 ^ 20
  ml : r.marks.length ≤ 7
  lo : r.low.natAbs < 2 ^ 20
  hi : r.high.natAbs < 2 ^ 20
  st : ∀ t, r.stove = some t → t.heat.natAbs < 2 ^ 7 ∧ 0 ≤ t.wood ∧ 0 ≤ t.stay ∧ 0 ≤ t.fails
section
variable {P : Program} {w : World} {K : PySem.W.Frag} {mg : Str → Option Value} {base : Heap}
def S_lawhold (K : PySem.W.Frag) (ds : List D) (d : D) : Prop := ∃ (rs : List RmL) (s : Scl) (f : Int) (h : HoldM), SclOk s ∧ LawOk h ∧ rs.length = h.many ∧ h.marks.length ≤ 2 ∧ (∀ i r, rs[i]? = some r → RoomB r ∧ h.marks[i]? = some (mkL s r) ∧ h.sk i = skyL s r ∧ h.st i = stL s r) ∧ (∀ i j, i < h.many → j < h.many → j ≠ i → shareQ h i j = flowL f j) ∧
  ds = [eRms rs, eScl s, .tup [nI h.most, nI h.cap, nI h.load], .int f] ∧ d = eH K (lawQ h)
theorem divs (o : Nat) (ho : o < 4) {i : Int} : CDivW i (([1, 4, 16, 64] : List Int).getD o 1) := by
  have : o = 0 ∨ o = 1 ∨ o = 2 ∨ o = 3 := by omega
  rcases this with rfl | rfl | rfl | rfl <;> exact wide_div (b := 7) (by decide) (by decide) (by decide) (by decide)
theorem c_lawhold (T : Prg K mg) : Cal P w K mg base 6 "_law_hold" ["_law_rooms_here", "_law_scale_here", "_law_bounds", "_law_flows"] [] (spD K (S_lawhold K)) := by
  obtain ⟨fd, F⟩ := F_law_hold T
  refine mkC F (g_law_hold T) sc_law_hold (fun _ _ _ _ _ _ us hl => match us, hl with | [_, _, _, _], _ => rfl) (fun ds d h => ?_) fun cdv A outer s0 H E ds d hr h => ?_
  · obtain ⟨_, _, _, _, _, _, _, _, _, _, rfl, _⟩ := h
    rfl
  · obtain ⟨rs, s, f, h, so, ok, rl, hm2, hrs, hfl, rfl, rfl⟩ := h
    have nd := sc_law_hold.nd
    have hmany : h.many ≤ 2 := hm2
    refine ds_newH 4 T nd (hr.mono (by decide)) (da_cons (de_ixT (nm 2) de_int rfl) (da_cons (de_ixT (nm 2) de_int rfl) (da_one (de_ixT (nm 2) de_int rfl)))) ok.n4 ok.c30 ok.l30 fun a => ?_
    refine forL rs eRm 5 nd (nm 0) (fun i ρ' => ∃ b : Option D_, ρ' = [some (.val (eRms rs)), some (.val (eScl s)), some (.val (.tup [nI h.most, nI h.cap, nI h.load])), some (.val (.int f)), some (.mem (hld K (marksTo h (newHold h.most h.cap h.load) i) a)), Option.map Bd.val b, none, none, none, none, none]) ⟨none, rfl⟩ ?_ ?_
    · rintro i r ρ' hi ⟨b, rfl⟩
      obtain ⟨rb, hm, _, _⟩ := hrs i r hi
      refine ds_callG 4 T (c_put_room T) (hr.mono (by decide)) (da_one (de_is (lc 10 nd r.marks D.int (de_ixT (ds := [eMk r.marks, .int r.share, .int r.low, .int r.high, eStL r.stove]) (nm 5) de_int rfl) (fun _ => true) (fun x => eQ (warmQ_ x s)) (fun x hx s1 H1 C cl fp => ⟨dq_nil, fun _ => call (c_warm T) (hr.mono (by decide)) (da_cons (nm 10) (da_one (nm 1))) ⟨x, s, so, rb.mk_ x hx, rfl, rfl⟩⟩) (small1000 (by have := rb.ml; omega)) (blkOk_by (N := n_law_hold) (sc := defScope s_law_hold) (by decide +kernel))).see (d := eQs (mkL s r)) ?_)) (ok.rm i _ hm) (ds_nil ⟨some (eRm r), ?_⟩)
      · rw [filt, eQs, mkL, List.map_map]
        rfl
      · have e1 : marksTo h (newHold h.most h.cap h.load) (i + 1) = putRoom (marksTo h (newHold h.most h.cap h.load) i) (mkL s r) := by
          unfold marksTo
          rw [take_next hm, List.foldl_append]
          rfl
        rw [e1]
        rfl
    · rintro ρ' ⟨b, rfl⟩
      rw [rl]
      have hlen : ((rs.map eRm).length : Int) = (h.many : Int) := by rw [List.length_map, rl]
      refine forR 6 nd (b_range T) (de_is (d := nI h.many) (len_L (b_len T) (nm 0)) (congrArg D.int hlen)) (by omega) (fun i ρ' => ∃ b5 b6 b7 b8 b9 : Option D_, ρ' = [some (.val (eRms rs)), some (.val (eScl s)), some (.val (.tup [nI h.most, nI h.cap, nI h.load])), some (.val (.int f)), some (.mem (hld K (roomsToW h (marksTo h (newHold h.most h.cap h.load) h.many) i) a)), Option.map Bd.val b5, Option.map Bd.val b6, Option.map Bd.val b7, Option.map Bd.val b8, Option.map Bd.val b9, none]) ⟨b, none, none, none, none, rfl⟩ ?_ ?_
      · rintro k ρ' hk' ⟨b5, b6, b7, b8, b9, rfl⟩
        have hk : k < h.many := by omega
        obtain ⟨r, hr0⟩ : ∃ r, rs[k]? = some r := ⟨_, List.getElem?_eq_getElem (by omega)⟩
        obtain ⟨rb, _, es, et⟩ := hrs k r hr0
        have hat : atI (rs.map eRm) (k : Int) = some (eRm r) := atI_nat (by rw [List.getElem?_map, hr0]; rfl)
        have i0 : ∀ {X : Cx} {ρ : Rho} {e : Expr} {pos p : Pos} {j : Nat} {i : Int} {d : D}, atI [eMk r.marks, .int r.share, .int r.low, .int r.high, eStL r.stove] i = some d → DE X ρ e (eRm r) → PlainIx (.Constant (.int i) j p) → DE X ρ (.Subscript e (.Constant (.int i) j p) pos) d := fun hk a hs => de_ixT a de_int hk hs
        have j0 : ∀ {X : Cx} {ρ : Rho} {e : Expr} {pos p : Pos} {j : Nat} {i : Int} {d : D}, atI [D.int s.a, .int s.b, .int s.c, .int s.e] i = some d → DE X ρ e (eScl s) → PlainIx (.Constant (.int i) j p) → DE X ρ (.Subscript e (.Constant (.int i) j p) pos) d := fun hk a hs => de_ixT a de_int hk hs
        refine asg 7 nd (d := eQ (h.sk k).1) (de_is (call (c_part T) (hr.mono (by decide)) (da_cons (i0 (d := .int r.share) rfl (de_ixL (nm 0) (nm 6) hat) (by intro _ _; rfl)) (da_one de_int)) ⟨r.share, 12, 4, by decide, by decide, by decide, by decide, rfl, rfl⟩) (by rw [es]; rfl)) ?_
        refine ds_callG 4 T (c_put_sky T) hr (da_cons (nm 6) (da_cons (nm 7) (da_cons (de_is (d := eQ (h.sk k).2.1) (call (c_warm T) (hr.mono (by decide)) (da_cons (i0 (d := .int r.low) rfl (de_ixL (nm 0) (nm 6) hat) (by intro _ _; rfl)) (da_one (nm 1))) ⟨r.low, s, so, rb.lo, rfl, rfl⟩) (by rw [es]; rfl)) (da_one (de_is (d := eQ (h.sk k).2.2) (call (c_warm T) (hr.mono (by decide)) (da_cons (i0 (d := .int r.high) rfl (de_ixL (nm 0) (nm 6) hat) (by intro _ _; rfl)) (da_one (nm 1))) ⟨r.high, s, so, rb.hi, rfl, rfl⟩) (by rw [es]; rfl)))))) (ok.sk k _ hk rfl) ?_ (hm := by cases b5 <;> cases b8 <;> cases b9 <;> rfl)
        refine asg 8 nd (d := eStL r.stove) (i0 rfl (de_ixL (nm 0) (nm 6) hat) (by intro _ _; rfl)) ?_
        have et' : h.st k = r.stove.map (stvL s) := et
        cases est : r.stove with
        | none =>
          have ew : withStove h (putSky (roomsToW h (marksTo h (newHold h.most h.cap h.load) h.many) k) k (h.sk k)) k = putSky (roomsToW h (marksTo h (newHold h.most h.cap h.load) h.many) k) k (h.sk k) := by
            unfold withStove
            rw [et', est]
            rfl
          refine ds_skip (dt_notN (d := .non) (nm 8) de_non) rfl ?_
          rw [← ew]
          refine forR 9 nd (b_range T) (de_is (d := nI h.many) (len_L (b_len T) (nm 0)) (congrArg D.int hlen)) (by omega) (fun i ρ' => ∃ b9 : Option D_, ρ' = [some (.val (eRms rs)), some (.val (eScl s)), some (.val (.tup [nI h.most, nI h.cap, nI h.load])), some (.val (.int f)), some (.mem (hld K (flowsTo h (withStove h (putSky (roomsToW h (marksTo h (newHold h.most h.cap h.load) h.many) k) k (h.sk k)) k) k i) a)), Option.map Bd.val b5, some (.val (nI k)), some (.val (eQ (h.sk k).1)), some (.val (eStL r.stove)), Option.map Bd.val b9, none]) ⟨b9, by rw [est]; rfl⟩ ?_ ?_
          · rintro o ρ' ho ⟨b9, rfl⟩
            have hol : o < h.many := by omega
            have e1 : flowsTo h (withStove h (putSky (roomsToW h (marksTo h (newHold h.most h.cap h.load) h.many) k) k (h.sk k)) k) k (o + 1) = stepFlow h (flowsTo h (withStove h (putSky (roomsToW h (marksTo h (newHold h.most h.cap h.load) h.many) k) k (h.sk k)) k) k o) k o := by
              unfold flowsTo
              rw [List.range_succ, List.foldl_append]
              rfl
            refine ds_if (dt_ne (nm 9) (nm 6)) (fun hb => ?_) fun hb => ds_nil (ds_nil ⟨some (nI o), ?_⟩)
            · have hne : o ≠ k := by
                intro z
                subst z
                simp at hb
              refine ds_callG 4 T (c_put_flow T) hr (da_cons (nm 6) (da_cons (nm 9) (da_one (de_is (d := eQ (shareQ h k o)) (call (c_part T) (hr.mono (by decide)) (da_cons (de_mod (de_div (nm 3) (de_ixL (ds := ([1, 4, 16, 64] : List Int).map D.int) (do_lst (da_cons de_int (da_cons de_int (da_cons de_int (da_one de_int))))).see (nm 9) (at_map (f := D.int) 1 (show o < 4 by omega))) (divs o (by omega))) de_int (by decide)) (da_one de_int)) ⟨_, 12, 4, by decide, by decide, by decide, by decide, rfl, rfl⟩) (by rw [hfl k o hk hol hne]; rfl))))) (ok.fl k o _ hk hol hne rfl) (ds_nil (ds_nil ⟨some (nI o), ?_⟩)) (hm := by cases b5 <;> rfl)
              rw [e1, stepFlow, if_neg hne]
              rfl
            · have heq : o = k := by
                have : decide ((o : Int) = (k : Int)) = true := by simpa using hb
                have := of_decide_eq_true this
                omega
              rw [e1, stepFlow, if_pos heq]
              rfl
          · rintro ρ' ⟨b9, rfl⟩
            rw [Int.toNat_natCast]
            refine ds_nil ⟨b5, some (nI k), some (eQ (h.sk k).1), some (eStL r.stove), b9, ?_⟩
            have e1 : roomsToW h (marksTo h (newHold h.most h.cap h.load) h.many) (k + 1) = stepRoomW h (roomsToW h (marksTo h (newHold h.most h.cap h.load) h.many) k) k := by
              unfold roomsToW
              rw [List.range_succ, List.foldl_append]
              rfl
            rw [e1]
            rfl
        | some t =>
          have ew : withStove h (putSky (roomsToW h (marksTo h (newHold h.most h.cap h.load) h.many) k) k (h.sk k)) k = putStove (putSky (roomsToW h (marksTo h (newHold h.most h.cap h.load) h.many) k) k (h.sk k)) k (stvL s t) := by
            unfold withStove
            rw [et', est]
            rfl
          obtain ⟨t1, t2, t3, t4⟩ := rb.st t est
          have k0 : ∀ {X : Cx} {ρ : Rho} {e : Expr} {pos p : Pos} {j : Nat} {i : Int} {d : D}, atI [D.int t.heat, .int t.wood, .int t.stay, .int t.fails] i = some d → DE X ρ e (eStL (some t)) → PlainIx (.Constant (.int i) j p) → DE X ρ (.Subscript e (.Constant (.int i) j p) pos) d := fun hk a hs => de_ixT a de_int hk hs
          have hb : s.b.natAbs < 2 ^ 30 := by have := so.b0; have := so.b1; omega
          have ha : s.a.natAbs < 2 ^ 30 := by have := so.a0; have := so.a1; omega
          refine ds_take (dt_notN (d := eStL (some t)) (nm 8) de_non) rfl ?_
          refine ds_callG 4 T (c_put_stove T) (hr.mono (by decide)) (da_cons (nm 6) (da_cons (de_is (d := eQ (stvL s t).heat) (call (c_part T) (hr.mono (by decide)) (da_cons (de_mul (k0 (d := .int t.heat) rfl (nm 8) (by intro _ _; rfl)) (j0 (d := .int s.a) rfl (nm 1) (by intro _ _; rfl)) (cmul t1 ha (by decide) (by decide) (by decide))) (da_one (j0 (d := .int s.b) rfl (nm 1) (by intro _ _; rfl)))) ⟨_, s.b, 30, so.b0, by decide, by decide, hb, rfl, rfl⟩) rfl) (da_cons (de_is (d := nI (stvL s t).wood) (k0 (d := .int t.wood) rfl (nm 8) (by intro _ _; rfl)) (congrArg D.int (show t.wood = ((t.wood.toNat : Nat) : Int) by omega))) (da_cons (de_is (d := nI (stvL s t).stay) (k0 (d := .int t.stay) rfl (nm 8) (by intro _ _; rfl)) (congrArg D.int (show t.stay = ((t.stay.toNat : Nat) : Int) by omega))) (da_one (de_is (d := nI (stvL s t).fails) (k0 (d := .int t.fails) rfl (nm 8) (by intro _ _; rfl)) (congrArg D.int (show t.fails = ((t.fails.toNat : Nat) : Int) by omega)))))))) (ok.st k _ (stvL s t) hk (by rw [et', est]; rfl) rfl) (ds_nil ?_) (hm := by cases b5 <;> cases b9 <;> rfl)
          rw [← ew]
          refine forR 9 nd (b_range T) (de_is (d := nI h.many) (len_L (b_len T) (nm 0)) (congrArg D.int hlen)) (by omega) (fun i ρ' => ∃ b9 : Option D_, ρ' = [some (.val (eRms rs)), some (.val (eScl s)), some (.val (.tup [nI h.most, nI h.cap, nI h.load])), some (.val (.int f)), some (.mem (hld K (flowsTo h (withStove h (putSky (roomsToW h (marksTo h (newHold h.most h.cap h.load) h.many) k) k (h.sk k)) k) k i) a)), Option.map Bd.val b5, some (.val (nI k)), some (.val (eQ (h.sk k).1)), some (.val (eStL r.stove)), Option.map Bd.val b9, none]) ⟨b9, by rw [est]; rfl⟩ ?_ ?_
          · rintro o ρ' ho ⟨b9, rfl⟩
            have hol : o < h.many := by omega
            have e1 : flowsTo h (withStove h (putSky (roomsToW h (marksTo h (newHold h.most h.cap h.load) h.many) k) k (h.sk k)) k) k (o + 1) = stepFlow h (flowsTo h (withStove h (putSky (roomsToW h (marksTo h (newHold h.most h.cap h.load) h.many) k) k (h.sk k)) k) k o) k o := by
              unfold flowsTo
              rw [List.range_succ, List.foldl_append]
              rfl
            refine ds_if (dt_ne (nm 9) (nm 6)) (fun hb => ?_) fun hb => ds_nil (ds_nil ⟨some (nI o), ?_⟩)
            · have hne : o ≠ k := by
                intro z
                subst z
                simp at hb
              refine ds_callG 4 T (c_put_flow T) hr (da_cons (nm 6) (da_cons (nm 9) (da_one (de_is (d := eQ (shareQ h k o)) (call (c_part T) (hr.mono (by decide)) (da_cons (de_mod (de_div (nm 3) (de_ixL (ds := ([1, 4, 16, 64] : List Int).map D.int) (do_lst (da_cons de_int (da_cons de_int (da_cons de_int (da_one de_int))))).see (nm 9) (at_map (f := D.int) 1 (show o < 4 by omega))) (divs o (by omega))) de_int (by decide)) (da_one de_int)) ⟨_, 12, 4, by decide, by decide, by decide, by decide, rfl, rfl⟩) (by rw [hfl k o hk hol hne]; rfl))))) (ok.fl k o _ hk hol hne rfl) (ds_nil (ds_nil ⟨some (nI o), ?_⟩)) (hm := by cases b5 <;> rfl)
              rw [e1, stepFlow, if_neg hne]
              rfl
            · have heq : o = k := by
                have : decide ((o : Int) = (k : Int)) = true := by simpa using hb
                have := of_decide_eq_true this
                omega
              rw [e1, stepFlow, if_pos heq]
              rfl
          · rintro ρ' ⟨b9, rfl⟩
            rw [Int.toNat_natCast]
            refine ds_nil ⟨b5, some (nI k), some (eQ (h.sk k).1), some (eStL r.stove), b9, ?_⟩
            have e1 : roomsToW h (marksTo h (newHold h.most h.cap h.load) h.many) (k + 1) = stepRoomW h (roomsToW h (marksTo h (newHold h.most h.cap h.load) h.many) k) k := by
              unfold roomsToW
              rw [List.range_succ, List.foldl_append]
              rfl
            rw [e1]
            rfl
      · rintro ρ' ⟨b5, b6, b7, b8, b9, rfl⟩
        rw [Int.toNat_natCast]
        refine frzH 4 ?_ (hm := by cases b5 <;> cases b6 <;> cases b7 <;> cases b8 <;> cases b9 <;> rfl)
        exact ds_ret (nm 4) rfl
end
end SK
set_option maxRecDepth 100000
set_option maxHeartbeats 4000000
namespace SK
open PySem L2 PyProof.Rows
theorem room_b (c : Int) (k : Nat) {many bands kw kf : Nat} (b0 : 0 < bands) (b3 : bands ≤ 3) (hst : StOk (stove2 c k many) kw kf) : RoomB (roomL c many bands k) := by
  obtain ⟨n1, n2⟩ := many_b c k b0 b3
  obtain ⟨b1, b2⟩ := below_b c k
  have mr := (marks_rise c k (manyL c k bands) (by omega)).2
  have f1 := Int.emod_lt_of_pos (m_ c 0 0) (show (0 : Int) < 61 by decide)
  have f2 := Int.emod_nonneg (m_ c 0 0) (show (61 : Int) ≠ 0 by decide)
  have hlast := mr _ (show lastL (marksL c k (manyL c k bands)) ∈ marksL c k (manyL c k bands) from getD_mem (by rw [marks_len]; omega))
  have q1 := Int.emod_lt_of_pos (m_ c k 4) (show (0 : Int) < 9 by decide)
  have q2 := Int.emod_nonneg (m_ c k 4) (show (9 : Int) ≠ 0 by decide)
  refine ⟨fun x hx => ?_, ?_, ?_, ?_, fun t ht => ?_⟩
  · have := mr x hx
    omega
  · show (marksL c k (manyL c k bands)).length ≤ 7
    rw [marks_len]
    omega
  · show (firstL c - belowL c k).natAbs < 2 ^ 20
    unfold firstL
    omega
  · show (highL c k (marksL c k (manyL c k bands))).natAbs < 2 ^ 20
    unfold highL firstL
    split <;> omega
  · have hx : stoveL c k many = some t := ht
    have ex : t = stove2 c k many := by
      unfold stoveL at hx
      split at hx
      · cases hx
      · exact (Option.some.inj hx).symm
    subst ex
    exact ⟨by have := hst.h0; have := hst.h1; omega, hst.w0, hst.s0, hst.f0⟩
theorem flow_in (f : Int) (j : Nat) : flowL f j ∈ S12 := by
  have h1 := Int.emod_lt_of_pos (f / ([1, 4, 16, 64] : List Int).getD j 1) (show (0 : Int) < 4 by decide)
  have h2 := Int.emod_nonneg (f / ([1, 4, 16, 64] : List Int).getD j 1) (show (4 : Int) ≠ 0 by decide)
  exact share_in h2 (by omega)
end SK
set_option maxRecDepth 100000
set_option maxHeartbeats 4000000
namespace SK
open PySem L2 PyProof.Rows
/-! The state that a script lays. -/
def rm0 : RmL := ⟨[], 0, 0, 0, none⟩
def rmL (rs : List RmL) (j : Nat) : RmL := rs.getD j rm0
def xS (c : Int) (k j : Nat) : Nat := mixQ c (k + 7 * j) 1
def bandS (rs : List RmL) (c : Int) (k j : Nat) : Nat := mixQ c (k + j) 0 % ((rmL rs j).marks.length - 1)
def waitS (rs : List RmL) (c : Int) (k j : Nat) : Nat := match (rmL rs j).stove with
  | none => 0
  | some t => if xS c k j % 4 < 2 then xS c k j / 4 % (t.stay.toNat + 1) else 0
def failS (rs : List RmL) (c : Int) (k j : Nat) : Nat := match (rmL rs j).stove with
  | none => 0
  | some t => if xS c k j % 4 < 2 then 0 else xS c k j / 4 % (t.fails.toNat + 1)
def takeS (rs : List RmL) (c : Int) (k m j lit : Nat) : Bool := (rmL rs j).stove.isSome && (decide (xS c k j % 4 = 0) && decide (lit < m))
def litS (rs : List RmL) (c : Int) (k m : Nat) : Nat → Nat × Nat
  | 0 => (0, 0)
  | i + 1 => if takeS rs c k m i (litS rs c k m i).2 = true then ((litS rs c k m i).1 + 2 ^ i, (litS rs c k m i).2 + 1) else litS rs c k m i
def stateS (rs : List RmL) (c : Int) (k m cp : Nat) : SM :=
  ⟨(List.range rs.length).map (bandS rs c k), (litS rs c k m rs.length).1, (List.range rs.length).map (waitS rs c k), (List.range rs.length).map (failS rs c k), mixQ c k 2 % (cp + 1)⟩
theorem take_of {rs : List RmL} {c : Int} {k m j lit : Nat} (h : takeS rs c k m j lit = true) : (rmL rs j).stove.isSome = true ∧ xS c k j % 4 = 0 ∧ lit < m := by
  have h1 := Bool.and_eq_true_iff.mp h
  have h2 := Bool.and_eq_true_iff.mp h1.2
  exact ⟨h1.1, of_decide_eq_true h2.1, of_decide_eq_true h2.2⟩
structure LitOk (rs : List RmL) (c : Int) (k m n : Nat) (p : Nat × Nat) : Prop where
  lt : p.1 < 2 ^ n
  hm : howMany p.1 ≤ m
  bit : ∀ j, j < n → p.1.testBit j = true → (rmL rs j).stove.isSome = true ∧ xS c k j % 4 = 0
theorem lit_ok1 (rs : List RmL) (c : Int) (k m : Nat) : LitOk rs c k m 1 (litS rs c k m 1) := by
  have e1 : litS rs c k m 1 = if takeS rs c k m 0 0 = true then (1, 1) else (0, 0) := rfl
  rw [e1]
  by_cases t : takeS rs c k m 0 0 = true
  · rw [if_pos t]
    obtain ⟨a, b, d⟩ := take_of t
    refine ⟨by decide, d, fun j hj _ => ?_⟩
    obtain rfl : j = 0 := by omega
    exact ⟨a, b⟩
  · rw [if_neg t]
    exact ⟨by decide, Nat.zero_le _, fun j _ hb => by simp at hb⟩
theorem lit_ok2 (rs : List RmL) (c : Int) (k m : Nat) : LitOk rs c k m 2 (litS rs c k m 2) := by
  have e1 : litS rs c k m 1 = if takeS rs c k m 0 0 = true then (1, 1) else (0, 0) := rfl
  have e2 : litS rs c k m 2 = if takeS rs c k m 1 (litS rs c k m 1).2 = true then ((litS rs c k m 1).1 + 2, (litS rs c k m 1).2 + 1) else litS rs c k m 1 := rfl
  rw [e2]
  by_cases t : takeS rs c k m 0 0 = true
  · obtain ⟨a, b, d⟩ := take_of t
    rw [e1, if_pos t]
    by_cases u : takeS rs c k m 1 1 = true
    · obtain ⟨a', b', d'⟩ := take_of u
      rw [if_pos u]
      refine ⟨by decide, d', fun j hj _ => ?_⟩
      rcases (show j = 0 ∨ j = 1 by omega) with rfl | rfl
      · exact ⟨a, b⟩
      · exact ⟨a', b'⟩
    · rw [if_neg u]
      refine ⟨by decide, d, fun j hj hb => ?_⟩
      rcases (show j = 0 ∨ j = 1 by omega) with rfl | rfl
      · exact ⟨a, b⟩
      · cases hb
  · rw [e1, if_neg t]
    by_cases u : takeS rs c k m 1 0 = true
    · obtain ⟨a', b', d'⟩ := take_of u
      rw [if_pos u]
      refine ⟨by decide, d', fun j hj hb => ?_⟩
      rcases (show j = 0 ∨ j = 1 by omega) with rfl | rfl
      · cases hb
      · exact ⟨a', b'⟩
    · rw [if_neg u]
      exact ⟨by decide, Nat.zero_le _, fun j _ hb => by simp at hb⟩
/-- a hold is laid out of rooms -/
structure Laid (h : HoldM) (rs : List RmL) : Prop where
  len : rs.length = h.many
  mk_ : ∀ j, j < h.many → (h.mk_ j).length = (rmL rs j).marks.length
  two : ∀ j, j < h.many → 2 ≤ (rmL rs j).marks.length
  st : ∀ j, j < h.many → ∃ s, h.st j = (rmL rs j).stove.map (stvL s)
theorem state_valid {h : HoldM} {rs : List RmL} (w : WF h) (lo : Laid h rs) (c : Int) (k : Nat) : Valid h (stateS rs c k h.most h.cap) := by
  have lit : LitOk rs c k h.most h.many (litS rs c k h.most rs.length) := by
    rw [lo.len]
    rcases many12 w with e | e
    · rw [e]; exact lit_ok1 rs c k h.most
    · rw [e]; exact lit_ok2 rs c k h.most
  refine ⟨by simp [stateS, lo.len], by simp [stateS, lo.len], by simp [stateS, lo.len], lit.lt, lit.hm, ?_, fun r hr => ?_⟩
  · exact Nat.le_of_lt_succ (Nat.mod_lt _ (Nat.succ_pos _))
  · have hr2 : r < rs.length := by rw [lo.len]; exact hr
    have eb : (stateS rs c k h.most h.cap).bands.getD r 0 = bandS rs c k r := getD_mapR _ hr2
    have ew : (stateS rs c k h.most h.cap).wt r = waitS rs c k r := getD_mapR _ hr2
    have ef : (stateS rs c k h.most h.cap).fd r = failS rs c k r := getD_mapR _ hr2
    have bit : (stateS rs c k h.most h.cap).burn.testBit r = true → (rmL rs r).stove.isSome = true ∧ xS c k r % 4 = 0 := lit.bit r hr
    have two := lo.two r hr
    refine ⟨?_, ?_⟩
    · rw [eb, lo.mk_ r hr]
      have : mixQ c (k + r) 0 % ((rmL rs r).marks.length - 1) < (rmL rs r).marks.length - 1 := Nat.mod_lt _ (by omega)
      unfold bandS
      omega
    · obtain ⟨s, es⟩ := lo.st r hr
      rw [es, ew, ef]
      cases e : (rmL rs r).stove with
      | none =>
        refine ⟨?_, ?_, ?_⟩
        · cases q : (stateS rs c k h.most h.cap).burn.testBit r with
          | false => rfl
          | true =>
            have := (bit q).1
            rw [e] at this
            cases this
        · unfold waitS; rw [e]
        · unfold failS; rw [e]
      | some t =>
        have w1 : waitS rs c k r = if xS c k r % 4 < 2 then xS c k r / 4 % (t.stay.toNat + 1) else 0 := by unfold waitS; rw [e]
        have w2 : failS rs c k r = if xS c k r % 4 < 2 then 0 else xS c k r / 4 % (t.fails.toNat + 1) := by unfold failS; rw [e]
        have m1 : xS c k r / 4 % (t.stay.toNat + 1) < t.stay.toNat + 1 := Nat.mod_lt _ (Nat.succ_pos _)
        have m2 : xS c k r / 4 % (t.fails.toNat + 1) < t.fails.toNat + 1 := Nat.mod_lt _ (Nat.succ_pos _)
        show waitS rs c k r ≤ t.stay.toNat ∧ failS rs c k r ≤ t.fails.toNat ∧ (failS rs c k r = 0 ∨ ((stateS rs c k h.most h.cap).burn.testBit r = false ∧ waitS rs c k r = 0))
        rw [w1, w2]
        by_cases q : xS c k r % 4 < 2
        · rw [if_pos q, if_pos q]
          exact ⟨by omega, Nat.zero_le _, .inl rfl⟩
        · rw [if_neg q, if_neg q]
          refine ⟨Nat.zero_le _, by omega, .inr ⟨?_, rfl⟩⟩
          cases qb : (stateS rs c k h.most h.cap).burn.testBit r with
          | false => rfl
          | true =>
            have := (bit qb).2
            omega
theorem Valid.more {h h' : HoldM} {s : SM} (v : Valid h s) (g : HLe h h') (x : Nat) (hx : x ≤ h'.cap) : Valid h' { s with heap := x } := by
  obtain ⟨n1, c1, l1, m1, f1, k1, t1⟩ := h
  obtain ⟨n2, c2, l2, m2, f2, k2, t2⟩ := h'
  obtain ⟨rfl, rfl, rfl, rfl, g1, g2, g3⟩ := g
  exact ⟨v.bl, v.wl, v.fl, v.bu, Nat.le_trans v.mo g1, hx, v.fit⟩
theorem heap_le (s : SM) (x : Nat) (hx : s.heap ≤ x) : SLe s { s with heap := x } := ⟨rfl, rfl, rfl, rfl, hx⟩
/-! The holds that a script lays, by their bounds. -/
structure Fam (F : Nat → Nat → Nat → HoldM) (rs : List RmL) : Prop where
  wf : ∀ {n c l : Nat}, n ≤ 4 → c ≤ 30 → l ≤ 30 → WF (F n c l)
  lk : ∀ {n c l n' c' l' : Nat}, n' ≤ 4 → c' ≤ 30 → l' ≤ 30 → LikeOk (F n c l) n' c' l'
  le : ∀ {n c l n' c' l' : Nat}, likeQ (F n c l) n' c' l' = F n' c' l'
  up : ∀ {n c l n' c' l' : Nat}, n ≤ n' → c ≤ c' → l ≤ l' → HLe (F n c l) (F n' c' l')
  mo : ∀ {n c l : Nat}, (F n c l).most = n
  cp : ∀ {n c l : Nat}, (F n c l).cap = c
  ld : ∀ {n c l : Nat}, (F n c l).load = l
  few : ∀ {n c l : Nat}, c ≤ 4 → ∃ kb kw kf, Few (F n c l) kb kw kf
  laid : ∀ {n c l : Nat}, Laid (F n c l) rs
theorem stL_few {s : Scl} {c : Int} {k many bands kw kf : Nat} (hst : StOk (stove2 c k many) kw kf) : ∀ t, stL s (roomL c many bands k) = some t → t.stay ≤ kw ∧ t.fails ≤ kf := fun t ht => by
  have ht' : (stoveL c k many).map (stvL s) = some t := ht
  obtain ⟨x, hx, rfl⟩ := Option.map_eq_some_iff.mp ht'
  have ex : x = stove2 c k many := by
    unfold stoveL at hx
    split at hx
    · cases hx
    · exact (Option.some.inj hx).symm
  subst ex
  have h1 := hst.s1
  have h2 := hst.f1
  exact ⟨by show (stove2 c k many).stay.toNat ≤ kw; omega, by show (stove2 c k many).fails.toNat ≤ kf; omega⟩
theorem mkL_len (s : Scl) (c : Int) (k many bands : Nat) : (mkL s (roomL c many bands k)).length = manyL c k bands + 1 := by
  unfold mkL
  rw [List.length_map]
  exact marks_len c k _
theorem fam1 (c : Int) {s : Scl} (o : SclOk s) : Fam (fun n cp l => H1_ n cp l (mkL s (roomL c 1 3 0)) (skyL s (roomL c 1 3 0)) (stL s (roomL c 1 3 0))) (roomsL c 1 3) := by
  have st := stove2_ok1 c 0
  have ro := room_ok o c 0 (many := 1) (bands := 3) (by decide) (by decide) st (by decide) (by decide)
  obtain ⟨n1, n2⟩ := many_b c 0 (bands := 3) (by decide) (by decide)
  have ml := mkL_len s c 0 1 3
  have k0 : ∀ {j : Nat}, j < 1 → j = 0 := fun h => by omega
  refine ⟨fun a b d => wf1 ro a b d, fun a b d => likeok1 ro a b d, like1, fun a b d => ⟨rfl, rfl, rfl, rfl, a, b, d⟩, rfl, rfl, rfl, fun {n cp l} a => ⟨3, 2, 1, ⟨fun r hr => ?_, fun r t ht => ?_, a, ?_⟩⟩, fun {n cp l} => ⟨rfl, fun j hj => ?_, fun j hj => ?_, fun j hj => ?_⟩⟩
  · obtain rfl := k0 (show r < 1 from hr)
    show (mkL s (roomL c 1 3 0)).length ≤ 4
    omega
  · match r with
    | 0 => exact stL_few st t ht
    | r + 1 => cases ht
  · show 3 ^ 1 * (2 ^ 1 * ((2 + 1) ^ 1 * ((1 + 1) ^ 1 * 5))) ≤ 1280
    decide
  · obtain rfl := k0 (show j < 1 from hj)
    show (mkL s (roomL c 1 3 0)).length = (roomL c 1 3 0).marks.length
    unfold mkL
    rw [List.length_map]
  · obtain rfl := k0 (show j < 1 from hj)
    show 2 ≤ (marksL c 0 (manyL c 0 3)).length
    rw [marks_len]
    omega
  · obtain rfl := k0 (show j < 1 from hj)
    exact ⟨s, rfl⟩
theorem fam2 (c f : Int) {s : Scl} (o : SclOk s) : Fam (fun n cp l => H2_ n cp l (mkL s (roomL c 2 2 0)) (mkL s (roomL c 2 2 1)) (flowL f 1) (flowL f 0) (skyL s (roomL c 2 2 0)) (skyL s (roomL c 2 2 1)) (stL s (roomL c 2 2 0)) (stL s (roomL c 2 2 1))) (roomsL c 2 2) := by
  have st0 := stove2_ok2 c 0
  have st1 := stove2_ok2 c 1
  have r0 := room_ok o c 0 (many := 2) (bands := 2) (by decide) (by decide) st0 (by decide) (by decide)
  have r1 := room_ok o c 1 (many := 2) (bands := 2) (by decide) (by decide) st1 (by decide) (by decide)
  obtain ⟨n1, n2⟩ := many_b c 0 (bands := 2) (by decide) (by decide)
  obtain ⟨n3, n4⟩ := many_b c 1 (bands := 2) (by decide) (by decide)
  have ml0 := mkL_len s c 0 2 2
  have ml1 := mkL_len s c 1 2 2
  have k2 : ∀ {j : Nat}, j < 2 → j = 0 ∨ j = 1 := fun h => by omega
  have g0 := flow_in f 1
  have g1 := flow_in f 0
  refine ⟨fun a b d => wf2 r0 r1 g0 g1 a b d, fun a b d => likeok2 r0 r1 g0 g1 a b d, like2, fun a b d => ⟨rfl, rfl, rfl, rfl, a, b, d⟩, rfl, rfl, rfl, fun {n cp l} a => ⟨2, 1, 1, ⟨fun r hr => ?_, fun r t ht => ?_, a, ?_⟩⟩, fun {n cp l} => ⟨rfl, fun j hj => ?_, fun j hj => ?_, fun j hj => ?_⟩⟩
  · rcases k2 (show r < 2 from hr) with rfl | rfl
    · show (mkL s (roomL c 2 2 0)).length ≤ 3
      omega
    · show (mkL s (roomL c 2 2 1)).length ≤ 3
      omega
  · match r with
    | 0 => exact stL_few st0 t ht
    | 1 => exact stL_few st1 t ht
    | r + 2 => cases ht
  · show 2 ^ 2 * (2 ^ 2 * ((1 + 1) ^ 2 * ((1 + 1) ^ 2 * 5))) ≤ 1280
    decide
  · rcases k2 (show j < 2 from hj) with rfl | rfl
    · show (mkL s (roomL c 2 2 0)).length = (roomL c 2 2 0).marks.length
      unfold mkL
      rw [List.length_map]
    · show (mkL s (roomL c 2 2 1)).length = (roomL c 2 2 1).marks.length
      unfold mkL
      rw [List.length_map]
  · rcases k2 (show j < 2 from hj) with rfl | rfl
    · show 2 ≤ (marksL c 0 (manyL c 0 2)).length
      rw [marks_len]
      omega
    · show 2 ≤ (marksL c 1 (manyL c 1 2)).length
      rw [marks_len]
      omega
  · rcases k2 (show j < 2 from hj) with rfl | rfl
    · exact ⟨s, rfl⟩
    · exact ⟨s, rfl⟩
theorem rooms_b {c : Int} {many bands : Nat} (h : (many = 1 ∧ bands = 3) ∨ (many = 2 ∧ bands = 2)) : ∀ r ∈ roomsL c many bands, RoomB r ∧ 2 ≤ r.marks.length := fun r hr => by
  obtain ⟨k, hk, rfl⟩ := List.mem_map.mp hr
  have two : 0 < bands → bands ≤ 3 → 2 ≤ (roomL c many bands k).marks.length := fun b0 b3 => by
    have := (many_b c k b0 b3).1
    show 2 ≤ (marksL c k (manyL c k bands)).length
    rw [marks_len]
    omega
  rcases h with ⟨rfl, rfl⟩ | ⟨rfl, rfl⟩
  · exact ⟨room_b c k (by decide) (by decide) (stove2_ok1 c k), two (by decide) (by decide)⟩
  · exact ⟨room_b c k (by decide) (by decide) (stove2_ok2 c k), two (by decide) (by decide)⟩
/-- what `_law_hold` is told -/
theorem laid1 {K : PySem.W.Frag} (c f : Int) {s : Scl} (o : SclOk s) {n cp l : Nat} (hn : n ≤ 4) (hc : cp ≤ 30) (hl : l ≤ 30) :
    S_lawhold K [eRms (roomsL c 1 3), eScl s, .tup [nI n, nI cp, nI l], .int f] (eH K (H1_ n cp l (mkL s (roomL c 1 3 0)) (skyL s (roomL c 1 3 0)) (stL s (roomL c 1 3 0)))) := by
  have st := stove2_ok1 c 0
  have ro := room_ok o c 0 (many := 1) (bands := 3) (by decide) (by decide) st (by decide) (by decide)
  refine ⟨roomsL c 1 3, s, f, H1_ n cp l (mkL s (roomL c 1 3 0)) (skyL s (roomL c 1 3 0)) (stL s (roomL c 1 3 0)), o, lawok1 ro hn hc hl, rfl, by show 1 ≤ 2; decide, fun i r hr => ?_, fun i j hi hj hne => ?_, rfl, by rw [law1_eq]⟩
  · match i, hr with
    | 0, hr =>
      obtain rfl : roomL c 1 3 0 = r := Option.some.inj hr
      exact ⟨room_b c 0 (by decide) (by decide) st, rfl, rfl, rfl⟩
    | i + 1, hr => cases hr
  · have hi' : i < 1 := hi
    have hj' : j < 1 := hj
    omega
theorem laid2 {K : PySem.W.Frag} (c f : Int) {s : Scl} (o : SclOk s) {n cp l : Nat} (hn : n ≤ 4) (hc : cp ≤ 30) (hl : l ≤ 30) :
    S_lawhold K [eRms (roomsL c 2 2), eScl s, .tup [nI n, nI cp, nI l], .int f] (eH K (H2_ n cp l (mkL s (roomL c 2 2 0)) (mkL s (roomL c 2 2 1)) (flowL f 1) (flowL f 0) (skyL s (roomL c 2 2 0)) (skyL s (roomL c 2 2 1)) (stL s (roomL c 2 2 0)) (stL s (roomL c 2 2 1)))) := by
  have st0 := stove2_ok2 c 0
  have st1 := stove2_ok2 c 1
  have r0 := room_ok o c 0 (many := 2) (bands := 2) (by decide) (by decide) st0 (by decide) (by decide)
  have r1 := room_ok o c 1 (many := 2) (bands := 2) (by decide) (by decide) st1 (by decide) (by decide)
  refine ⟨roomsL c 2 2, s, f, H2_ n cp l (mkL s (roomL c 2 2 0)) (mkL s (roomL c 2 2 1)) (flowL f 1) (flowL f 0) (skyL s (roomL c 2 2 0)) (skyL s (roomL c 2 2 1)) (stL s (roomL c 2 2 0)) (stL s (roomL c 2 2 1)), o, lawok2 r0 r1 (flow_in f 1) (flow_in f 0) hn hc hl, rfl, by show 2 ≤ 2; decide, fun i r hr => ?_, fun i j hi hj hne => ?_, rfl, by rw [law2_eq]⟩
  · match i, hr with
    | 0, hr =>
      obtain rfl : roomL c 2 2 0 = r := Option.some.inj hr
      exact ⟨room_b c 0 (by decide) (by decide) st0, rfl, rfl, rfl⟩
    | 1, hr =>
      obtain rfl : roomL c 2 2 1 = r := Option.some.inj hr
      exact ⟨room_b c 1 (by decide) (by decide) st1, rfl, rfl, rfl⟩
    | i + 2, hr => cases hr
  · have hi' : i < 2 := hi
    have hj' : j < 2 := hj
    have h : (i = 0 ∧ j = 1) ∨ (i = 1 ∧ j = 0) := by omega
    rcases h with ⟨rfl, rfl⟩ | ⟨rfl, rfl⟩ <;> rfl
/-! The rank of a state. -/
theorem ill_least {h : HoldM} {s : SM} : ∀ n, ill h n s → ∃ m, ill h m s ∧ ∀ k, ill h k s → m ≤ k := fun n => by
  induction n using Nat.strongRecOn with
  | ind n ih =>
    intro hn
    by_cases z : ∃ k, k < n ∧ ill h k s
    · obtain ⟨k, hk, hi⟩ := z
      exact ih k hk hi
    · exact ⟨n, hn, fun k hk => Nat.le_of_not_lt fun q => z ⟨k, q, hk⟩⟩
theorem rank_ex (h : HoldM) (s : SM) : ∃ r, RankOk h s r := by
  by_cases q : ∃ n, ill h n s
  · obtain ⟨n, hn⟩ := q
    obtain ⟨m, h1, h2⟩ := ill_least n hn
    exact ⟨some m, (fun k e => by cases e; exact h1), fun k hk => ⟨m, h2 k hk, rfl⟩⟩
  · exact ⟨none, (fun k e => by cases e), fun k hk => absurd ⟨k, hk⟩ q⟩
noncomputable def rankQ (h : HoldM) (s : SM) : Option Nat := Classical.choose (rank_ex h s)
theorem rank_ok (h : HoldM) (s : SM) : RankOk h s (rankQ h s) := Classical.choose_spec (rank_ex h s)
theorem rank_uniq {h : HoldM} {s : SM} {r q : Option Nat} (hr : RankOk h s r) (hq : RankOk h s q) : r = q := by
  cases r with
  | none =>
    cases q with
    | none => rfl
    | some m =>
      obtain ⟨n, _, e⟩ := hr.all m (hq.snd m rfl)
      cases e
  | some n =>
    obtain ⟨m, h1, e⟩ := hq.all n (hr.snd n rfl)
    subst e
    obtain ⟨k, h2, e⟩ := hr.all m (hq.snd m rfl)
    cases e
    rw [Nat.le_antisymm h2 h1]
theorem less_ok {a b : HoldM} (g : HLe a b) {s t : SM} (k : SLe s t) : noLess (rankQ a s) (rankQ b t) = true := by
  rcases no_less g k (rank_ok a s) (rank_ok b t) with e | ⟨n, m, e1, e2, h⟩
  · rw [e]
    rfl
  · rw [e1, e2]
    exact decide_eq_true h
end SK
set_option maxRecDepth 100000
set_option maxHeartbeats 4000000
namespace SK
open PySem L2 PyProof.Rows
theorem rms_at {rs : List RmL} {j : Nat} (h : j < rs.length) : atI (rs.map eRm) (j : Int) = some (eRm (rmL rs j)) := at_map rm0 h
theorem setAt {X : Cx} {ρ : Rho} {M : Fin} {e ix : Expr} {d : D} {ds : List D} {st : List Stmt} {x : Str} {pos sp px : Pos} (i jj : Nat) (he : DE X ρ e d) (hi : DE X ρ ix (nI jj)) (hk : jj < ds.length) (rest : DS X (ρ.set i (some (.own (ds.set jj d)))) st M) (h : ρ[i]? = some (some (.own ds)) := by rfl) (hN : X.N[i]? = some x := by rfl)
    (hv : Vis X.env.scope x := by first | exact Or.inl rfl | exact Or.inr (Or.inl rfl) | exact Or.inr (Or.inr rfl))
    (hps : PS X (.Assign [.Subscript (.Name x px) ix sp] e pos) (tAsg (teOf X e) (gSub (tVar i) (teOf X ix) rSetL)) := by exact ps_asg pe_of (pg_sub (pv _) pe_of set_list)) : DS X ρ (.Assign [.Subscript (.Name x px) ix sp] e pos :: st) M :=
  ds_setO i h hN hv he hi (ixN_nat hk) rest hps
theorem set_last {α : Type} (l : List α) (a b : α) {i : Nat} (h : l.length = i) : (l ++ [a]).set i b = l ++ [b] := by
  subst h
  induction l with
  | nil => rfl
  | cons x l ih => exact congrArg (x :: ·) ih
def S_lawstate (ds : List D) (d : D) : Prop := ∃ (rs : List RmL) (c : Int) (k m cp l : Nat), rs.length ≤ 2 ∧ k ≤ 100 ∧ (∀ r ∈ rs, RoomB r ∧ 2 ≤ r.marks.length) ∧ ds = [eRms rs, .tup [nI m, nI cp, nI l], .int c, nI k] ∧ d = eS (stateS rs c k m cp)
section
variable {P : Program} {w : World} {K : PySem.W.Frag} {mg : Str → Option Value} {base : Heap}
theorem c_state (T : Prg K mg) : Cal P w K mg base 2 "_law_state" ["_law_rooms_here", "_law_bounds", "_law_cell", "_law_k"] [] (spD K S_lawstate) := by
  obtain ⟨fd, F⟩ := F_law_state T
  refine mkC F (g_law_state T) sc_law_state (fun _ _ _ _ _ _ us hl => match us, hl with | [_, _, _, _], _ => rfl) (fun ds d h => ?_) fun cdv A outer s0 H E ds d hr h => ?_
  · obtain ⟨_, _, _, _, _, _, _, _, _, rfl, _⟩ := h
    rfl
  · obtain ⟨rs, c, k, m, cp, l, h2, hk, hrb, rfl, rfl⟩ := h
    have nd := sc_law_state.nd
    have dv4 : ∀ i : Int, CDivW i 4 := fun i => wide_div (b := 5) (by decide) (by decide) (by decide) (by decide)
    have q0 : ∀ {X : Cx} {ρ : Rho} {e : Expr} {pos p : Pos} {j : Nat} {r : RmL} {i : Int} {d : D}, atI [eMk r.marks, .int r.share, .int r.low, .int r.high, eStL r.stove] i = some d → DE X ρ e (eRm r) → PlainIx (.Constant (.int i) j p) → DE X ρ (.Subscript e (.Constant (.int i) j p) pos) d := fun hk a hs => de_ixT a de_int hk hs
    have b0 : ∀ {X : Cx} {ρ : Rho} {e : Expr} {pos p : Pos} {j : Nat} {i : Int} {d : D}, atI [nI m, nI cp, nI l] i = some d → DE X ρ e (.tup [nI m, nI cp, nI l]) → PlainIx (.Constant (.int i) j p) → DE X ρ (.Subscript e (.Constant (.int i) j p) pos) d := fun hk a hs => de_ixT a de_int hk hs
    refine own 4 nd (do_lst da_nil) (own 5 nd (do_lst da_nil) (own 6 nd (do_lst da_nil) (asg 7 nd (d := nI 0) (de_is de_int rfl) (asg 8 nd (d := nI 0) (de_is de_int rfl) ?_))))
    refine forR 9 nd (b_range T) (de_is (d := nI rs.length) (len_L (b_len T) (nm 0)) (by rw [List.length_map]; rfl)) (by omega) (fun i ρ' => ∃ b9 b10 b11 : Option D_, ρ' = [some (.val (eRms rs)), some (.val (.tup [nI m, nI cp, nI l])), some (.val (.int c)), some (.val (nI k)), some (.own (((List.range i).map (bandS rs c k)).map nI)), some (.own (((List.range i).map (waitS rs c k)).map nI)), some (.own (((List.range i).map (failS rs c k)).map nI)), some (.val (nI (litS rs c k m i).1)), some (.val (nI (litS rs c k m i).2)), Option.map Bd.val b9, Option.map Bd.val b10, Option.map Bd.val b11]) ⟨none, none, none, rfl⟩ ?_ ?_
    · rintro j ρ' hj' ⟨b9, b10, b11, rfl⟩
      have hj : j < rs.length := by omega
      obtain ⟨rb, two⟩ := hrb (rmL rs j) (getD_mem hj)
      have hat := rms_at hj
      have en : ∀ (f : Nat → Nat), (((List.range j).map f).map nI).length = j := fun f => by rw [List.length_map, List.length_map, List.length_range]
      have ex : ∀ (f : Nat → Nat), ((List.range (j + 1)).map f).map nI = ((List.range j).map f).map nI ++ [nI (f j)] := fun f => by rw [map_next, List.map_append]; rfl
      refine asg 10 nd (d := eStL (rmL rs j).stove) (q0 (r := rmL rs j) rfl (de_ixL (nm 0) (nm 9) hat) (by intro _ _; rfl)) ?_
      refine app 4 (ds := ((List.range j).map (bandS rs c k)).map nI) (d := nI (bandS rs c k j)) (de_is (de_mod (call (c_mix T) hr (da_cons (nm 2) (da_cons (de_is (d := nI (k + j)) (de_add (nm 3) (nm 9)) rfl) (da_one (de_is (d := nI 0) de_int rfl)))) ⟨c, k + j, 0, by omega, by decide, rfl, rfl⟩) (de_sub (len_L (b_len T) (q0 (r := rmL rs j) (d := eMk (rmL rs j).marks) rfl (de_ixL (nm 0) (nm 9) hat) (by intro _ _; rfl))) de_int) (by rw [List.length_map]; omega)) ?_) ?_ ?_
      · show D.int _ = D.int _
        rw [List.length_map]
        unfold bandS
        rw [Int.natCast_emod]
        refine congrArg (fun x => D.int (_ % x)) ?_
        omega
      · rw [en]
        exact small1000 (by omega)
      refine app 5 (ds := ((List.range j).map (waitS rs c k)).map nI) (d := nI 0) (de_is de_int rfl) (by rw [en]; exact small1000 (by omega)) ?_
      refine app 6 (ds := ((List.range j).map (failS rs c k)).map nI) (d := nI 0) (de_is de_int rfl) (by rw [en]; exact small1000 (by omega)) ?_
      refine asg 11 nd (d := nI (xS c k j)) (call (c_mix T) hr (da_cons (nm 2) (da_cons (de_is (d := nI (k + 7 * j)) (de_add (nm 3) (de_mul de_int (nm 9) (cmul (n := 3) (m := 10) (by decide) (by omega) (by decide) (by decide) (by decide)))) rfl) (da_one (de_is (d := nI 1) de_int rfl)))) ⟨c, k + 7 * j, 1, by omega, by decide, rfl, rfl⟩) ?_
      have hl0 : ∀ (f : Nat → Nat), j < (((List.range j).map f).map nI ++ [nI 0]).length := fun f => by rw [List.length_append, en]; exact Nat.lt_succ_self j
      have sl : ∀ (f : Nat → Nat) (a : D), (((List.range j).map f).map nI ++ [nI 0]).set j a = ((List.range j).map f).map nI ++ [a] := fun f a => set_last _ _ _ (en f)
      have lit1 : litS rs c k m (j + 1) = if takeS rs c k m j (litS rs c k m j).2 = true then ((litS rs c k m j).1 + 2 ^ j, (litS rs c k m j).2 + 1) else litS rs c k m j := rfl
      cases es : (rmL rs j).stove with
      | none =>
        have ew : waitS rs c k j = 0 := by unfold waitS; rw [es]
        have ef : failS rs c k j = 0 := by unfold failS; rw [es]
        have et : takeS rs c k m j (litS rs c k m j).2 = false := by unfold takeS; rw [es]; rfl
        rw [et, if_neg Bool.false_ne_true] at lit1
        refine ds_if (b := false) (DW.dt (dw_and (c := false) (c' := false) (dt_notN (d := .non) (nm 10) de_non) (fun z => by cases z))) (fun z => by cases z) fun _ => ?_
        refine ds_skip (dt_notN (d := .non) (nm 10) de_non) rfl (ds_nil (ds_nil ⟨some (nI j), some .non, some (nI (xS c k j)), ?_⟩))
        rw [ex, ex, ex, ew, ef, lit1]
        rfl
      | some t =>
        obtain ⟨_, _, st0, sf0⟩ := rb.st t es
        obtain ⟨sy, hsy⟩ : ∃ n : Nat, t.stay = (n : Int) := ⟨_, (Int.toNat_of_nonneg st0).symm⟩
        obtain ⟨fy, hfy⟩ : ∃ n : Nat, t.fails = (n : Int) := ⟨_, (Int.toNat_of_nonneg sf0).symm⟩
        have k0 : ∀ {X : Cx} {ρ : Rho} {e : Expr} {pos p : Pos} {j : Nat} {i : Int} {d : D}, atI [D.int t.heat, .int t.wood, .int t.stay, .int t.fails] i = some d → DE X ρ e (eStL (some t)) → PlainIx (.Constant (.int i) j p) → DE X ρ (.Subscript e (.Constant (.int i) j p) pos) d := fun hk a hs => de_ixT a de_int hk hs
        have w1 : waitS rs c k j = if xS c k j % 4 < 2 then xS c k j / 4 % (t.stay.toNat + 1) else 0 := by unfold waitS; rw [es]
        have w2 : failS rs c k j = if xS c k j % 4 < 2 then 0 else xS c k j / 4 % (t.fails.toNat + 1) := by unfold failS; rw [es]
        by_cases q : xS c k j % 4 < 2
        · rw [if_pos q] at w1 w2
          refine ds_if (b := true) (dt_is (DW.dt (dw_and (dt_notN (d := eStL (some t)) (nm 10) de_non) fun _ => dw_and1 (dt_lt (de_mod (nm 11) de_int (by decide)) de_int))) ?_) (fun _ => ?_) (fun z => by cases z)
          · show (true && decide (((xS c k j : Nat) : Int) % 4 < 2)) = true
            rw [Bool.true_and]
            exact decide_eq_true (by omega)
          · refine setAt 5 j (d := nI (waitS rs c k j)) (de_is (de_mod (de_div (nm 11) de_int (dv4 _)) (de_add (k0 (d := .int t.stay) rfl (nm 10) (by intro _ _; rfl)) de_int) (by omega)) ?_) (nm 9) (hl0 _) ?_
            · rw [w1, hsy]
              rfl
            · rw [sl]
              have et : (decide (((xS c k j : Nat) : Int) % 4 = 0) && decide ((((litS rs c k m j).2 : Nat) : Int) < (m : Int))) = takeS rs c k m j (litS rs c k m j).2 := by
                unfold takeS
                rw [es]
                show _ = (true && _)
                rw [Bool.true_and]
                congr 1
                · exact decide_eq_decide.mpr (by omega)
                · exact decide_eq_decide.mpr (by omega)
              refine ds_if (dt_is (DW.dt (dw_and (dt_eq (de_mod (nm 11) de_int (by decide)) de_int) fun _ => dw_and1 (dt_lt (nm 8) (b0 (d := nI m) rfl (nm 1) (by intro _ _; rfl))))) et) (fun z => ?_) (fun z => ?_)
              · rw [if_pos z] at lit1
                refine asg 7 nd (d := nI ((litS rs c k m j).1 + 2 ^ j)) (de_is (de_add (nm 7) (de_ixL (ds := ([1, 2, 4, 8] : List Nat).map nI) (do_lst (da_cons (de_is (d := nI 1) de_int rfl) (da_cons (de_is (d := nI 2) de_int rfl) (da_cons (de_is (d := nI 4) de_int rfl) (da_one (de_is (d := nI 8) de_int rfl)))))).see (nm 9) (at_map (f := nI) 1 (show j < 4 by omega)))) ?_) ?_
                · rcases (show j = 0 ∨ j = 1 by omega) with z | z
                  · rw [z]; rfl
                  · rw [z]; rfl
                · refine asg 8 nd (d := nI ((litS rs c k m j).2 + 1)) (de_is (de_add (nm 8) de_int) rfl) (ds_nil (ds_nil (ds_nil ⟨some (nI j), some (eStL (some t)), some (nI (xS c k j)), ?_⟩)))
                  rw [ex, ex, ex, w2, lit1]
                  rfl
              · rw [z, if_neg Bool.false_ne_true] at lit1
                refine ds_nil (ds_nil (ds_nil ⟨some (nI j), some (eStL (some t)), some (nI (xS c k j)), ?_⟩))
                rw [ex, ex, ex, w2, lit1]
                rfl
        · rw [if_neg q] at w1 w2
          have et : takeS rs c k m j (litS rs c k m j).2 = false := by
            unfold takeS
            rw [decide_eq_false (show ¬ xS c k j % 4 = 0 by omega), Bool.false_and, Bool.and_false]
          rw [et, if_neg Bool.false_ne_true] at lit1
          refine ds_if (b := false) (dt_is (DW.dt (dw_and (dt_notN (d := eStL (some t)) (nm 10) de_non) fun _ => dw_and1 (dt_lt (de_mod (nm 11) de_int (by decide)) de_int))) ?_) (fun z => by cases z) (fun _ => ?_)
          · show (true && decide (((xS c k j : Nat) : Int) % 4 < 2)) = false
            rw [Bool.true_and]
            exact decide_eq_false (by omega)
          · refine ds_take (dt_notN (d := eStL (some t)) (nm 10) de_non) rfl ?_
            refine setAt 6 j (d := nI (failS rs c k j)) (de_is (de_mod (de_div (nm 11) de_int (dv4 _)) (de_add (k0 (d := .int t.fails) rfl (nm 10) (by intro _ _; rfl)) de_int) (by omega)) ?_) (nm 9) (hl0 _) ?_
            · rw [w2, hfy]
              rfl
            · rw [sl]
              refine ds_nil (ds_nil (ds_nil ⟨some (nI j), some (eStL (some t)), some (nI (xS c k j)), ?_⟩))
              rw [ex, ex, ex, w1, lit1]
              rfl
    · rintro ρ' ⟨b9, b10, b11, rfl⟩
      rw [Int.toNat_natCast]
      exact ds_ret (de_tup (da_cons (tup_O 4 (b_tuple T)) (da_cons (nm 7) (da_cons (tup_O 5 (b_tuple T)) (da_cons (tup_O 6 (b_tuple T)) (da_one (de_is (d := nI (mixQ c k 2 % (cp + 1))) (de_mod (call (c_mix T) hr (da_cons (nm 2) (da_cons (nm 3) (da_one (de_is (d := nI 2) de_int rfl)))) ⟨c, k, 2, by omega, by decide, rfl, rfl⟩) (de_add (b0 (d := nI cp) rfl (nm 1) (by intro _ _; rfl)) de_int) (by omega)) rfl))))))) rfl
end
end SK
set_option maxRecDepth 100000
set_option maxHeartbeats 4000000
namespace SK
open PySem L2 PyProof.Rows
section
variable {X : Cx} {ρ : Rho} {e1 e2 e3 : Expr} {pos p lp cpos : Pos} {h : HoldM} {s : SM}
/-- ranks_of(hold, [state])[state] -/
theorem de_rank {kb kw kf : Nat} (T : Prg X.K X.mg) (hr : Room 12 X.A) (wf : WF h) (fw : Few h kb kw kf) (va : Valid h s) (ha : DE X ρ e1 (eH X.K h)) (hs : DE X ρ e2 (eS s)) (hs' : DE X ρ e3 (eS s)) (hg : Gl X "ranks_of" := by rfl) (hn : NoSl e3 := by intro _ _; rfl)
    (he : starEach [e1, .List [e2] lp] X.env = (false, eval e1 X.env) :: starEach [.List [e2] lp] X.env := by rfl) (he2 : starEach [.List [e2] lp] X.env = (false, eval (.List [e2] lp) X.env) :: starEach [] X.env := by rfl) (he3 : starEach [e2] X.env = (false, eval e2 X.env) :: starEach [] X.env := by rfl) :
    DE X ρ (.Subscript (.Call (.Name "ranks_of" p) [e1, .List [e2] lp] [] cpos) e3 pos) (eON (rankQ h s)) := by
  obtain ⟨fd, F, hF⟩ := f_ranks_of (P := X.prog) (w := X.w) (base := X.base) T
  obtain ⟨ds, h1, h2⟩ := F.binds1 (ps := ["hold", "states", "limit"]) 2 0 (fun z => nomatch z) rfl fun T kV doc pm an cdv ct us its hu hi => match us, its, hu, hi with | [_, _], [_], _, _ => ⟨_, rfl, rfl⟩
  have da : DA X ρ [e1, .List [e2] lp] [eH X.K h, .lst [eS s]] := da_cons ha (da_one (do_lst (da_one hs he3)).see he2) he
  refine fun A B σ H H1 Q t k => te_run (pe_nget hr.units (pe_call hF hr hg (g_ranks_of T) F.kp h2 h1 pass0 pa_of (by decide) he (by rw [he2]; rfl)) pe_of hn) ?_
  refine da A B σ H H1 _ t fun vs G H2 st r => ?_
  cases r with
  | cons r1 r =>
  cases r with
  | cons r2 r =>
  cases r
  refine ⟨_, _, h, [s], kb, kw, kf, G, rfl, st.s2, r1, r2, wf, fw, fun x hx => by rw [List.mem_singleton.mp hx]; exact va, fun G2 H3 pf fb Fr st2 hpf hrep hin hrk => ?_⟩
  refine hs' A B σ G2 H3 _ (t.step (st.trans st2)) fun y G3 H4 st3 ry => ?_
  obtain ⟨yb, rfl⟩ : ∃ b, y = .ref b := by
    cases ry with
    | tup _ _ => exact ⟨_, rfl⟩
  have sx : s ∈ [s] := List.mem_singleton.mpr rfl
  refine ⟨pf, fE fb Fr, eS s, vO (Fr s), rfl, ⟨G3, st3.s2, .inl (st3.s3 _ _ hpf), kok_fE fun x hx => (hrep x hx).mono st3.s1, isKey_eS _, depth_eS _, ry, yb, rfl⟩, fE_val (hin s sx), ?_⟩
  rw [rank_uniq (hrk s sx) (rank_ok h s)]
  refine k _ G3 H4 ((st.trans st2).trans st3) ?_
  cases rankQ h s with
  | none => exact .non
  | some n => exact .int
end
section
variable {P : Program} {w : World} {K : PySem.W.Frag} {mg : Str → Option Value} {base : Heap}
theorem c_like2 (T : Prg K mg) : Cal P w K mg base 6 "hold_like" ["hold", "most", "cap", "load"] [.non, .non] (spD K (S_like K)) := by
  obtain ⟨fd, F, hF⟩ := f_like (P := P) (w := w) (base := base) T
  obtain ⟨ds, h1, h2⟩ := F.binds1 (ps := ["hold", "most", "cap", "load"]) 2 1 (fun z => nomatch z) rfl fun T kV doc pm an cdv ct us its hu hi => match us, its, hu, hi with | [_, _], [_, _, _], _, _ => ⟨_, rfl, rfl⟩
  exact ⟨_, fd, ds, g_hold_like T, F.kp, h2, h1, hF⟩
theorem c_like3 (T : Prg K mg) : Cal P w K mg base 6 "hold_like" ["hold", "most", "cap", "load"] [.non] (spD K (S_like K)) := by
  obtain ⟨fd, F, hF⟩ := f_like (P := P) (w := w) (base := base) T
  obtain ⟨ds, h1, h2⟩ := F.binds1 (ps := ["hold", "most", "cap", "load"]) 3 2 (fun z => nomatch z) rfl fun T kV doc pm an cdv ct us its hu hi => match us, its, hu, hi with | [_, _, _], [_, _, _], _, _ => ⟨_, rfl, rfl⟩
  exact ⟨_, fd, ds, g_hold_like T, F.kp, h2, h1, hF⟩
theorem c_like4 (T : Prg K mg) : Cal P w K mg base 6 "hold_like" ["hold", "most", "cap", "load"] [] (spD K (S_like K)) := by
  obtain ⟨fd, F, hF⟩ := f_like (P := P) (w := w) (base := base) T
  obtain ⟨ds, h1, h2⟩ := F.binds1 (ps := ["hold", "most", "cap", "load"]) 4 3 (fun z => nomatch z) rfl fun T kV doc pm an cdv ct us its hu hi => match us, its, hu, hi with | [_, _, _, _], [_, _, _], _, _ => ⟨_, rfl, rfl⟩
  exact ⟨_, fd, ds, g_hold_like T, F.kp, h2, h1, hF⟩
end
end SK
set_option maxRecDepth 100000
set_option maxHeartbeats 4000000
namespace SK
open PySem L2 PyProof.Rows
def manyF (c : Int) : Nat := if c % 4 = 3 then 2 else 1
def moF (c : Int) : Nat := (c / 4 % 5).toNat
def cpF (c : Int) : Nat := (c / 20 % 4).toNat
def ldF (c : Int) : Nat := (c / 80 % 3).toNat
theorem moF_eq (c : Int) : c / 4 % 5 = (moF c : Int) ∧ moF c ≤ 4 := by unfold moF; omega
theorem cpF_eq (c : Int) : c / 20 % 4 = (cpF c : Int) ∧ cpF c ≤ 3 := by unfold cpF; omega
theorem ldF_eq (c : Int) : c / 80 % 3 = (ldF c : Int) ∧ ldF c ≤ 2 := by unfold ldF; omega
/-- all that is laid: the rooms, the hold by its bounds -/
theorem lay_ex (K : PySem.W.Frag) (c0 c : Int) {s : Scl} (o : SclOk s) (f : Int) : ∃ F : Nat → Nat → Nat → HoldM, Fam F (roomsL c (manyF c0) (4 - manyF c0)) ∧
    (∀ {n cp l : Nat}, n ≤ 4 → cp ≤ 30 → l ≤ 30 → S_lawhold K [eRms (roomsL c (manyF c0) (4 - manyF c0)), eScl s, .tup [nI n, nI cp, nI l], .int f] (eH K (F n cp l))) ∧ (∀ r ∈ roomsL c (manyF c0) (4 - manyF c0), RoomB r ∧ 2 ≤ r.marks.length) := by
  unfold manyF
  split
  · exact ⟨_, fam2 c f o, fun a b d => laid2 c f o a b d, rooms_b (.inr ⟨rfl, rfl⟩)⟩
  · exact ⟨_, fam1 c o, fun a b d => laid1 c f o a b d, rooms_b (.inl ⟨rfl, rfl⟩)⟩
def S_law (ds : List D) (d : D) : Prop := ∃ ns : List Int, ds = [.seq (ns.map D.int)] ∧ d = .bl true
section
variable {P : Program} {w : World} {K : PySem.W.Frag} {mg : Str → Option Value} {base : Heap}
theorem ok_law (T : Prg K mg) {fd : FuncData} (F : FunD K "law" "law" (defArgs s_law) (defBody s_law) (defScope s_law) [] [] (He.ga K "law") fd) : FnOk P w K mg base CX0 13 (He.ga K "law") fd ["_law_script"] (spD K S_law) := by
  refine okD F sc_law (fun ds d h => ?_) fun cdv A outer s H E ds d hr h => ?_
  · obtain ⟨_, rfl, _⟩ := h
    rfl
  · obtain ⟨ns, rfl, rfl⟩ := h
    have nd := sc_law.nd
    have dv : ∀ (i j : Int), 0 < j → j ≤ 240 → CDivW i j := fun i j h1 h2 => wide_div (b := 8) h1 (by omega) (by decide) (by decide)
    have so := scale_ok (ns.getD 2 0)
    obtain ⟨m1, m2⟩ := moF_eq (ns.getD 0 0)
    obtain ⟨c1, c2⟩ := cpF_eq (ns.getD 0 0)
    obtain ⟨l1, l2⟩ := ldF_eq (ns.getD 0 0)
    obtain ⟨Fm, fam, lay, hrb⟩ := lay_ex K (ns.getD 0 0) (ns.getD 1 0) so (ns.getD 0 0 / 240 % 256)
    have many2 : manyF (ns.getD 0 0) ≤ 2 ∧ 1 ≤ manyF (ns.getD 0 0) := by unfold manyF; split <;> omega
    have manyE : (1 : Int) + (if decide (ns.getD 0 0 % 4 = 3) = true then 1 else 0) = ((manyF (ns.getD 0 0) : Nat) : Int) := by
      unfold manyF
      by_cases q : ns.getD 0 0 % 4 = 3
      · rw [if_pos (decide_eq_true q), if_pos q]; rfl
      · rw [if_neg (by rw [decide_eq_false q]; exact Bool.false_ne_true), if_neg q]; rfl
    generalize moF (ns.getD 0 0) = mo at m1 m2
    generalize cpF (ns.getD 0 0) = cp at c1 c2
    generalize ldF (ns.getD 0 0) = ld at l1 l2
    generalize manyF (ns.getD 0 0) = mn at many2 manyE fam lay hrb
    have rsl : (roomsL (ns.getD 1 0) mn (4 - mn)).length = mn := by unfold roomsL; rw [List.length_map, List.length_range]
    generalize er : roomsL (ns.getD 1 0) mn (4 - mn) = rs at fam lay hrb rsl
    have cell : ∀ (k : Nat), (∃ (ns' : List Int) (k' : Nat), [D.seq (ns.map D.int), nI k] = [.seq (ns'.map D.int), nI k'] ∧ D.int (ns.getD k 0) = .int (ns'.getD k' 0)) := fun k => ⟨ns, k, rfl, rfl⟩
    let s0 : SM := stateS rs (ns.getD 3 0) 1 mo cp
    have s0h : s0.heap ≤ cp := Nat.le_of_lt_succ (Nat.mod_lt _ (Nat.succ_pos _))
    let wd : Nat := min 4 (mo + 1)
    have wd4 : wd ≤ 4 ∧ mo ≤ wd := by show min 4 (mo + 1) ≤ 4 ∧ mo ≤ min 4 (mo + 1); omega
    have v0 : Valid (Fm mo cp ld) s0 := by
      have := state_valid (fam.wf (n := mo) (c := cp) (l := ld) m2 (by omega) (by omega)) fam.laid (ns.getD 3 0) 1
      rw [fam.mo, fam.cp] at this
      exact this
    have vl : ∀ {n c l : Nat} (x : Nat), mo ≤ n → cp ≤ c → ld ≤ l → x ≤ c → Valid (Fm n c l) { s0 with heap := x } := fun {n c l} x a b d hx => v0.more (fam.up a b d) x (by rw [fam.cp]; exact hx)
    have less : ∀ {n c l : Nat} (x : Nat), mo ≤ n → cp ≤ c → ld ≤ l → s0.heap ≤ x → noLess (rankQ (Fm mo cp ld) s0) (rankQ (Fm n c l) { s0 with heap := x }) = true := fun x a b d hx => less_ok (fam.up a b d) (heap_le s0 x hx)
    obtain ⟨kb, kw, kf, few0⟩ := fam.few (n := mo) (c := cp) (l := ld) (by omega)
    refine asg 1 nd (d := .int (ns.getD 0 0)) (call (c_cell T) (hr.mono (by decide)) (da_cons (nm 0) (da_one (de_is (d := nI 0) de_int rfl))) (cell 0)) ?_
    refine asg 2 nd (d := nI mn) (de_is (de_add de_int (int_B (b_int T) (de_eq (de_mod (nm 1) de_int (by decide)) de_int))) (congrArg D.int manyE)) ?_
    refine asg 3 nd (d := .tup [nI mo, nI cp, nI ld]) (de_is (de_tup (da_cons (de_mod (de_div (nm 1) de_int (dv _ _ (by decide) (by decide))) de_int (by decide)) (da_cons (de_mod (de_div (nm 1) de_int (dv _ _ (by decide) (by decide))) de_int (by decide)) (da_one (de_mod (de_div (nm 1) de_int (dv _ _ (by decide) (by decide))) de_int (by decide)))))) (by rw [m1, c1, l1]; rfl)) ?_
    refine asg 4 nd (d := eRms rs) (call (c_rooms T) (hr.mono (by decide)) (da_cons (call (c_cell T) (hr.mono (by decide)) (da_cons (nm 0) (da_one (de_is (d := nI 1) de_int rfl))) (cell 1)) (da_cons (nm 2) (da_one (de_is (d := nI (4 - mn)) (de_sub de_int (nm 2)) (congrArg D.int (show (4 : Int) - (mn : Int) = ((4 - mn : Nat) : Int) by omega)))))) ⟨ns.getD 1 0, mn, 4 - mn, by omega, by omega, by omega, rfl, by rw [er]⟩) ?_
    refine asg 5 nd (d := eH K (Fm mo cp ld)) (call (c_lawhold T) (hr.mono (by decide)) (da_cons (nm 4) (da_cons (call (c_scale T) (hr.mono (by decide)) (da_one (call (c_cell T) (hr.mono (by decide)) (da_cons (nm 0) (da_one (de_is (d := nI 2) de_int rfl))) (cell 2))) ⟨ns.getD 2 0, rfl, rfl⟩) (da_cons (nm 3) (da_one (de_mod (de_div (nm 1) de_int (dv _ _ (by decide) (by decide))) de_int (by decide)))))) (lay m2 (by omega) (by omega))) ?_
    refine asg 6 nd (d := eS s0) (call (c_state T) (hr.mono (by decide)) (da_cons (nm 4) (da_cons (nm 3) (da_cons (call (c_cell T) (hr.mono (by decide)) (da_cons (nm 0) (da_one (de_is (d := nI 3) de_int rfl))) (cell 3)) (da_one (de_is (d := nI 1) de_int rfl))))) ⟨rs, ns.getD 3 0, 1, mo, cp, ld, by omega, by decide, hrb, rfl, rfl⟩) ?_
    refine asg 7 nd (d := eON (rankQ (Fm mo cp ld) s0)) (de_rank T hr (fam.wf m2 (by omega) (by omega)) few0 v0 (nm 5) (nm 6) (nm 6)) ?_
    refine asg 8 nd (d := nI wd) (de_is (min_ (b_min T) de_int (de_add (de_ixT (d := nI mo) (nm 3) de_int rfl) de_int)) (congrArg D.int (show min (4 : Int) ((mo : Int) + 1) = ((min 4 (mo + 1) : Nat) : Int) by omega))) ?_
    have wf0 := fam.wf (n := mo) (c := cp) (l := ld) m2 (by omega) (by omega)
    have lk : ∀ (on oc ol : Option Nat) (n c l : Nat), on.getD mo = n → oc.getD cp = c → ol.getD ld = l → n ≤ 4 → c ≤ 30 → l ≤ 30 → S_like K [eH K (Fm mo cp ld), eON on, eON oc, eON ol] (eH K (Fm n c l)) := fun on oc ol n c l e1 e2 e3 a b d =>
      ⟨Fm mo cp ld, on, oc, ol, wf0, by rw [fam.mo, fam.cp, fam.ld, e1, e2, e3]; exact fam.lk a b d, rfl, by rw [fam.mo, fam.cp, fam.ld, e1, e2, e3, fam.le]⟩
    let os : List HoldM := [Fm mo (cp + 1) ld, Fm mo cp (ld + 1), Fm wd cp ld, Fm wd (cp + 1) (ld + 1)]
    have hos : ∀ a ∈ os, ∃ n c l, a = Fm n c l ∧ mo ≤ n ∧ n ≤ 4 ∧ cp ≤ c ∧ c ≤ 4 ∧ ld ≤ l ∧ l ≤ 30 := fun a ha => by
      rcases List.mem_cons.mp ha with rfl | ha
      · exact ⟨mo, cp + 1, ld, rfl, by omega, by omega, by omega, by omega, by omega, by omega⟩
      rcases List.mem_cons.mp ha with rfl | ha
      · exact ⟨mo, cp, ld + 1, rfl, by omega, by omega, by omega, by omega, by omega, by omega⟩
      rcases List.mem_cons.mp ha with rfl | ha
      · exact ⟨wd, cp, ld, rfl, by omega, by omega, by omega, by omega, by omega, by omega⟩
      rw [List.mem_singleton.mp ha]
      exact ⟨wd, cp + 1, ld + 1, rfl, by omega, by omega, by omega, by omega, by omega, by omega⟩
    have len5 : ∀ n : Nat, n ≤ 1000 → n ≤ sizeLine := fun n h => Nat.le_of_lt (small1000 h)
    have b0 : ∀ {X : Cx} {ρ : Rho} {e : Expr} {pos p : Pos} {j : Nat} {i : Int} {d : D}, atI [nI mo, nI cp, nI ld] i = some d → DE X ρ e (.tup [nI mo, nI cp, nI ld]) → PlainIx (.Constant (.int i) j p) → DE X ρ (.Subscript e (.Constant (.int i) j p) pos) d := fun hk a hs => de_ixT a de_int hk hs
    refine own 9 nd (ds := [eH K (Fm mo (cp + 1) ld), eH K (Fm mo cp (ld + 1)), eH K (Fm wd cp ld)])
      (do_lst (da_cons (de_call (dd := [.non]) (c_like3 T) (hr.mono (by decide)) rfl (da_cons (nm 5) (da_cons de_non (da_one (de_is (d := nI (cp + 1)) (de_add (b0 (d := nI cp) rfl (nm 3) (by intro _ _; rfl)) de_int) rfl)))) (lk none (some (cp + 1)) none mo (cp + 1) ld rfl rfl rfl m2 (by omega) (by omega)) (fun _ => .cons .non .nil))
        (da_cons (call (c_like4 T) (hr.mono (by decide)) (da_cons (nm 5) (da_cons de_non (da_cons de_non (da_one (de_is (d := nI (ld + 1)) (de_add (b0 (d := nI ld) rfl (nm 3) (by intro _ _; rfl)) de_int) rfl))))) (lk none none (some (ld + 1)) mo cp (ld + 1) rfl rfl rfl m2 (by omega) (by omega)))
          (da_one (de_call (dd := [.non, .non]) (c_like2 T) (hr.mono (by decide)) rfl (da_cons (nm 5) (da_one (nm 8))) (lk (some wd) none none wd cp ld rfl rfl rfl wd4.1 (by omega) (by omega)) (fun _ => .cons .non (.cons .non .nil))))))) ?_
    refine app 9 (d := eH K (Fm wd (cp + 1) (ld + 1))) (call (c_like4 T) (hr.mono (by decide)) (da_cons (nm 5) (da_cons (nm 8) (da_cons (de_is (d := nI (cp + 1)) (de_add (b0 (d := nI cp) rfl (nm 3) (by intro _ _; rfl)) de_int) rfl) (da_one (de_is (d := nI (ld + 1)) (de_add (b0 (d := nI ld) rfl (nm 3) (by intro _ _; rfl)) de_int) rfl))))) (lk (some wd) (some (cp + 1)) (some (ld + 1)) wd (cp + 1) (ld + 1) rfl rfl rfl wd4.1 (by omega) (by omega))) (small1000 (Nat.le_of_ble_eq_true rfl)) ?_
    refine frz 9 ?_
    refine forL os (eH K) 10 nd (nm 9) (fun i ρ' => ∃ b10 : Option D_, ρ' = [some (.val (.seq (ns.map D.int))), some (.val (.int (ns.getD 0 0))), some (.val (nI mn)), some (.val (.tup [nI mo, nI cp, nI ld])), some (.val (eRms rs)), some (.val (eH K (Fm mo cp ld))), some (.val (eS s0)), some (.val (eON (rankQ (Fm mo cp ld) s0))), some (.val (nI wd)), some (.val (.lst (os.map (eH K)))), Option.map Bd.val b10, none, none]) ⟨none, rfl⟩ ?_ ?_
    · rintro i a ρ' hi ⟨b10, rfl⟩
      obtain ⟨n, c, l, rfl, h1, h2, h3, h4, h5, h6⟩ := hos a (List.mem_of_getElem? hi)
      obtain ⟨kb', kw', kf', few⟩ := fam.few (n := n) (c := c) (l := l) h4
      have va : Valid (Fm n c l) s0 := vl s0.heap h1 h3 h5 (Nat.le_trans s0h h3)
      have ls : noLess (rankQ (Fm mo cp ld) s0) (rankQ (Fm n c l) s0) = true := less s0.heap h1 h3 h5 (Nat.le_refl _)
      refine ds_skip (dt_not (dt_val (call (c_no_less T) (hr.mono (by decide)) (da_cons (nm 7) (da_one (de_rank T hr (fam.wf h2 (by omega) h6) few va (nm 10) (nm 6) (nm 6)))) ⟨_, _, rfl, rfl⟩))) (by rw [ls]; rfl) (ds_nil ⟨some (eH K (Fm n c l)), rfl⟩)
    · rintro ρ' ⟨b10, rfl⟩
      refine asg 11 nd (d := eS { s0 with heap := min cp (s0.heap + 1) }) (de_is (de_catT (as := [eN s0.bands, nI s0.burn, eN s0.waits, eN s0.failed]) (bs := [nI (min cp (s0.heap + 1))]) (de_is (de_head (n := 4) (as := [eN s0.bands, nI s0.burn, eN s0.waits, eN s0.failed, nI s0.heap]) (nm 6) (de_is (d := .int ((4 : Nat) : Int)) de_int rfl)) rfl) (de_tup (da_one (de_is (d := nI (min cp (s0.heap + 1))) (min_ (b_min T) (b0 (d := nI cp) rfl (nm 3) (by intro _ _; rfl)) (de_add (sh (nm 6)) de_int)) (congrArg D.int (show min (cp : Int) ((s0.heap : Int) + 1) = ((min cp (s0.heap + 1) : Nat) : Int) by omega))))) (len5 5 (by decide))) rfl) ?_
      have va := vl (n := mo) (c := cp) (l := ld) (min cp (s0.heap + 1)) (Nat.le_refl _) (Nat.le_refl _) (Nat.le_refl _) (Nat.min_le_left ..)
      have ls := less (n := mo) (c := cp) (l := ld) (min cp (s0.heap + 1)) (Nat.le_refl _) (Nat.le_refl _) (Nat.le_refl _) (by omega)
      refine ds_skip (dt_not (dt_val (call (c_no_less T) (hr.mono (by decide)) (da_cons (nm 7) (da_one (de_rank T hr wf0 few0 va (nm 5) (nm 11) (nm 11)))) ⟨_, _, rfl, rfl⟩))) (by rw [ls]; rfl) ?_
      refine asg 12 nd (d := eS { s0 with heap := s0.heap + 1 }) (de_is (de_catT (as := [eN s0.bands, nI s0.burn, eN s0.waits, eN s0.failed]) (bs := [nI (s0.heap + 1)]) (de_is (de_head (n := 4) (as := [eN s0.bands, nI s0.burn, eN s0.waits, eN s0.failed, nI s0.heap]) (nm 6) (de_is (d := .int ((4 : Nat) : Int)) de_int rfl)) rfl) (de_tup (da_one (de_is (d := nI (s0.heap + 1)) (de_add (sh (nm 6)) de_int) rfl))) (len5 5 (by decide))) rfl) ?_
      obtain ⟨kb', kw', kf', few⟩ := fam.few (n := wd) (c := cp + 1) (l := ld + 1) (by omega)
      have va2 := vl (n := wd) (c := cp + 1) (l := ld + 1) (s0.heap + 1) wd4.2 (Nat.le_succ _) (Nat.le_succ _) (by omega)
      have ls2 := less (n := wd) (c := cp + 1) (l := ld + 1) (s0.heap + 1) wd4.2 (Nat.le_succ _) (Nat.le_succ _) (Nat.le_succ _)
      exact ds_ret (call (c_no_less T) (hr.mono (by decide)) (da_cons (nm 7) (da_one (de_rank T hr (fam.wf wd4.1 (by omega) (by omega)) few va2 (de_ixL (ds := os.map (eH K)) (d := eH K (Fm wd (cp + 1) (ld + 1))) (nm 9) de_int rfl) (nm 12) (nm 12)))) ⟨_, _, rfl, rfl⟩) (congrArg D.bl ls2)
end
end SK
set_option maxRecDepth 100000
set_option maxHeartbeats 0
namespace SK
open PySem PySem.Spec PyProof.Rows L2
theorem facts {P : Program} {w : World} {K : PySem.W.Frag} {h : Heap} {mg : Str → Option Value} {f : Addr} (X : K.In h) (G : h.Ns mainGlobals mg) (hfa : mg ("law" : Str) = some (.ref f)) (c : He.SaysD fa fn K) (e : ex K = true) :
    ∃ fd : FuncData, (∀ (s : Shared) (v : Value), BindsTo s fd ⟨[v], []⟩ [("_law_script", v)]) ∧ ∀ base : Heap, K.In base → base.Ns mainGlobals mg → FnOk P w K mg base CX0 13 f fd ["_law_script"] (spD K S_law) := by
  have T : Prg K mg := ⟨c, e, h, X, G⟩
  obtain ⟨fd, F⟩ := F_law T
  have e2 := hfa.symm.trans (g_law T)
  cases e2
  have b := FunD.bindsA (ps := ["_law_script"]) F fun _ _ _ _ _ _ us hl => match us, hl with | [_], _ => rfl
  refine ⟨fd, fun s v => b s [v] rfl, fun base _ _ => ok_law T F⟩
end SK
open PySem PySem.W PySem.Calls PyProof.Rows
theorem PySem.Challenge.cw_stoke_k64_whole_more_never_hurts_holds : PySem.Challenge.rw_stoke_k64_whole_more_never_hurts.Holds := by
  w_on; o_law
  refine HandSHeadRun.head_any (r := OpenLaw.row PySem.Challenge.rw_stoke_k64_whole_more_never_hurts) (q := view (OpenLaw.row PySem.Challenge.rw_stoke_k64_whole_more_never_hurts).prog [70]) (H := SK.hk) (ob := SK.ob) (M := 12000) (loose := SK.loose) (d := HandSHeadRun.topDef (OpenLaw.row PySem.Challenge.rw_stoke_k64_whole_more_never_hurts).prog 70) (kwd := []) SK.ob_eq
    (by kernel_rfl) (fun s => by kernel_rfl) SK.run (by kernel_rfl) (by kernel_rfl) (by kernel_rfl) (by rfl) (by first | assumption | decide +kernel) (by decide +kernel) ⟨rfl, rfl, rfl, rfl, rfl, by decide +kernel⟩ ?hw ?hc
  case hw => w_witness2
  case hc =>
    refine L2.walk_ofE (l := PySem.Challenge.rw_stoke_k64_whole_more_never_hurts) (n := 63) (k := 13) (x := "_law_script") (CX := L2.CX0) rfl (by decide) (by kernel_rfl) ⟨rfl, by decide, by decide⟩ ?F (fun _ _ _ _ z => z)
    intro w mg fa h Y G hmg0
    obtain ⟨K, KX, c, e⟩ := Y
    have hmg : mg ("law" : PySem.Str) = some (.ref fa) := by
      have e : (HandSHeadRun.topDef (OpenLaw.row PySem.Challenge.rw_stoke_k64_whole_more_never_hurts).prog 70).name = ("law" : PySem.Str) := by kernel_rfl
      rw [← e]
      exact hmg0
    obtain ⟨fd, hb, hF⟩ := SK.facts (P := (PySem.Challenge.rw_stoke_k64_whole_more_never_hurts).prog) (w := w) KX G hmg c e
    exact ⟨K, fd, SK.spD K SK.S_law, KX, hb, fun H a ns hl _ hS => ⟨[.seq (ns.map SK.D.int)], .bl true, H, L2.Same.refl _, .cons (.seq hS (SK.Reps.ints ns)) .nil, ⟨ns, rfl, rfl⟩, fun v G H2 _ r => by cases r; rfl⟩, hF⟩
