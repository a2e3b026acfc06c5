import PyProof.Rows.All
import HandS.ForMost
import HandS.TupAny
import HandS.TupMul
import HandS.Conv
import HandS.SortInts
import HandS.Style
import HandS.IsInst
import HandS.Wide
import HandS.Deep
import HandS.Zip
import HandS.Rev
import HandS.RevRange
import KE.GoesEnum
import KE.GoesMore
import KE.SortData
import KE.DataEq
import HandS.SortKw
import HandS.SetFor
import HandS.Flt
import PySem.Challenge.RW_sumwright_k35_partitions_by_gaps
set_option Elab.async false
set_option linter.all false
set_option maxRecDepth 100000
section
/-! FL: the functional layer: pure data D, worlds, judgements. -/
namespace FL
open PySem PySem.Spec PyProof.Rows L2

/-- pure data -/
inductive D where
  | non | bl (b : Bool) | int (i : Int) | str (x : Str) | tup (ds : List D) | lst (ds : List D) | dic (kvs : List (D × D)) | tok

abbrev Ora := List Int × Int
abbrev Qa := Option (Addr × Addr)
def Qfree (q : Qa) (a : Addr) : Prop := ∀ p, q = some p → a ≠ p.1 ∧ a ≠ p.2

def kD : Key → D
  | .inl i => .int i
  | .inr x => .str x

section
variable (K : PySem.W.Frag) (q : Qa) (F : Hp)
mutual
inductive Rep : V → D → Prop
  | non : Rep .non .non
  | bl (b : Bool) : Rep (.bl b) (.bl b)
  | int (i : Int) : Rep (.int i) (.int i)
  | str (x : Str) : Rep (.str x) (.str x)
  | tup {a : Addr} {vs : List V} {ds : List D} : SqT K F a vs → Reps vs ds → Rep (.ref a) (.tup ds)
  | lst {a : Addr} {vs : List V} {ds : List D} : F a = some (.lst vs) → Reps vs ds → Rep (.ref a) (.lst ds)
  | dic {a : Addr} {kv : List (Key × V)} {kvs : List (D × D)} : Rd F a (.dK kv) → RepKv kv kvs → Rep (.ref a) (.dic kvs)
  | dit {a : Addr} {kv : List (List Key × V)} {kvs : List (D × D)} : Rd F a (.dT kv) → RepKt kv kvs → Rep (.ref a) (.dic kvs)
  | tok {a c : Addr} : q = some (a, c) → Rep (.ref a) .tok
inductive Reps : List V → List D → Prop
  | nil : Reps [] []
  | cons {v : V} {vs : List V} {d : D} {ds : List D} : Rep v d → Reps vs ds → Reps (v :: vs) (d :: ds)
inductive RepKv : List (Key × V) → List (D × D) → Prop
  | nil : RepKv [] []
  | cons {k : Key} {v : V} {vs : List (Key × V)} {d : D} {ds : List (D × D)} : Rep v d → RepKv vs ds → RepKv ((k, v) :: vs) ((kD k, d) :: ds)
inductive RepKt : List (List Key × V) → List (D × D) → Prop
  | nil : RepKt [] []
  | cons {k : List Key} {v : V} {vs : List (List Key × V)} {d : D} {ds : List (D × D)} : Rep v d → RepKt vs ds → RepKt ((k, v) :: vs) ((.tup (k.map kD), d) :: ds)
end
end

section
variable {K : PySem.W.Frag} {q : Qa} {F F' F'' H H' H'' : Hp}

theorem same_rd {a : Addr} {u : HO} (e : Same F F') (h : Rd F a u) : Rd F' a u := by
  rcases h with h | ⟨o, h⟩
  · exact .inl (e _ _ h)
  · exact .inr ⟨o, e _ _ h⟩
theorem same_sqt {a : Addr} {vs : List V} (e : Same F F') (h : SqT K F a vs) : SqT K F' a vs := by
  rcases h with h | h
  · exact .inl (same_rd e h)
  · exact .inr h
mutual
theorem Rep.mono (e : Same F F') : ∀ {v : V} {d : D}, Rep K q F v d → Rep K q F' v d
  | _, _, .non => .non
  | _, _, .bl b => .bl b
  | _, _, .int i => .int i
  | _, _, .str x => .str x
  | _, _, .tup h r => .tup (same_sqt e h) (Reps.mono e r)
  | _, _, .lst h r => .lst (e _ _ h) (Reps.mono e r)
  | _, _, .dic h r => .dic (same_rd e h) (RepKv.mono e r)
  | _, _, .dit h r => .dit (same_rd e h) (RepKt.mono e r)
  | _, _, .tok h => .tok h
theorem Reps.mono (e : Same F F') : ∀ {v : List V} {d : List D}, Reps K q F v d → Reps K q F' v d
  | _, _, .nil => .nil
  | _, _, .cons h r => .cons (Rep.mono e h) (Reps.mono e r)
theorem RepKv.mono (e : Same F F') : ∀ {v : List (Key × V)} {d : List (D × D)}, RepKv K q F v d → RepKv K q F' v d
  | _, _, .nil => .nil
  | _, _, .cons h r => .cons (Rep.mono e h) (RepKv.mono e r)
theorem RepKt.mono (e : Same F F') : ∀ {v : List (List Key × V)} {d : List (D × D)}, RepKt K q F v d → RepKt K q F' v d
  | _, _, .nil => .nil
  | _, _, .cons h r => .cons (Rep.mono e h) (RepKt.mono e r)
end
theorem Reps.length : ∀ {v : List V} {d : List D}, Reps K q F v d → v.length = d.length
  | _, _, .nil => rfl
  | _, _, .cons _ r => congrArg (· + 1) (Reps.length r)
theorem Reps.append : ∀ {v w : List V} {d e : List D}, Reps K q F v d → Reps K q F w e → Reps K q F (v ++ w) (d ++ e)
  | _, _, _, _, .nil, s => s
  | _, _, _, _, .cons h r, s => .cons h (Reps.append r s)
theorem Reps.get : ∀ {v : List V} {d : List D} {i : Nat} {x : D}, Reps K q F v d → d[i]? = some x → ∃ u, v[i]? = some u ∧ Rep K q F u x
  | _, _, i, x, .nil, e => by simp at e
  | _, _, 0, x, .cons h r, e => by simp at e; subst e; exact ⟨_, rfl, h⟩
  | _, _, i + 1, x, .cons h r, e => by
    obtain ⟨u, h1, h2⟩ := Reps.get (i := i) (x := x) r (by simpa using e)
    exact ⟨u, by simpa using h1, h2⟩
theorem Reps.getV : ∀ {v : List V} {d : List D} {i : Nat} {u : V}, Reps K q F v d → v[i]? = some u → ∃ x, d[i]? = some x ∧ Rep K q F u x
  | _, _, i, x, .nil, e => by simp at e
  | _, _, 0, x, .cons h r, e => by simp at e; subst e; exact ⟨_, rfl, h⟩
  | _, _, i + 1, x, .cons h r, e => by
    obtain ⟨u, h1, h2⟩ := Reps.getV (i := i) (u := x) r (by simpa using e)
    exact ⟨u, by simpa using h1, h2⟩
theorem Reps.take : ∀ (n : Nat) {v : List V} {d : List D}, Reps K q F v d → Reps K q F (v.take n) (d.take n)
  | 0, _, _, _ => by rw [List.take_zero, List.take_zero]; exact .nil
  | _ + 1, _, _, .nil => .nil
  | n + 1, _, _, .cons h r => .cons h (Reps.take n r)
theorem Reps.drop : ∀ (n : Nat) {v : List V} {d : List D}, Reps K q F v d → Reps K q F (v.drop n) (d.drop n)
  | 0, _, _, h => h
  | _ + 1, _, _, .nil => .nil
  | n + 1, _, _, .cons h r => Reps.drop n r
theorem Reps.set : ∀ (n : Nat) {v : List V} {d : List D} {u : V} {x : D}, Reps K q F v d → Rep K q F u x → Reps K q F (v.set n u) (d.set n x)
  | _, _, _, _, _, .nil, _ => .nil
  | 0, _, _, _, _, .cons h r, e => .cons e r
  | n + 1, _, _, _, _, .cons h r, e => .cons h (Reps.set n r e)
theorem Reps.reverse {v : List V} {d : List D} (h : Reps K q F v d) : Reps K q F v.reverse d.reverse := by
  induction h using Reps.rec (motive_1 := fun _ _ _ => True) (motive_3 := fun _ _ _ => True) (motive_4 := fun _ _ _ => True) with
  | nil => exact .nil
  | cons h r _ ih => rw [List.reverse_cons, List.reverse_cons]; exact ih.append (.cons h .nil)
  | _ => trivial
theorem Reps.eraseIdx : ∀ (n : Nat) {v : List V} {d : List D}, Reps K q F v d → Reps K q F (v.eraseIdx n) (d.eraseIdx n)
  | _, _, _, .nil => .nil
  | 0, _, _, .cons h r => r
  | n + 1, _, _, .cons h r => .cons h (Reps.eraseIdx n r)
theorem Reps.rep {v : List V} {d : List D} (h : Reps K q F v d) : ∀ k : Nat, Reps K q F (List.replicate k v).flatten (List.replicate k d).flatten
  | 0 => .nil
  | k + 1 => by
    rw [List.replicate_succ, List.replicate_succ, List.flatten_cons, List.flatten_cons]
    exact h.append (Reps.rep h k)
theorem reps_ints : ∀ ns : List Int, Reps K q F (ns.map V.int) (ns.map D.int)
  | [] => .nil
  | n :: ns => .cons (.int n) (reps_ints ns)
/-- ints behind data -/
def intsOf : List D → Option (List Int)
  | [] => some []
  | .int i :: r => (intsOf r).map (i :: ·)
  | _ :: _ => none
theorem intsOf_map (ns : List Int) : intsOf (ns.map D.int) = some ns := by
  induction ns with
  | nil => rfl
  | cons n ns ih => simp only [List.map_cons, intsOf, ih, Option.map_some]
theorem intsOf_eq : ∀ {ds : List D} {ns : List Int}, intsOf ds = some ns → ds = ns.map D.int
  | [], ns, h => by simp only [intsOf, Option.some.injEq] at h; subst h; rfl
  | .int i :: r, ns, h => by
    simp only [intsOf, Option.map_eq_some_iff] at h
    obtain ⟨m, h1, rfl⟩ := h
    rw [intsOf_eq h1]; rfl
  | .non :: _, ns, h | .bl _ :: _, ns, h | .str _ :: _, ns, h | .tup _ :: _, ns, h | .lst _ :: _, ns, h | .dic _ :: _, ns, h | .tok :: _, ns, h => by simp [intsOf] at h
theorem Reps.ints {vs : List V} : ∀ {ns : List Int}, Reps K q F vs (ns.map D.int) → vs = ns.map V.int := by
  intro ns
  induction ns generalizing vs with
  | nil => intro h; cases h; rfl
  | cons n ns ih =>
    intro h
    cases h with
    | cons h r => cases h; rw [ih r]; rfl
/-- booleans behind data -/
def bolsOf : List D → Option (List Bool)
  | [] => some []
  | .bl i :: r => (bolsOf r).map (i :: ·)
  | _ :: _ => none
theorem bolsOf_eq : ∀ {ds : List D} {ns : List Bool}, bolsOf ds = some ns → ds = ns.map D.bl
  | [], ns, h => by simp only [bolsOf, Option.some.injEq] at h; subst h; rfl
  | .bl i :: r, ns, h => by
    simp only [bolsOf, Option.map_eq_some_iff] at h
    obtain ⟨m, h1, rfl⟩ := h
    rw [bolsOf_eq h1]; rfl
  | .non :: _, ns, h | .int _ :: _, ns, h | .str _ :: _, ns, h | .tup _ :: _, ns, h | .lst _ :: _, ns, h | .dic _ :: _, ns, h | .tok :: _, ns, h => by simp [bolsOf] at h
theorem bolsOf_map (ns : List Bool) : bolsOf (ns.map D.bl) = some ns := by
  induction ns with
  | nil => rfl
  | cons n ns ih => simp only [List.map_cons, bolsOf, ih, Option.map_some]
theorem Reps.bols {vs : List V} : ∀ {ns : List Bool}, Reps K q F vs (ns.map D.bl) → vs = ns.map V.bl := by
  intro ns
  induction ns generalizing vs with
  | nil => intro h; cases h; rfl
  | cons n ns ih =>
    intro h
    cases h with
    | cons h r => cases h; rw [ih r]; rfl
end

/-! ### worlds -/
def OraR (q : Qa) (F H : Hp) (ω : Ora) : Prop := ∀ p, q = some p → p.1 ≠ p.2 ∧ F p.1 = none ∧ F p.2 = none ∧ H p.1 = some (.lst [.ref p.2, .int ω.2]) ∧ H p.2 = some (.lst (ω.1.map V.int))
/-- from the frozen F0 in H0 to the frozen F in H -/
structure Post (q : Qa) (F0 H0 F H : Hp) (ω : Ora) : Prop where
  le0 : Same F0 F
  new : ∀ a, H0 a ≠ none → F a = F0 a
  le : Same F H
  kept : ∀ a o, H0 a = some o → Qfree q a → H a = some o
  ora : OraR q F H ω
section
variable {q : Qa} {F0 H0 F H F' H' F'' H'' : Hp} {ω ω' : Ora}
theorem Post.self (p : Post q F0 H0 F H ω) : Post q F H F H ω := ⟨.refl F, fun _ _ => rfl, p.le, fun _ _ h _ => h, p.ora⟩
theorem Post.mk0 (h : Same F H) (o : OraR q F H ω) : Post q F H F H ω := ⟨.refl F, fun _ _ => rfl, h, fun _ _ h _ => h, o⟩
theorem Post.some_of (p : Post q F0 H0 F H ω) {a : Addr} (h : H0 a ≠ none) (qf : Qfree q a) : H a ≠ none := by
  cases e : H0 a with
  | none => exact absurd e h
  | some o => rw [p.kept a o e qf]; exact fun z => nomatch z
theorem ora_there (h : OraR q F H ω) {p : Addr × Addr} (e : q = some p) : H p.1 ≠ none ∧ H p.2 ≠ none := by
  obtain ⟨_, _, _, h1, h2⟩ := h p e
  exact ⟨by rw [h1]; exact (fun z => nomatch z), by rw [h2]; exact (fun z => nomatch z)⟩
theorem qfree_none (h : OraR q F H ω) {a : Addr} (e : H a = none) : Qfree q a := fun p hp => by
  obtain ⟨h1, h2⟩ := ora_there h hp
  exact ⟨fun z => h1 (by rw [← z]; exact e), fun z => h2 (by rw [← z]; exact e)⟩
theorem qdec (q : Qa) (a : Addr) : Qfree q a ∨ ∃ p, q = some p ∧ (a = p.1 ∨ a = p.2) := by
  cases q with
  | none => exact .inl fun p h => nomatch h
  | some p =>
    by_cases h1 : a = p.1
    · exact .inr ⟨p, rfl, .inl h1⟩
    · by_cases h2 : a = p.2
      · exact .inr ⟨p, rfl, .inr h2⟩
      · exact .inl fun p' e => by cases e; exact ⟨h1, h2⟩
theorem Post.trans (a : Post q F0 H0 F H ω) (b : Post q F H F' H' ω') : Post q F0 H0 F' H' ω' where
  le0 := a.le0.trans b.le0
  new := fun x hx => by
    rcases qdec q x with qf | ⟨p, e, hp⟩
    · rw [b.new x (a.some_of hx qf), a.new x hx]
    · have h1 := a.ora p e
      have h2 := b.ora p e
      rw [← a.new x hx]
      rcases hp with rfl | rfl
      · rw [h1.2.1, h2.2.1]
      · rw [h1.2.2.1, h2.2.2.1]
  le := b.le
  kept := fun x o h qf => b.kept x o (a.kept x o h qf) qf
  ora := b.ora
theorem ora_same (h : OraR q F H ω) (hF : ∀ a, H a ≠ none → F' a = F a) (hH : ∀ a o, H a = some o → H' a = some o) : OraR q F' H' ω := fun p e => by
  obtain ⟨h1, h2, h3, h4, h5⟩ := h p e
  obtain ⟨n1, n2⟩ := ora_there h e
  exact ⟨h1, by rw [hF _ n1]; exact h2, by rw [hF _ n2]; exact h3, hH _ _ h4, hH _ _ h5⟩
theorem same_new {p : Addr} {o : HO} (h : H p = none) : Same H (upd H p o) := fun b x e => by
  rw [upd_ne (ne_of_none e h)]; exact e
theorem same_none (h : Same F H) {a : Addr} (e : H a = none) : F a = none := by
  cases q : F a with
  | none => rfl
  | some o => rw [h a o q] at e; cases e
theorem same_upd2 (h : Same F H) {p : Addr} {o : HO} : Same (upd F p o) (upd H p o) := fun b x e => by
  by_cases hb : b = p
  · subst hb; rw [upd_same] at e ⊢; exact e
  · rw [upd_ne hb] at e ⊢; exact h b x e
/-- a new object, frozen -/
theorem Post.alloc (h : Same F H) (o : OraR q F H ω) {p : Addr} {u : HO} (hp : H p = none) : Post q F H (upd F p u) (upd H p u) ω where
  le0 := same_new (same_none h hp)
  new := fun a ha => upd_ne fun z => by subst z; exact ha hp
  le := same_upd2 h
  kept := fun a x e _ => same_new hp a x e
  ora := ora_same o (fun a ha => upd_ne fun z => by subst z; exact ha hp) fun a x e => same_new hp a x e
/-- a new object, not frozen -/
theorem Post.fresh (h : Same F H) (o : OraR q F H ω) {p : Addr} {u : HO} (hp : H p = none) : Post q F H F (upd H p u) ω where
  le0 := .refl F
  new := fun _ _ => rfl
  le := h.trans (same_new hp)
  kept := fun a x e _ => same_new hp a x e
  ora := ora_same o (fun _ _ => rfl) fun a x e => same_new hp a x e
/-- freezing what is new -/
theorem Post.freeze (b : Post q F H F' H' ω') (o : OraR q F H ω) {p : Addr} {u : HO} (hp : H p = none) (hu : H' p = some u) : Post q F H (upd F' p u) H' ω' where
  le0 := fun a x e => by
    by_cases z : a = p
    · subst z
      have := b.le0 a x e
      have := b.le a x this
      rw [upd_same, ← this, ← hu]
    · rw [upd_ne z]; exact b.le0 a x e
  new := fun a ha => by rw [upd_ne fun z => by subst z; exact ha hp]; exact b.new a ha
  le := fun a x e => by
    by_cases z : a = p
    · subst z; rw [upd_same] at e; rw [hu]; exact e
    · rw [upd_ne z] at e; exact b.le a x e
  kept := b.kept
  ora := fun r e => by
    obtain ⟨h1, h2, h3, h4, h5⟩ := b.ora r e
    have qf := qfree_none o hp r e
    exact ⟨h1, by rw [upd_ne (Ne.symm qf.1)]; exact h2, by rw [upd_ne (Ne.symm qf.2)]; exact h3, h4, h5⟩
end

/-! ### slots -/
inductive SV where
  | un | d (x : D) | o (x : D)
abbrev Env := List SV
def nth : Env → Nat → SV
  | [], _ => .un
  | x :: _, 0 => x
  | _ :: r, n + 1 => nth r n
def sset : Env → Nat → SV → Env
  | [], _, _ => []
  | _ :: r, 0, y => y :: r
  | x :: r, n + 1, y => x :: sset r n y
theorem sset_length : ∀ (ρ : Env) (i : Nat) (y : SV), (sset ρ i y).length = ρ.length
  | [], _, _ => rfl
  | _ :: _, 0, _ => rfl
  | _ :: r, n + 1, y => congrArg (· + 1) (sset_length r n y)
theorem nth_sset : ∀ (ρ : Env) (i j : Nat) (y : SV), nth (sset ρ i y) j = if j = i then (if i < ρ.length then y else .un) else nth ρ j
  | [], i, j, y => by cases j <;> simp [sset, nth]
  | x :: r, 0, 0, y => by simp [sset, nth]
  | x :: r, 0, j + 1, y => by simp [sset, nth]
  | x :: r, i + 1, 0, y => by simp [sset, nth]
  | x :: r, i + 1, j + 1, y => by
    simp only [sset, nth, nth_sset r i j y, Nat.add_right_cancel_iff, List.length_cons, Nat.add_lt_add_iff_right]
theorem nth_ge : ∀ {ρ : Env} {i : Nat}, ρ.length ≤ i → nth ρ i = .un
  | [], _, _ => rfl
  | _ :: r, 0, h => by simp at h
  | _ :: r, n + 1, h => nth_ge (ρ := r) (by simpa using h)

structure Ctx where
  q : Qa
  F0 : Hp
  H0 : Hp

def OwnR (K : PySem.W.Frag) (q : Qa) (F H : Hp) (p : Addr) : D → Prop
  | .lst ds => ∃ vs, H p = some (.lst vs) ∧ Reps K q F vs ds
  | .dic kvs => (∃ kv, H p = some (.dK kv) ∧ RepKv K q F kv kvs) ∨ (∃ kv, H p = some (.dT kv) ∧ RepKt K q F kv kvs)
  | _ => False
theorem OwnR.there {K : PySem.W.Frag} {q : Qa} {F H : Hp} {p : Addr} {d : D} (h : OwnR K q F H p d) : H p ≠ none := by
  cases d with
  | lst ds => obtain ⟨vs, e, _⟩ := h; rw [e]; exact fun z => nomatch z
  | dic kvs => rcases h with ⟨kv, e, _⟩ | ⟨kv, e, _⟩ <;> (rw [e]; exact fun z => nomatch z)
  | _ => exact h.elim
theorem OwnR.mono {K : PySem.W.Frag} {q : Qa} {F H F' H' : Hp} {p : Addr} {d : D} (h : OwnR K q F H p d) (e : Same F F') (k : ∀ o, H p = some o → H' p = some o) : OwnR K q F' H' p d := by
  cases d with
  | lst ds => obtain ⟨vs, e1, r⟩ := h; exact ⟨vs, k _ e1, r.mono e⟩
  | dic kvs =>
    rcases h with ⟨kv, e1, r⟩ | ⟨kv, e1, r⟩
    · exact .inl ⟨kv, k _ e1, r.mono e⟩
    · exact .inr ⟨kv, k _ e1, r.mono e⟩
  | _ => exact h.elim
/-- frozen, it is data -/
theorem OwnR.rep {K : PySem.W.Frag} {q : Qa} {F H : Hp} {p : Addr} {d : D} (h : OwnR K q F H p d) (hp : F p = none) : ∃ u, H p = some u ∧ Rep K q (upd F p u) (.ref p) d := by
  have s : ∀ u, Same F (upd F p u) := fun u => same_new hp
  cases d with
  | lst ds => obtain ⟨vs, e, r⟩ := h; exact ⟨_, e, .lst upd_same (r.mono (s _))⟩
  | dic kvs =>
    rcases h with ⟨kv, e, r⟩ | ⟨kv, e, r⟩
    · exact ⟨_, e, .dic (.inl upd_same) (r.mono (s _))⟩
    · exact ⟨_, e, .dit (.inl upd_same) (r.mono (s _))⟩
  | _ => exact h.elim

structure Own (K : PySem.W.Frag) (c : Ctx) (F H : Hp) (p : Addr) (x : D) : Prop where
  f : F p = none
  h0 : c.H0 p = none
  qf : Qfree c.q p
  r : OwnR K c.q F H p x
structure W (K : PySem.W.Frag) (c : Ctx) (F H : Hp) (σ : L2.St) (ρ : Env) (ω : Ora) : Prop where
  post : Post c.q c.F0 c.H0 F H ω
  len : σ.length = ρ.length
  fz : ∀ i x, nth ρ i = .d x → ∃ v, σ[i]? = some (some v) ∧ Rep K c.q F v x
  ow : ∀ i x, nth ρ i = .o x → ∃ p, σ[i]? = some (some (.ref p)) ∧ Own K c F H p x
  dj : ∀ i j x y, i ≠ j → nth ρ i = .o x → nth ρ j = .o y → σ[i]? ≠ σ[j]?

section
variable {K : PySem.W.Frag} {c : Ctx} {F H F' H' : Hp} {σ : L2.St} {ρ : Env} {ω ω' : Ora}
theorem Own.ext {p : Addr} {x : D} (w : Own K c F H p x) (b : Post c.q F H F' H' ω') : Own K c F' H' p x :=
  ⟨by rw [b.new p w.r.there]; exact w.f, w.h0, w.qf, w.r.mono b.le0 fun o e => b.kept p o e w.qf⟩
theorem W.ext (w : W K c F H σ ρ ω) (b : Post c.q F H F' H' ω') : W K c F' H' σ ρ ω' where
  post := w.post.trans b
  len := w.len
  fz := fun i x e => let ⟨v, h, r⟩ := w.fz i x e; ⟨v, h, r.mono b.le0⟩
  ow := fun i x e => let ⟨p, h, r⟩ := w.ow i x e; ⟨p, h, r.ext b⟩
  dj := w.dj
theorem W.self (w : W K c F H σ ρ ω) : Post c.q F H F H ω := w.post.self
theorem lt_of_nth {i : Nat} {x : D} (h : nth ρ i = .d x ∨ nth ρ i = .o x) : i < ρ.length := by
  apply Classical.byContradiction
  intro z
  rw [nth_ge (by omega)] at h
  rcases h with h | h <;> cases h
/-- a slot is set to frozen data -/
theorem W.set_d (w : W K c F H σ ρ ω) {v : V} {x : D} (r : Rep K c.q F v x) (i : Nat) : W K c F H (σ.set i (some v)) (sset ρ i (.d x)) ω where
  post := w.post
  len := by rw [List.length_set, sset_length]; exact w.len
  fz := fun j y e => by
    rw [nth_sset] at e
    by_cases h : j = i
    · subst h
      rw [if_pos rfl] at e
      split at e
      · rename_i hl
        cases e
        exact ⟨v, List.getElem?_set_self (by rw [w.len]; exact hl), r⟩
      · cases e
    · rw [if_neg h] at e
      obtain ⟨u, h1, h2⟩ := w.fz j y e
      exact ⟨u, by rw [List.getElem?_set_ne (Ne.symm h)]; exact h1, h2⟩
  ow := fun j y e => by
    rw [nth_sset] at e
    by_cases h : j = i
    · rw [if_pos h] at e; split at e <;> cases e
    · rw [if_neg h] at e
      obtain ⟨u, h1, h2⟩ := w.ow j y e
      exact ⟨u, by rw [List.getElem?_set_ne (Ne.symm h)]; exact h1, h2⟩
  dj := fun j k y z h e1 e2 => by
    rw [nth_sset] at e1 e2
    by_cases h1 : j = i
    · rw [if_pos h1] at e1; split at e1 <;> cases e1
    · by_cases h2 : k = i
      · rw [if_pos h2] at e2; split at e2 <;> cases e2
      · rw [if_neg h1] at e1
        rw [if_neg h2] at e2
        rw [List.getElem?_set_ne (Ne.symm h1), List.getElem?_set_ne (Ne.symm h2)]
        exact w.dj j k y z h e1 e2
/-- .. to an own object that no other slot holds -/
theorem W.set_o (w : W K c F H σ ρ ω) {p : Addr} {x : D} (r : Own K c F H p x) (i : Nat) (hne : ∀ j y, j ≠ i → nth ρ j = .o y → σ[j]? ≠ some (some (.ref p))) : W K c F H (σ.set i (some (.ref p))) (sset ρ i (.o x)) ω where
  post := w.post
  len := by rw [List.length_set, sset_length]; exact w.len
  fz := fun j y e => by
    rw [nth_sset] at e
    by_cases h : j = i
    · rw [if_pos h] at e; split at e <;> cases e
    · rw [if_neg h] at e
      obtain ⟨u, h1, h2⟩ := w.fz j y e
      exact ⟨u, by rw [List.getElem?_set_ne (Ne.symm h)]; exact h1, h2⟩
  ow := fun j y e => by
    rw [nth_sset] at e
    by_cases h : j = i
    · subst h
      rw [if_pos rfl] at e
      split at e
      · rename_i hl
        cases e
        exact ⟨p, List.getElem?_set_self (by rw [w.len]; exact hl), r⟩
      · cases e
    · rw [if_neg h] at e
      obtain ⟨u, h1, h2⟩ := w.ow j y e
      exact ⟨u, by rw [List.getElem?_set_ne (Ne.symm h)]; exact h1, h2⟩
  dj := fun j k y z h e1 e2 => by
    rw [nth_sset] at e1 e2
    by_cases h1 : j = i
    · subst h1
      have h2 : k ≠ j := Ne.symm h
      rw [if_neg h2] at e2
      rw [if_pos rfl] at e1
      split at e1
      · rename_i hl
        rw [List.getElem?_set_self (by rw [w.len]; exact hl), List.getElem?_set_ne h]
        exact Ne.symm (hne k z h2 e2)
      · cases e1
    · rw [if_neg h1] at e1
      by_cases h2 : k = i
      · subst h2
        rw [if_pos rfl] at e2
        split at e2
        · rename_i hl
          rw [List.getElem?_set_self (by rw [w.len]; exact hl), List.getElem?_set_ne (Ne.symm h1)]
          exact hne j y h1 e1
        · cases e2
      · rw [if_neg h2] at e2
        rw [List.getElem?_set_ne (Ne.symm h1), List.getElem?_set_ne (Ne.symm h2)]
        exact w.dj j k y z h e1 e2
/-- forgetting a slot -/
theorem W.drop (w : W K c F H σ ρ ω) (i : Nat) : W K c F H σ (sset ρ i .un) ω where
  post := w.post
  len := by rw [sset_length]; exact w.len
  fz := fun j y e => by
    rw [nth_sset] at e
    by_cases h : j = i
    · rw [if_pos h] at e; split at e <;> cases e
    · rw [if_neg h] at e; exact w.fz j y e
  ow := fun j y e => by
    rw [nth_sset] at e
    by_cases h : j = i
    · rw [if_pos h] at e; split at e <;> cases e
    · rw [if_neg h] at e; exact w.ow j y e
  dj := fun j k y z h e1 e2 => by
    rw [nth_sset] at e1 e2
    by_cases h1 : j = i
    · rw [if_pos h1] at e1; split at e1 <;> cases e1
    · by_cases h2 : k = i
      · rw [if_pos h2] at e2; split at e2 <;> cases e2
      · rw [if_neg h1] at e1
        rw [if_neg h2] at e2
        exact w.dj j k y z h e1 e2
/-- a new object is no slot's -/
theorem W.fresh_ne (w : W K c F H σ ρ ω) {p : Addr} (hp : H p = none) : ∀ j y, nth ρ j = .o y → σ[j]? ≠ some (some (.ref p)) := fun j y e z => by
  obtain ⟨p', h1, h2⟩ := w.ow j y e
  rw [h1] at z
  cases z
  exact h2.r.there hp
theorem W.h0_none (w : W K c F H σ ρ ω) {p : Addr} (hp : H p = none) : c.H0 p = none := by
  cases e : c.H0 p with
  | none => rfl
  | some o =>
    rw [w.post.kept p o e (qfree_none w.post.ora hp)] at hp
    cases hp
/-- an own object is changed -/
theorem W.write (w : W K c F H σ ρ ω) {i : Nat} {p : Addr} {x y : D} {u : HO} (e : nth ρ i = .o x) (hs : σ[i]? = some (some (.ref p))) (hy : OwnR K c.q F (upd H p u) p y) :
    W K c F (upd H p u) σ (sset ρ i (.o y)) ω := by
  obtain ⟨p', h1, ho⟩ := w.ow i x e
  rw [hs] at h1
  cases h1
  have sF : Same F (upd H p u) := fun a o h => by
    rw [upd_ne fun z => by subst z; rw [ho.f] at h; cases h]
    exact w.post.le a o h
  have hl : i < ρ.length := lt_of_nth (.inr e)
  refine ⟨⟨w.post.le0, w.post.new, sF, fun a o h qf => ?_, fun r er => ?_⟩, by rw [sset_length]; exact w.len, fun j z ej => ?_, fun j z ej => ?_, fun j k z z' h e1 e2 => ?_⟩
  · rw [upd_ne fun z => by subst z; rw [ho.h0] at h; cases h]
    exact w.post.kept a o h qf
  · obtain ⟨a1, a2, a3, a4, a5⟩ := w.post.ora r er
    have qf := ho.qf r er
    exact ⟨a1, a2, a3, by rw [upd_ne (Ne.symm qf.1)]; exact a4, by rw [upd_ne (Ne.symm qf.2)]; exact a5⟩
  · rw [nth_sset] at ej
    by_cases h : j = i
    · rw [if_pos h] at ej; split at ej <;> cases ej
    · rw [if_neg h] at ej; exact w.fz j z ej
  · rw [nth_sset] at ej
    by_cases h : j = i
    · subst h
      rw [if_pos rfl, if_pos hl] at ej
      cases ej
      exact ⟨p, hs, ho.f, ho.h0, ho.qf, hy⟩
    · rw [if_neg h] at ej
      obtain ⟨p', g1, g2⟩ := w.ow j z ej
      refine ⟨p', g1, g2.f, g2.h0, g2.qf, g2.r.mono (.refl F) fun o q => ?_⟩
      rw [upd_ne fun z' => ?_]; exact q
      subst z'
      exact w.dj j i z x h ej e (g1.trans hs.symm)
  · rw [nth_sset] at e1 e2
    have n1 : ∃ a, nth ρ j = .o a := by
      by_cases h1 : j = i
      · exact ⟨x, by rw [h1]; exact e⟩
      · rw [if_neg h1] at e1; exact ⟨z, e1⟩
    have n2 : ∃ a, nth ρ k = .o a := by
      by_cases h1 : k = i
      · exact ⟨x, by rw [h1]; exact e⟩
      · rw [if_neg h1] at e2; exact ⟨z', e2⟩
    obtain ⟨a1, n1⟩ := n1
    obtain ⟨a2, n2⟩ := n2
    exact w.dj j k a1 a2 h n1 n2
/-- an own object is frozen -/
theorem W.freeze (w : W K c F H σ ρ ω) {i : Nat} {x : D} (e : nth ρ i = .o x) : ∃ F', W K c F' H σ (sset ρ i (.d x)) ω := by
  obtain ⟨p, hs, ho⟩ := w.ow i x e
  obtain ⟨u, hu, rp⟩ := ho.r.rep ho.f
  have sF : Same F (upd F p u) := same_new ho.f
  refine ⟨upd F p u, ⟨w.post.le0.trans sF, fun a ha => ?_, fun a o h => ?_, w.post.kept, fun r er => ?_⟩, by rw [sset_length]; exact w.len, fun j z ej => ?_, fun j z ej => ?_, fun j k z z' h e1 e2 => ?_⟩
  · rw [upd_ne fun z => by subst z; exact ha ho.h0]; exact w.post.new a ha
  · by_cases z : a = p
    · subst z; rw [upd_same] at h; rw [hu]; exact h
    · rw [upd_ne z] at h; exact w.post.le a o h
  · obtain ⟨a1, a2, a3, a4, a5⟩ := w.post.ora r er
    have qf := ho.qf r er
    exact ⟨a1, by rw [upd_ne (Ne.symm qf.1)]; exact a2, by rw [upd_ne (Ne.symm qf.2)]; exact a3, a4, a5⟩
  · rw [nth_sset] at ej
    by_cases h : j = i
    · subst h
      rw [if_pos rfl] at ej
      split at ej
      · cases ej; exact ⟨_, hs, rp⟩
      · cases ej
    · rw [if_neg h] at ej
      obtain ⟨v, g1, g2⟩ := w.fz j z ej
      exact ⟨v, g1, g2.mono sF⟩
  · rw [nth_sset] at ej
    by_cases h : j = i
    · rw [if_pos h] at ej; split at ej <;> cases ej
    · rw [if_neg h] at ej
      obtain ⟨p', g1, g2⟩ := w.ow j z ej
      refine ⟨p', g1, ?_, g2.h0, g2.qf, g2.r.mono sF fun _ q => q⟩
      rw [upd_ne fun z' => ?_]; exact g2.f
      subst z'
      exact w.dj j i z x h ej e (g1.trans hs.symm)
  · rw [nth_sset] at e1 e2
    by_cases h1 : j = i
    · rw [if_pos h1] at e1; split at e1 <;> cases e1
    · by_cases h2 : k = i
      · rw [if_pos h2] at e2; split at e2 <;> cases e2
      · rw [if_neg h1] at e1
        rw [if_neg h2] at e2
        exact w.dj j k z z' h e1 e2
end
end FL
end
section
/-! FL: judgements, expressions. -/
namespace FL
open PySem PySem.Spec PyProof.Rows L2

@[reducible] def M (α : Type) := Ora → Option (α × Ora)
def ret {α : Type} (a : α) : M α := fun ω => some (a, ω)
def bnd {α β : Type} (m : M α) (k : α → M β) : M β := fun ω => match m ω with
  | some (a, ω') => k a ω'
  | none => none
def opt {α : Type} (o : Option α) : M α := fun ω => match o with
  | some a => some (a, ω)
  | none => none
theorem bnd_some {α β : Type} {m : M α} {k : α → M β} {ω ω' : Ora} {b : β} (h : bnd m k ω = some (b, ω')) : ∃ a ω1, m ω = some (a, ω1) ∧ k a ω1 = some (b, ω') := by
  unfold bnd at h
  split at h
  · rename_i a ω1 e; exact ⟨a, ω1, e, h⟩
  · cases h
theorem opt_some {α : Type} {o : Option α} {ω ω' : Ora} {b : α} (h : opt o ω = some (b, ω')) : o = some b ∧ ω' = ω := by
  unfold opt at h
  split at h
  · cases h; exact ⟨rfl, rfl⟩
  · cases h
theorem ret_some {α : Type} {o : α} {ω ω' : Ora} {b : α} (h : ret o ω = some (b, ω')) : o = b ∧ ω' = ω := by
  cases h; exact ⟨rfl, rfl⟩

abbrev EF := Env → M D
abbrev BF := Env → M Bool
abbrev AF := Env → M (List D)

/-! ### views: frozen data, or an own list or dict -/
def Vw (K : PySem.W.Frag) (q : Qa) (F H : Hp) (v : V) (d : D) : Prop := Rep K q F v d ∨ ∃ p, v = .ref p ∧ F p = none ∧ Qfree q p ∧ OwnR K q F H p d
section
variable {K : PySem.W.Frag} {q : Qa} {F H F' H' : Hp} {ω ω' : Ora} {v : V}
theorem Vw.ext {d : D} (h : Vw K q F H v d) (b : Post q F H F' H' ω') : Vw K q F' H' v d := by
  rcases h with h | ⟨p, e, h1, h2, h3⟩
  · exact .inl (h.mono b.le0)
  · exact .inr ⟨p, e, by rw [b.new p h3.there]; exact h1, h2, h3.mono b.le0 fun o e => b.kept p o e h2⟩
theorem OwnR.repH {p : Addr} {d : D} (h : OwnR K q F H p d) (s : Same F H) : Rep K q H (.ref p) d := by
  cases d with
  | lst ds => obtain ⟨vs, e, r⟩ := h; exact .lst e (r.mono s)
  | dic kvs =>
    rcases h with ⟨kv, e, r⟩ | ⟨kv, e, r⟩
    · exact .dic (.inl e) (r.mono s)
    · exact .dit (.inl e) (r.mono s)
  | _ => exact h.elim
theorem Vw.repH {d : D} (h : Vw K q F H v d) (s : Same F H) : Rep K q H v d := by
  rcases h with h | ⟨p, rfl, h1, h2, h3⟩
  · exact h.mono s
  · exact h3.repH s
theorem Vw.lst {ds : List D} (h : Vw K q F H v (.lst ds)) (s : Same F H) : ∃ p vs, v = .ref p ∧ H p = some (.lst vs) ∧ Reps K q F vs ds := by
  rcases h with h | ⟨p, rfl, h1, h2, vs, e, r⟩
  · cases h with
    | lst e r => exact ⟨_, _, rfl, s _ _ e, r⟩
  · exact ⟨p, vs, rfl, e, r⟩
theorem Vw.tup {ds : List D} (h : Vw K q F H v (.tup ds)) (s : Same F H) : ∃ p vs, v = .ref p ∧ SqT K H p vs ∧ Reps K q F vs ds := by
  rcases h with h | ⟨p, rfl, h1, h2, h3⟩
  · cases h with
    | tup e r => exact ⟨_, _, rfl, same_sqt s e, r⟩
  · exact h3.elim
theorem Vw.int {i : Int} (h : Vw K q F H v (.int i)) : v = .int i := by
  rcases h with h | ⟨p, rfl, h1, h2, h3⟩
  · cases h; rfl
  · exact h3.elim
theorem Vw.bl {i : Bool} (h : Vw K q F H v (.bl i)) : v = .bl i := by
  rcases h with h | ⟨p, rfl, h1, h2, h3⟩
  · cases h; rfl
  · exact h3.elim
theorem Vw.non (h : Vw K q F H v .non) : v = .non := by
  rcases h with h | ⟨p, rfl, h1, h2, h3⟩
  · cases h; rfl
  · exact h3.elim
theorem Vw.str {x : Str} (h : Vw K q F H v (.str x)) : v = .str x := by
  rcases h with h | ⟨p, rfl, h1, h2, h3⟩
  · cases h; rfl
  · exact h3.elim
/-- lists and tuples -/
def seqD : D → Option (List D)
  | .lst ds => some ds
  | .tup ds => some ds
  | _ => none
theorem seqD_some {d : D} {ds : List D} (h : seqD d = some ds) : d = .lst ds ∨ d = .tup ds := by
  cases d <;> simp [seqD] at h
  · exact .inr (by rw [h])
  · exact .inl (by rw [h])
theorem Vw.seq {d : D} {ds : List D} (h : Vw K q F H v d) (s : Same F H) (e : seqD d = some ds) : ∃ p vs, v = .ref p ∧ (SqL K H p vs ∨ SqT K H p vs) ∧ Reps K q F vs ds := by
  rcases seqD_some e with rfl | rfl
  · obtain ⟨p, vs, e, h, r⟩ := h.lst s; exact ⟨p, vs, e, .inl (.inl (.inl h)), r⟩
  · obtain ⟨p, vs, e, h, r⟩ := h.tup s; exact ⟨p, vs, e, .inr h, r⟩
inductive Vws (K : PySem.W.Frag) (q : Qa) (F H : Hp) : List V → List D → Prop
  | nil : Vws K q F H [] []
  | cons {v : V} {vs : List V} {d : D} {ds : List D} : Vw K q F H v d → Vws K q F H vs ds → Vws K q F H (v :: vs) (d :: ds)
theorem Vws.one {vs : List V} {d : D} (h : Vws K q F H vs [d]) : ∃ v, vs = [v] ∧ Vw K q F H v d := by
  cases h with | cons h r => cases r; exact ⟨_, rfl, h⟩
theorem Vws.two {vs : List V} {d e : D} (h : Vws K q F H vs [d, e]) : ∃ v w, vs = [v, w] ∧ Vw K q F H v d ∧ Vw K q F H w e := by
  cases h with | cons h r => cases r with | cons h2 r => cases r; exact ⟨_, _, rfl, h, h2⟩
end

/-! ### judgements -/
/-- the value is frozen -/
def tE (K : PySem.W.Frag) (f : EF) : TE := fun σ H Q => ∃ c F ρ ω d ω', W K c F H σ ρ ω ∧ f ρ ω = some (d, ω') ∧ ∀ F' H' v, Post c.q F H F' H' ω' → Rep K c.q F' v d → Q v H'
/-- the value may be an own object -/
def tB (K : PySem.W.Frag) (f : EF) : TE := fun σ H Q => ∃ c F ρ ω d ω', W K c F H σ ρ ω ∧ f ρ ω = some (d, ω') ∧ ∀ F' H' v, Post c.q F H F' H' ω' → Vw K c.q F' H' v d → Q v H'
/-- the value is a new list or dict -/
def tF (K : PySem.W.Frag) (f : EF) : TE := fun σ H Q => ∃ c F ρ ω d ω', W K c F H σ ρ ω ∧ f ρ ω = some (d, ω') ∧ ∀ F' H' p, Post c.q F H F' H' ω' → H p = none → F' p = none → OwnR K c.q F' H' p d → Q (.ref p) H'
def tT' (K : PySem.W.Frag) (f : BF) : TT := fun σ H Q => ∃ c F ρ ω d ω', W K c F H σ ρ ω ∧ f ρ ω = some (d, ω') ∧ ∀ F' H', Post c.q F H F' H' ω' → Q d H'
/-- arguments: views -/
def tA (K : PySem.W.Frag) (f : AF) : TA := fun σ H Q => ∃ c F ρ ω d ω', W K c F H σ ρ ω ∧ f ρ ω = some (d, ω') ∧ ∀ F' H' vs, Post c.q F H F' H' ω' → Vws K c.q F' H' vs d → Q vs H'
/-- arguments: frozen -/
def tAE (K : PySem.W.Frag) (f : AF) : TA := fun σ H Q => ∃ c F ρ ω d ω', W K c F H σ ρ ω ∧ f ρ ω = some (d, ω') ∧ ∀ F' H' vs, Post c.q F H F' H' ω' → Reps K c.q F' vs d → Q vs H'

section
variable {X : Cx} {e a b : Expr} {f g : EF} {pos : Pos}
theorem pe_weak {t t' : TE} (h : PE X e t) (i : ∀ σ H Q, t' σ H Q → t σ H Q) : PE X e t' := ⟨fun pins s σ H Q I q => h.run pins s σ H Q I (i σ H Q q)⟩
theorem pt_weak {t t' : TT} (h : PT X e t) (i : ∀ σ H Q, t' σ H Q → t σ H Q) : PT X e t' := ⟨fun pins s σ H Q I q => h.run pins s σ H Q I (i σ H Q q)⟩
theorem pa_weak {es : List Expr} {t t' : TA} (h : PA X es t) (i : ∀ σ H Q, t' σ H Q → t σ H Q) : PA X es t' := ⟨fun pos pins s σ H Q I q => h.run pos pins s σ H Q I (i σ H Q q)⟩
theorem ps_weak {st : Stmt} {t t' : TS} (h : PS X st t) (i : ∀ D σ H, t' D σ H → t D σ H) : PS X st t' := ⟨fun pins s σ H D I q => h.run pins s σ H D I (i D σ H q)⟩
theorem pss_weak {st : List Stmt} {t t' : TS} (h : PSs X st t) (i : ∀ D σ H, t' D σ H → t D σ H) : PSs X st t' := ⟨fun pins s σ H D I q => h.run pins s σ H D I (i D σ H q)⟩
/-- frozen is a view -/
theorem bE (h : PE X e (tE X.K f)) : PE X e (tB X.K f) := pe_weak h fun σ H Q ⟨c, F, ρ, ω, d, ω', w, e, q⟩ => ⟨c, F, ρ, ω, d, ω', w, e, fun F' H' v p r => q F' H' v p (.inl r)⟩
/-- a new one, frozen at once -/
theorem eF (h : PE X e (tF X.K f)) : PE X e (tE X.K f) := pe_weak h fun σ H Q ⟨c, F, ρ, ω, d, ω', w, e, q⟩ => ⟨c, F, ρ, ω, d, ω', w, e, fun F' H' p po hn hp o => by
  obtain ⟨u, hu, r⟩ := o.rep hp
  exact q _ H' _ (po.freeze w.post.ora hn hu) r⟩
theorem bF (h : PE X e (tF X.K f)) : PE X e (tB X.K f) := pe_weak h fun σ H Q ⟨c, F, ρ, ω, d, ω', w, e, q⟩ => ⟨c, F, ρ, ω, d, ω', w, e, fun F' H' p po hn hp o =>
  q F' H' _ po (.inr ⟨p, rfl, hp, qfree_none w.post.ora hn, o⟩)⟩

/-! ### names, constants -/
def vr (i : Nat) : EF := fun ρ => match nth ρ i with
  | .d x => ret x
  | _ => opt none
def vw (i : Nat) : EF := fun ρ => match nth ρ i with
  | .d x => ret x
  | .o x => ret x
  | _ => opt none
def cst (d : D) : EF := fun _ => ret d
theorem e_var (i : Nat) {x : Str} (hN : X.N[i]? = some x := by rfl) (hv : Vis X.env.scope x := by first | exact Or.inl rfl | exact Or.inr (Or.inl rfl) | exact Or.inr (Or.inr rfl)) (hd : (x == ("__debug__" : Str)) = false := by decide)
    (hcd : (x == ("__classdict__" : Str)) = false := by decide) : PE X (.Name x pos) (tE X.K (vr i)) := pe_weak (pe_var hN hv hd hcd) fun σ H Q ⟨c, F, ρ, ω, d, ω', w, e, q⟩ => by
  unfold vr at e
  cases hy : nth ρ i with
  | d y =>
    rw [hy] at e
    obtain ⟨rfl, rfl⟩ := ret_some e
    obtain ⟨v, h1, h2⟩ := w.fz i _ hy
    exact ⟨v, h1, q F H v w.self h2⟩
  | o y => rw [hy] at e; cases e
  | un => rw [hy] at e; cases e
theorem b_var (i : Nat) {x : Str} (hN : X.N[i]? = some x := by rfl) (hv : Vis X.env.scope x := by first | exact Or.inl rfl | exact Or.inr (Or.inl rfl) | exact Or.inr (Or.inr rfl)) (hd : (x == ("__debug__" : Str)) = false := by decide)
    (hcd : (x == ("__classdict__" : Str)) = false := by decide) : PE X (.Name x pos) (tB X.K (vw i)) := pe_weak (pe_var hN hv hd hcd) fun σ H Q ⟨c, F, ρ, ω, d, ω', w, e, q⟩ => by
  unfold vw at e
  cases hy : nth ρ i with
  | d y =>
    rw [hy] at e
    obtain ⟨rfl, rfl⟩ := ret_some e
    obtain ⟨v, h1, h2⟩ := w.fz i _ hy
    exact ⟨v, h1, q F H v w.self (.inl h2)⟩
  | o y =>
    rw [hy] at e
    obtain ⟨rfl, rfl⟩ := ret_some e
    obtain ⟨p, h1, h2⟩ := w.ow i _ hy
    exact ⟨_, h1, q F H _ w.self (.inr ⟨p, rfl, h2.f, h2.qf, h2.r⟩)⟩
  | un => rw [hy] at e; cases e
theorem tC_of {v : V} {d : D} (r : ∀ K q F, Rep K q F v d) (h : PE X e (tC v)) : PE X e (tE X.K (cst d)) := pe_weak h fun σ H Q ⟨c, F, ρ, ω, d', ω', w, e, q⟩ => by
  obtain ⟨rfl, rfl⟩ := ret_some e
  exact q F H v w.self (r _ _ _)
theorem e_int {i : Int} {j : Nat} : PE X (.Constant (.int i) j pos) (tE X.K (cst (.int i))) := tC_of (fun _ _ _ => .int i) pe_int
theorem e_bl {i : Bool} {j : Nat} : PE X (.Constant (.bool i) j pos) (tE X.K (cst (.bl i))) := tC_of (fun _ _ _ => .bl i) pe_bl
theorem e_non {j : Nat} : PE X (.Constant .none j pos) (tE X.K (cst .non)) := tC_of (fun _ _ _ => .non) pe_non
theorem e_str {i : Str} {j : Nat} : PE X (.Constant (.str i) j pos) (tE X.K (cst (.str i))) := tC_of (fun _ _ _ => .str i) pe_str

/-! ### operations by values -/
def b1 (o : D → Option D) (f : EF) : EF := fun ρ => bnd (f ρ) fun x => opt (o x)
def b2 (o : D → D → Option D) (f g : EF) : EF := fun ρ => bnd (f ρ) fun x => bnd (g ρ) fun y => opt (o x y)
def bA (o : List D → Option D) (f : AF) : EF := fun ρ => bnd (f ρ) fun x => opt (o x)
/-- what an operation asks, from views -/
def Pure2 (K : PySem.W.Frag) (r : R2) (o : D → D → Option D) : Prop := ∀ (q : Qa) (F H : Hp) (ω : Ora) (x y : V) (a b d : D) (Q : VK), Same F H → OraR q F H ω → Vw K q F H x a → Vw K q F H y b → o a b = some d →
  (∀ F' H' u, Post q F H F' H' ω → Rep K q F' u d → Q u H') → r x y H Q
def Pure2F (K : PySem.W.Frag) (r : R2) (o : D → D → Option D) : Prop := ∀ (q : Qa) (F H : Hp) (ω : Ora) (x y : V) (a b d : D) (Q : VK), Same F H → OraR q F H ω → Vw K q F H x a → Vw K q F H y b → o a b = some d →
  (∀ F' H' p, Post q F H F' H' ω → H p = none → F' p = none → OwnR K q F' H' p d → Q (.ref p) H') → r x y H Q
def Pure1 (K : PySem.W.Frag) (r : V → Hp → VK → Prop) (o : D → Option D) : Prop := ∀ (q : Qa) (F H : Hp) (ω : Ora) (x : V) (a d : D) (Q : VK), Same F H → OraR q F H ω → Vw K q F H x a → o a = some d →
  (∀ F' H' u, Post q F H F' H' ω → Rep K q F' u d → Q u H') → r x H Q
def PureA (K : PySem.W.Frag) (r : List V → Hp → VK → Prop) (o : List D → Option D) : Prop := ∀ (q : Qa) (F H : Hp) (ω : Ora) (xs : List V) (a : List D) (d : D) (Q : VK), Same F H → OraR q F H ω → Vws K q F H xs a → o a = some d →
  (∀ F' H' u, Post q F H F' H' ω → Rep K q F' u d → Q u H') → r xs H Q
def PureAF (K : PySem.W.Frag) (r : List V → Hp → VK → Prop) (o : List D → Option D) : Prop := ∀ (q : Qa) (F H : Hp) (ω : Ora) (xs : List V) (a : List D) (d : D) (Q : VK), Same F H → OraR q F H ω → Vws K q F H xs a → o a = some d →
  (∀ F' H' p, Post q F H F' H' ω → H p = none → F' p = none → OwnR K q F' H' p d → Q (.ref p) H') → r xs H Q

theorem two_core {r : R2} {o : D → D → Option D} {ta tb : TE} (hr : Pure2 X.K r o) (ia : ∀ σ H Q, tB X.K f σ H Q → ta σ H Q) (ib : ∀ σ H Q, tB X.K g σ H Q → tb σ H Q) (σ : L2.St) (H : Hp) (Q : VK) (h : tE X.K (b2 o f g) σ H Q) : tOp r ta tb σ H Q := by
  obtain ⟨c, F, ρ, ω, d, ω', w, e, q⟩ := h
  obtain ⟨x, ω1, e1, e⟩ := bnd_some e
  obtain ⟨y, ω2, e2, e⟩ := bnd_some e
  obtain ⟨e3, rfl⟩ := opt_some e
  refine ia _ _ _ ⟨c, F, ρ, ω, x, ω1, w, e1, fun F1 H1 v p1 r1 => ib _ _ _ ⟨c, F1, ρ, ω1, y, ω', w.ext p1, e2, fun F2 H2 u p2 r2 => ?_⟩⟩
  exact hr c.q F2 H2 ω' v u x y d Q p2.le p2.ora (r1.ext p2) r2 e3 fun F3 H3 z p3 r3 => q F3 H3 z ((p1.trans p2).trans p3) r3
theorem two_coreF {r : R2} {o : D → D → Option D} {ta tb : TE} (hr : Pure2F X.K r o) (ia : ∀ σ H Q, tB X.K f σ H Q → ta σ H Q) (ib : ∀ σ H Q, tB X.K g σ H Q → tb σ H Q) (σ : L2.St) (H : Hp) (Q : VK) (h : tF X.K (b2 o f g) σ H Q) : tOp r ta tb σ H Q := by
  obtain ⟨c, F, ρ, ω, d, ω', w, e, q⟩ := h
  obtain ⟨x, ω1, e1, e⟩ := bnd_some e
  obtain ⟨y, ω2, e2, e⟩ := bnd_some e
  obtain ⟨e3, rfl⟩ := opt_some e
  refine ia _ _ _ ⟨c, F, ρ, ω, x, ω1, w, e1, fun F1 H1 v p1 r1 => ib _ _ _ ⟨c, F1, ρ, ω1, y, ω', w.ext p1, e2, fun F2 H2 u p2 r2 => ?_⟩⟩
  exact hr c.q F2 H2 ω' v u x y d Q p2.le p2.ora (r1.ext p2) r2 e3 fun F3 H3 z p3 n3 f3 r3 => q F3 H3 z ((p1.trans p2).trans p3)
    (by cases e : H z with
        | none => rfl
        | some o => exact absurd n3 ((p1.trans p2).some_of (by rw [e]; exact (fun z => nomatch z)) (qfree_none p2.ora n3))) f3 r3
theorem e_bin {op : Operator} {r : R2} {o : D → D → Option D} (ho : OpR X (binaryOp op) r) (hr : Pure2 X.K r o) (ha : PE X a (tB X.K f)) (hb : PE X b (tB X.K g)) : PE X (.BinOp a op b pos) (tE X.K (b2 o f g)) :=
  pe_weak (pe_op ho ha hb) (two_core hr (fun _ _ _ h => h) (fun _ _ _ h => h))
theorem f_bin {op : Operator} {r : R2} {o : D → D → Option D} (ho : OpR X (binaryOp op) r) (hr : Pure2F X.K r o) (ha : PE X a (tB X.K f)) (hb : PE X b (tB X.K g)) : PE X (.BinOp a op b pos) (tF X.K (b2 o f g)) :=
  pe_weak (pe_op ho ha hb) (two_coreF hr (fun _ _ _ h => h) (fun _ _ _ h => h))
theorem e_cmp {op : CmpOp} {r : R2} {o : D → D → Option D} (ho : OpR X (compareOp op) r) (hr : Pure2 X.K r o) (ha : PE X a (tB X.K f)) (hb : PE X b (tB X.K g)) (hm : behindInMarks op b = false := by first | exact nomark _ | rfl) : PE X (.Compare a [op] [b] pos) (tE X.K (b2 o f g)) :=
  pe_weak (pe_cmpR ho ha hb hm) (two_core hr (fun _ _ _ h => h) (fun _ _ _ h => h))
/-- a value as a test, where it is a bool -/
def isB (f : EF) : BF := fun ρ => bnd (f ρ) fun x => match x with
  | .bl b => ret b
  | _ => opt none
theorem isB_of {K : PySem.W.Frag} {σ : L2.St} {H : Hp} {Q : Bool → Hp → Prop} (h : tT' K (isB f) σ H Q) : tE K f σ H fun x H' => ∃ k, x = .bl k ∧ Q k H' := by
  obtain ⟨c, F, ρ, ω, d, ω', w, e, q⟩ := h
  obtain ⟨x, ω1, e1, e⟩ := bnd_some e
  split at e
  · rename_i k
    obtain ⟨rfl, rfl⟩ := ret_some e
    exact ⟨c, F, ρ, ω, _, _, w, e1, fun F1 H1 v p1 r1 => by cases r1; exact ⟨_, rfl, q F1 H1 p1⟩⟩
  · cases e
theorem t_cmp {op : CmpOp} {r : R2} {o : D → D → Option D} (ho : OpR X (compareOp op) r) (hr : Pure2 X.K r o) (ha : PE X a (tB X.K f)) (hb : PE X b (tB X.K g)) (hm : behindInMarks op b = false := by first | exact nomark _ | rfl) : PT X (.Compare a [op] [b] pos) (tT' X.K (isB (b2 o f g))) :=
  pt_weak (pt_cmpR ho ha hb hm) fun σ H Q h => two_core hr (fun _ _ _ h => h) (fun _ _ _ h => h) σ H _ (isB_of h)
theorem e_un {op : UnaryOp} {r : V → Hp → VK → Prop} {o : D → Option D} (ho : UnR X (unaryOp op) r) (hr : Pure1 X.K r o) (ha : PE X a (tB X.K f)) : PE X (.UnaryOp op a pos) (tE X.K (b1 o f)) :=
  pe_weak (pe_un ho ha) fun σ H Q h => by
    obtain ⟨c, F, ρ, ω, d, ω', w, e, q⟩ := h
    obtain ⟨x, ω1, e1, e⟩ := bnd_some e
    obtain ⟨e3, rfl⟩ := opt_some e
    exact ⟨c, F, ρ, ω, x, _, w, e1, fun F1 H1 v p1 r1 => hr c.q F1 H1 _ v x d Q p1.le p1.ora r1 e3 fun F3 H3 z p3 r3 => q F3 H3 z (p1.trans p3) r3⟩

/-! ### arguments -/
def aN : AF := fun _ => ret []
def aC (f : EF) (g : AF) : AF := fun ρ => bnd (f ρ) fun x => bnd (g ρ) fun y => ret (x :: y)
theorem a_nil : PA X [] (tA X.K aN) := pa_weak pa_nil fun σ H Q ⟨c, F, ρ, ω, d, ω', w, e, q⟩ => by
  obtain ⟨rfl, rfl⟩ := ret_some e
  exact q F H [] w.self .nil
theorem a_cons {es : List Expr} {g : AF} (ha : PE X e (tB X.K f)) (hr : PA X es (tA X.K g)) (hs : starEach (e :: es) X.env = (false, eval e X.env) :: starEach es X.env := by rfl) : PA X (e :: es) (tA X.K (aC f g)) :=
  pa_weak (pa_cons ha hr hs) fun σ H Q ⟨c, F, ρ, ω, d, ω', w, e, q⟩ => by
    obtain ⟨x, ω1, e1, e⟩ := bnd_some e
    obtain ⟨y, ω2, e2, e⟩ := bnd_some e
    obtain ⟨rfl, rfl⟩ := ret_some e
    exact ⟨c, F, ρ, ω, x, ω1, w, e1, fun F1 H1 v p1 r1 => ⟨c, F1, ρ, ω1, y, _, w.ext p1, e2, fun F2 H2 u p2 r2 => q F2 H2 _ (p1.trans p2) (.cons (r1.ext p2) r2)⟩⟩
theorem ae_nil : PA X [] (tAE X.K aN) := pa_weak pa_nil fun σ H Q ⟨c, F, ρ, ω, d, ω', w, e, q⟩ => by
  obtain ⟨rfl, rfl⟩ := ret_some e
  exact q F H [] w.self .nil
theorem ae_cons {es : List Expr} {g : AF} (ha : PE X e (tE X.K f)) (hr : PA X es (tAE X.K g)) (hs : starEach (e :: es) X.env = (false, eval e X.env) :: starEach es X.env := by rfl) : PA X (e :: es) (tAE X.K (aC f g)) :=
  pa_weak (pa_cons ha hr hs) fun σ H Q ⟨c, F, ρ, ω, d, ω', w, e, q⟩ => by
    obtain ⟨x, ω1, e1, e⟩ := bnd_some e
    obtain ⟨y, ω2, e2, e⟩ := bnd_some e
    obtain ⟨rfl, rfl⟩ := ret_some e
    exact ⟨c, F, ρ, ω, x, ω1, w, e1, fun F1 H1 v p1 r1 => ⟨c, F1, ρ, ω1, y, _, w.ext p1, e2, fun F2 H2 u p2 r2 => q F2 H2 _ (p1.trans p2) (.cons (r1.mono p2.le0) r2)⟩⟩
/-- displays -/
def eTup (g : AF) : EF := fun ρ => bnd (g ρ) fun ds => opt (if ds.length ≤ sizeLine then some (.tup ds) else none)
def eLst (g : AF) : EF := fun ρ => bnd (g ρ) fun ds => opt (if ds.length ≤ sizeLine then some (.lst ds) else none)
theorem e_tup {es : List Expr} {g : AF} {k : Nat} (h : PA X es (tAE X.K g)) : PE X (.Tuple es k pos) (tE X.K (eTup g)) := pe_weak (pe_tup h) fun σ H Q ⟨c, F, ρ, ω, d, ω', w, e, q⟩ => by
  obtain ⟨x, ω1, e1, e⟩ := bnd_some e
  obtain ⟨e3, rfl⟩ := opt_some e
  split at e3
  · rename_i hz
    cases e3
    exact ⟨c, F, ρ, ω, x, _, w, e1, fun F1 H1 v p1 r1 => ⟨by rw [r1.length]; exact hz, fun p hp => q _ _ _ (p1.trans (Post.alloc p1.le p1.ora hp)) (.tup (.inl (.inl upd_same)) (r1.mono (same_new (same_none p1.le hp))))⟩⟩
  · cases e3
theorem f_lst {es : List Expr} {g : AF} (h : PA X es (tAE X.K g)) : PE X (.List es pos) (tF X.K (eLst g)) := pe_weak (pe_lst h) fun σ H Q ⟨c, F, ρ, ω, d, ω', w, e, q⟩ => by
  obtain ⟨x, ω1, e1, e⟩ := bnd_some e
  obtain ⟨e3, rfl⟩ := opt_some e
  split at e3
  · rename_i hz
    cases e3
    refine ⟨c, F, ρ, ω, x, _, w, e1, fun F1 H1 v p1 r1 => ⟨by rw [r1.length]; exact hz, fun p hp => q _ _ _ (p1.trans (Post.fresh p1.le p1.ora hp)) ?_ (same_none p1.le hp) ⟨v, upd_same, r1⟩⟩⟩
    cases e : H p with
    | none => rfl
    | some o => exact absurd hp (p1.some_of (by rw [e]; exact (fun z => nomatch z)) (qfree_none p1.ora hp))
  · cases e3

/-! ### calls of built-ins by name -/
theorem argsE {r : List V → Hp → VK → Prop} {o : List D → Option D} {g : AF} (hr : PureA X.K r o) {σ : L2.St} {H : Hp} {Q : VK} (h : tE X.K (bA o g) σ H Q) : tCB r (tA X.K g) σ H Q := by
  obtain ⟨c, F, ρ, ω, d, ω', w, e, q⟩ := h
  obtain ⟨x, ω1, e1, e⟩ := bnd_some e
  obtain ⟨e3, rfl⟩ := opt_some e
  exact ⟨c, F, ρ, ω, x, _, w, e1, fun F1 H1 v p1 r1 => hr c.q F1 H1 _ v x d Q p1.le p1.ora r1 e3 fun F3 H3 z p3 r3 => q F3 H3 z (p1.trans p3) r3⟩
theorem none_back {q : Qa} {F H F1 H1 : Hp} {ω1 : Ora} (p1 : Post q F H F1 H1 ω1) {p : Addr} (hp : H1 p = none) : H p = none := by
  cases e : H p with
  | none => rfl
  | some o => exact absurd hp (p1.some_of (by rw [e]; exact (fun z => nomatch z)) (qfree_none p1.ora hp))
theorem argsF {r : List V → Hp → VK → Prop} {o : List D → Option D} {g : AF} (hr : PureAF X.K r o) {σ : L2.St} {H : Hp} {Q : VK} (h : tF X.K (bA o g) σ H Q) : tCB r (tA X.K g) σ H Q := by
  obtain ⟨c, F, ρ, ω, d, ω', w, e, q⟩ := h
  obtain ⟨x, ω1, e1, e⟩ := bnd_some e
  obtain ⟨e3, rfl⟩ := opt_some e
  exact ⟨c, F, ρ, ω, x, _, w, e1, fun F1 H1 v p1 r1 => hr c.q F1 H1 _ v x d Q p1.le p1.ora r1 e3 fun F3 H3 z p3 n3 f3 r3 => q F3 H3 z (p1.trans p3) (none_back p1 n3) f3 r3⟩
section
variable {r : List V → Hp → VK → Prop} {o : List D → Option D} {g : AF} {x : Str} {id T : String} {es : List Expr} {p : Pos}
theorem e_callB (hc : CallR X (.builtin id) r) (hr : PureA X.K r o) (hm : X.mg x = none) (ha : PA X (e :: es) (tA X.K g)) (hg : Gl X x := by rfl) (hv : bootBuiltins x = some (.builtin id) := by first | assumption | decide +kernel)
    (hn : x ≠ "__name__" := by decide) (hdb : (x == ("__debug__" : Str)) = false := by decide) (he : starEach (e :: es) X.env = (false, eval e X.env) :: starEach es X.env := by rfl) (hpl : (backTo pos (starEach es X.env)).any (·.1) = false := by rfl) : PE X (.Call (.Name x p) (e :: es) [] pos) (tE X.K (bA o g)) :=
  pe_weak (pe_callB hc hg hm hv ha hn hdb he hpl) fun σ H Q h => argsE hr h
theorem f_callB (hc : CallR X (.builtin id) r) (hr : PureAF X.K r o) (hm : X.mg x = none) (ha : PA X (e :: es) (tA X.K g)) (hg : Gl X x := by rfl) (hv : bootBuiltins x = some (.builtin id) := by first | assumption | decide +kernel)
    (hn : x ≠ "__name__" := by decide) (hdb : (x == ("__debug__" : Str)) = false := by decide) (he : starEach (e :: es) X.env = (false, eval e X.env) :: starEach es X.env := by rfl) (hpl : (backTo pos (starEach es X.env)).any (·.1) = false := by rfl) : PE X (.Call (.Name x p) (e :: es) [] pos) (tF X.K (bA o g)) :=
  pe_weak (pe_callB hc hg hm hv ha hn hdb he hpl) fun σ H Q h => argsF hr h
theorem e_callTy (hc : CallR X (.type T) r) (hr : PureA X.K r o) (hm : X.mg x = none) (ha : PA X (e :: es) (tA X.K g)) (hg : Gl X x := by rfl) (hv : bootBuiltins x = some (.type T) := by first | assumption | decide +kernel)
    (hn : x ≠ "__name__" := by decide) (hdb : (x == ("__debug__" : Str)) = false := by decide) (he : starEach (e :: es) X.env = (false, eval e X.env) :: starEach es X.env := by rfl) (hpl : (backTo pos (starEach es X.env)).any (·.1) = false := by rfl) : PE X (.Call (.Name x p) (e :: es) [] pos) (tE X.K (bA o g)) :=
  pe_weak (pe_callTy hc hg hm hv ha hn hdb he hpl) fun σ H Q h => argsE hr h
theorem f_callTy (hc : CallR X (.type T) r) (hr : PureAF X.K r o) (hm : X.mg x = none) (ha : PA X (e :: es) (tA X.K g)) (hg : Gl X x := by rfl) (hv : bootBuiltins x = some (.type T) := by first | assumption | decide +kernel)
    (hn : x ≠ "__name__" := by decide) (hdb : (x == ("__debug__" : Str)) = false := by decide) (he : starEach (e :: es) X.env = (false, eval e X.env) :: starEach es X.env := by rfl) (hpl : (backTo pos (starEach es X.env)).any (·.1) = false := by rfl) : PE X (.Call (.Name x p) (e :: es) [] pos) (tF X.K (bA o g)) :=
  pe_weak (pe_callTy hc hg hm hv ha hn hdb he hpl) fun σ H Q h => argsF hr h
end
end
end FL
end
section
/-! FL: operations. -/
namespace FL
open PySem PySem.Spec PyProof.Rows L2

section
variable {K : PySem.W.Frag} {q : Qa} {F H : Hp} {ω : Ora} {v : V} {d : D}
theorem Vw.rep_of (h : Vw K q F H v d) (n : ∀ p, ¬ OwnR K q F H p d) : Rep K q F v d := by
  rcases h with h | ⟨p, rfl, _, _, h3⟩
  · exact h
  · exact (n p h3).elim
end

/-! ### + -/
def dAdd : D → D → Option D
  | .int i, .int j => some (.int (i + j))
  | .tup a, .tup b => if a.length + b.length ≤ sizeLine then some (.tup (a ++ b)) else none
  | .lst a, .lst b => if a.length + b.length ≤ sizeLine then some (.lst (a ++ b)) else none
  | _, _ => none
def dCat : D → D → Option D
  | .lst a, .lst b => if a.length + b.length ≤ sizeLine then some (.lst (a ++ b)) else none
  | _, _ => none
def rAddA (K : PySem.W.Frag) : R2 := fun x y H Q => rI0 (fun i j => .int (i + j)) x y H Q ∨ (rCat x y H Q ∨ rCatA K x y H Q)
theorem op_addA {X : Cx} : OpR X (binaryOp .Add) (rAddA X.K) := op_add.or (op_cat.or op_catA)
theorem cat_pureF {K : PySem.W.Frag} : Pure2F K rCat dCat := by
  intro q F H ω x y a b d Q hs ho hx hy e k
  cases a <;> cases b <;> simp only [dCat, reduceCtorEq] at e
  rename_i as bs
  split at e
  · cases e
    obtain ⟨p, vs, rfl, h1, r1⟩ := hx.lst hs
    obtain ⟨p2, vs2, rfl, h2, r2⟩ := hy.lst hs
    refine ⟨p, p2, vs, vs2, rfl, rfl, h1, h2, by rw [r1.length, r2.length]; assumption, fun z hz => k F _ z (Post.fresh hs ho hz) hz (same_none hs hz) ⟨_, upd_same, r1.append r2⟩⟩
  · cases e
theorem add_pure {K : PySem.W.Frag} : Pure2 K (rAddA K) dAdd := by
  intro q F H ω x y a b d Q hs ho hx hy e k
  cases a <;> cases b <;> simp only [dAdd, reduceCtorEq] at e
  · cases e
    cases hx.int
    cases hy.int
    exact .inl ⟨_, _, rfl, rfl, k F H _ (.mk0 hs ho) (.int _)⟩
  · split at e
    · cases e
      have hx' := hx.rep_of (fun p h => h)
      have hy' := hy.rep_of (fun p h => h)
      obtain ⟨p, vs, rfl, h1, r1⟩ := hx.tup hs
      obtain ⟨p2, vs2, rfl, h2, r2⟩ := hy.tup hs
      refine .inr (.inr ⟨p, p2, vs, vs2, rfl, rfl, h1, h2, by rw [r1.length, r2.length]; assumption, fun z => ?_, fun z1 z2 => ?_, fun z1 z2 z hz => ?_⟩)
      · subst z; cases r1; exact k F H _ (.mk0 hs ho) hy'
      · subst z2; cases r2; rw [List.append_nil] at k; exact k F H _ (.mk0 hs ho) hx'
      · exact k _ _ _ (Post.alloc hs ho hz) (.tup (.inl (.inl upd_same)) ((r1.append r2).mono (same_new (same_none hs hz))))
    · cases e
  · refine .inr (.inl (cat_pureF q F H ω x y _ _ d Q hs ho hx hy e fun F' H' p po hn hf o => ?_))
    obtain ⟨u, hu, r⟩ := o.rep hf
    exact k _ H' _ (po.freeze ho hn hu) r

/-! ### -, *, //, % -/
def dSub : D → D → Option D
  | .int i, .int j => some (.int (i - j))
  | _, _ => none
theorem sub_pure {K : PySem.W.Frag} : Pure2 K (rI0 fun i j => .int (i - j)) dSub := by
  intro q F H ω x y a b d Q hs ho hx hy e k
  cases a <;> cases b <;> simp only [dSub, reduceCtorEq] at e
  cases e
  cases hx.int
  cases hy.int
  exact ⟨_, _, rfl, rfl, k F H _ (.mk0 hs ho) (.int _)⟩
def mulOk (i j : Int) : Bool := (decide (-(2 ^ 64) < i) && decide (i < 2 ^ 64)) || (decide (-(2 ^ 64) < j) && decide (j < 2 ^ 64)) || (decide (i.natAbs < 2 ^ 20000) && decide (j.natAbs < 2 ^ 20000))
def repOk (n : Nat) (k : Int) : Bool := decide (-(2 ^ 63) ≤ k) && decide (k < 2 ^ 63) && decide (n * k.toNat ≤ sizeLine)
def dMul : D → D → Option D
  | .int i, .int j => if mulOk i j = true then some (.int (i * j)) else none
  | .lst ds, .int k => if repOk ds.length k = true then some (.lst (List.replicate k.toNat ds).flatten) else none
  | _, _ => none
def dRep : D → D → Option D
  | .lst ds, .int k => if repOk ds.length k = true then some (.lst (List.replicate k.toNat ds).flatten) else none
  | _, _ => none
theorem rep_pureF {K : PySem.W.Frag} : Pure2F K rRep dRep := by
  intro q F H ω x y a b d Q hs ho hx hy e k
  cases a <;> cases b <;> simp only [dRep, reduceCtorEq] at e
  split at e
  · rename_i h
    simp only [repOk, Bool.and_eq_true, decide_eq_true_eq] at h
    cases e
    obtain ⟨p, vs, rfl, h1, r1⟩ := hx.lst hs
    cases hy.int
    exact ⟨p, _, vs, rfl, rfl, h1, h.1.1, h.1.2, by rw [r1.length]; exact h.2, fun z hz => k F _ z (Post.fresh hs ho hz) hz (same_none hs hz) ⟨_, upd_same, r1.rep _⟩⟩
  · cases e
def rMulA : R2 := fun x y H Q => rI CMul (fun i j => .int (i * j)) x y H Q ∨ (rI CMulW (fun i j => .int (i * j)) x y H Q ∨ rRep x y H Q)
theorem op_mulA {X : Cx} : OpR X (binaryOp .Mult) rMulA := op_mul.or (op_mulW.or op_rep)
theorem mul_pure {K : PySem.W.Frag} : Pure2 K rMulA dMul := by
  intro q F H ω x y a b d Q hs ho hx hy e k
  cases a <;> cases b <;> simp only [dMul, reduceCtorEq] at e
  · split at e
    · rename_i h
      cases e
      cases hx.int
      cases hy.int
      simp only [mulOk, Bool.or_eq_true, Bool.and_eq_true, decide_eq_true_eq] at h
      rcases h with (h | h) | h
      · exact .inl ⟨_, _, rfl, rfl, .inl h, k F H _ (.mk0 hs ho) (.int _)⟩
      · exact .inl ⟨_, _, rfl, rfl, .inr h, k F H _ (.mk0 hs ho) (.int _)⟩
      · exact .inr (.inl ⟨_, _, rfl, rfl, wide_mul h.1 h.2 (by decide) (by decide) (by decide), k F H _ (.mk0 hs ho) (.int _)⟩)
    · cases e
  · refine .inr (.inr (rep_pureF q F H ω x y (.lst _) (.int _) d Q hs ho hx hy e fun F' H' p po hn hf o => ?_))
    obtain ⟨u, hu, r⟩ := o.rep hf
    exact k _ H' _ (po.freeze ho hn hu) r
def dDiv : D → D → Option D
  | .int i, .int j => if (decide (0 < j) && decide (j.natAbs < 2 ^ 8000)) = true then some (.int (i / j)) else none
  | _, _ => none
theorem div_pure {K : PySem.W.Frag} : Pure2 K (rI CDivW fun i j => .int (i / j)) dDiv := by
  intro q F H ω x y a b d Q hs ho hx hy e k
  cases a <;> cases b <;> simp only [dDiv, reduceCtorEq] at e
  split at e
  · rename_i h
    simp only [Bool.and_eq_true, decide_eq_true_eq] at h
    cases e
    cases hx.int
    cases hy.int
    exact ⟨_, _, rfl, rfl, wide_div h.1 h.2 (by decide) (by decide), k F H _ (.mk0 hs ho) (.int _)⟩
  · cases e
def dMod : D → D → Option D
  | .int i, .int j => if decide (0 < j) = true then some (.int (i % j)) else none
  | _, _ => none
theorem mod_pure {K : PySem.W.Frag} : Pure2 K (rI (fun _ j => 0 < j) fun i j => .int (i % j)) dMod := by
  intro q F H ω x y a b d Q hs ho hx hy e k
  cases a <;> cases b <;> simp only [dMod, reduceCtorEq] at e
  split at e
  · rename_i h
    simp only [decide_eq_true_eq] at h
    cases e
    cases hx.int
    cases hy.int
    exact ⟨_, _, rfl, rfl, h, k F H _ (.mk0 hs ho) (.int _)⟩
  · cases e
def dPow : D → D → Option D
  | .int i, .int j => if (decide (0 ≤ j) && decide (j ≤ 1000000) && decide (i.natAbs < 2 ^ 64)) = true then some (.int (i ^ j.toNat)) else none
  | _, _ => none
theorem pow_pure {K : PySem.W.Frag} : Pure2 K (rI CPow fun i j => .int (i ^ j.toNat)) dPow := by
  intro q F H ω x y a b d Q hs ho hx hy e k
  cases a <;> cases b <;> simp only [dPow, reduceCtorEq] at e
  split at e
  · rename_i h
    simp only [Bool.and_eq_true, decide_eq_true_eq] at h
    cases e
    cases hx.int
    cases hy.int
    exact ⟨_, _, rfl, rfl, ⟨h.1.1, h.1.2, h.2⟩, k F H _ (.mk0 hs ho) (.int _)⟩
  · cases e
def dShl : D → D → Option D
  | .int i, .int j => if (decide (0 ≤ j) && decide (j ≤ 1000000) && decide (i.natAbs < 2 ^ 64)) = true then some (.int (i * 2 ^ j.toNat)) else none
  | _, _ => none
theorem shl_pure {K : PySem.W.Frag} : Pure2 K (rI CPow fun i j => .int (i * 2 ^ j.toNat)) dShl := by
  intro q F H ω x y a b d Q hs ho hx hy e k
  cases a <;> cases b <;> simp only [dShl, reduceCtorEq] at e
  split at e
  · rename_i h
    simp only [Bool.and_eq_true, decide_eq_true_eq] at h
    cases e
    cases hx.int
    cases hy.int
    exact ⟨_, _, rfl, rfl, ⟨h.1.1, h.1.2, h.2⟩, k F H _ (.mk0 hs ho) (.int _)⟩
  · cases e
def dNeg : D → Option D
  | .int i => some (.int (-i))
  | _ => none
theorem neg_pure {K : PySem.W.Frag} : Pure1 K (rU fun i => .int (-i)) dNeg := by
  intro q F H ω x a d Q hs ho hx e k
  cases a <;> simp only [dNeg, reduceCtorEq] at e
  cases e
  cases hx.int
  exact ⟨_, rfl, k F H _ (.mk0 hs ho) (.int _)⟩

/-! ### comparisons of ints -/
def dCmp (p : Int → Int → Bool) : D → D → Option D
  | .int i, .int j => some (.bl (p i j))
  | _, _ => none
theorem cmp_pure {K : PySem.W.Frag} (p : Int → Int → Bool) : Pure2 K (rI0 fun i j => .bl (p i j)) (dCmp p) := by
  intro q F H ω x y a b d Q hs ho hx hy e k
  cases a <;> cases b <;> simp only [dCmp, reduceCtorEq] at e
  cases e
  cases hx.int
  cases hy.int
  exact ⟨_, _, rfl, rfl, k F H _ (.mk0 hs ho) (.bl _)⟩
abbrev dLt : D → D → Option D := dCmp fun i j => decide (i < j)
abbrev dLe : D → D → Option D := dCmp fun i j => decide (i ≤ j)
abbrev dGt : D → D → Option D := dCmp fun i j => decide (j < i)
abbrev dGe : D → D → Option D := dCmp fun i j => decide (j ≤ i)

/-! ### equality -/
mutual
def toPy : D → PyData
  | .non => .none
  | .bl b => .bool b
  | .int i => .int i
  | .str x => .str x
  | .tup ds => .tuple (toPys ds)
  | .lst ds => .list (toPys ds)
  | .dic _ => .dict []
  | .tok => .dict []
def toPys : List D → List PyData
  | [] => []
  | d :: ds => toPy d :: toPys ds
end
def okd : Nat → D → Bool
  | _, .non => true
  | _, .bl _ => true
  | _, .int _ => true
  | _, .str x => PyData.strOk x
  | n + 1, .tup ds => ds.all (okd n)
  | n + 1, .lst ds => ds.all (okd n)
  | _, _ => false
theorem canLays {ds : List D} (h : ∀ d ∈ ds, (toPy d).canLay0 = true) : PyData.canLayAll0 (toPys ds) = true := by
  induction ds with
  | nil => rfl
  | cons d ds ih =>
    rw [toPys, PyData.canLayAll0, h d (by simp), ih fun e he => h e (by simp [he])]; rfl
theorem depths {ds : List D} {n : Nat} (h : ∀ d ∈ ds, (toPy d).depth ≤ n) : PyData.depthAll (toPys ds) ≤ n := by
  induction ds with
  | nil => exact Nat.zero_le _
  | cons d ds ih =>
    rw [toPys, PyData.depthAll]
    exact Nat.max_le.mpr ⟨h d (by simp), ih fun e he => h e (by simp [he])⟩
theorem okd_py : ∀ (n : Nat) (d : D), okd n d = true → (toPy d).canLay0 = true ∧ (toPy d).depth ≤ n := by
  intro n
  induction n with
  | zero =>
    intro d h
    cases d <;> simp only [okd, Bool.false_eq_true] at h <;> simp [toPy, PyData.canLay0, PyData.depth]
    exact h
  | succ n ih =>
    intro d h
    cases d <;> simp only [okd, Bool.false_eq_true] at h
    case tup ds =>
      have h' := List.all_eq_true.mp h
      refine ⟨?_, ?_⟩
      · rw [toPy, PyData.canLay0]; exact canLays fun d hd => (ih d (h' d hd)).1
      · rw [toPy, PyData.depth]; exact Nat.succ_le_succ (depths fun d hd => (ih d (h' d hd)).2)
    case lst ds =>
      have h' := List.all_eq_true.mp h
      refine ⟨?_, ?_⟩
      · rw [toPy, PyData.canLay0]; exact canLays fun d hd => (ih d (h' d hd)).1
      · rw [toPy, PyData.depth]; exact Nat.succ_le_succ (depths fun d hd => (ih d (h' d hd)).2)
    all_goals simp [toPy, PyData.canLay0, PyData.depth]
    exact h
theorem shaped_of {n : Nat} {d : D} (h : okd n d = true) (hn : n ≤ 64) : SeqAt.shaped (toPy d) = true := by
  obtain ⟨h1, h2⟩ := okd_py n d h
  unfold SeqAt.shaped
  rw [h1, decide_eq_true (Nat.le_trans h2 hn)]; rfl
section
variable {K : PySem.W.Frag} {q : Qa} {H : Hp}
theorem dp_of : ∀ (n : Nat) (d : D) (v : V), okd n d = true → Rep K q H v d → Dp K H v (toPy d) := by
  intro n
  induction n with
  | zero =>
    intro d v h r
    cases d <;> simp only [okd, Bool.false_eq_true] at h
    · cases r; rw [toPy]; exact .non
    · cases r; rw [toPy]; exact .bl _
    · cases r; rw [toPy]; exact .int _
    · cases r; rw [toPy]; exact .str _
  | succ n ih =>
    have all : ∀ (ds : List D) (vs : List V), ds.all (okd n) = true → Reps K q H vs ds → DpAll K H vs (toPys ds) := by
      intro ds
      induction ds with
      | nil => intro vs _ r; cases r; rw [toPys]; exact .nil
      | cons d ds ihs =>
        intro vs h r
        rw [List.all_cons, Bool.and_eq_true] at h
        cases r with
        | cons r1 r2 => rw [toPys]; exact .cons (ih d _ h.1 r1) (ihs _ h.2 r2)
    intro d v h r
    cases d <;> simp only [okd, Bool.false_eq_true] at h
    · cases r; rw [toPy]; exact .non
    · cases r; rw [toPy]; exact .bl _
    · cases r; rw [toPy]; exact .int _
    · cases r; rw [toPy]; exact .str _
    · cases r with | tup e rs => rw [toPy]; exact .tup e (all _ _ h rs)
    · cases r with | lst e rs => rw [toPy]; exact .lst (.inl (.inl e)) (all _ _ h rs)
end
def eqD (x y : D) : Bool := PyData.eqv (toPy x) (toPy y)
def dEq (x y : D) : Option D := if (okd 60 x && okd 60 y) = true then some (.bl (eqD x y)) else none
def dNe (x y : D) : Option D := if (okd 60 x && okd 60 y) = true then some (.bl (!eqD x y)) else none
theorem eq_pure {K : PySem.W.Frag} : Pure2 K (rEqD K) dEq := by
  intro q F H ω x y a b d Q hs ho hx hy e k
  unfold dEq at e
  split at e
  · rename_i h
    rw [Bool.and_eq_true] at h
    cases e
    exact ⟨toPy a, toPy b, dp_of _ _ _ h.1 (hx.repH hs), dp_of _ _ _ h.2 (hy.repH hs), shaped_of h.1 (by decide), shaped_of h.2 (by decide), k F H _ (.mk0 hs ho) (.bl _)⟩
  · cases e
theorem ne_pure {K : PySem.W.Frag} : Pure2 K (rNeD K) dNe := by
  intro q F H ω x y a b d Q hs ho hx hy e k
  unfold dNe at e
  split at e
  · rename_i h
    rw [Bool.and_eq_true] at h
    cases e
    exact ⟨toPy a, toPy b, dp_of _ _ _ h.1 (hx.repH hs), dp_of _ _ _ h.2 (hy.repH hs), shaped_of h.1 (by decide), shaped_of h.2 (by decide), k F H _ (.mk0 hs ho) (.bl _)⟩
  · cases e
/-! ### is -/
def isNonD : D → Bool
  | .non => true
  | _ => false
def dIsN (x y : D) : Option D := match y with
  | .non => some (.bl (isNonD x))
  | _ => none
def dNotN (x y : D) : Option D := match y with
  | .non => some (.bl (!isNonD x))
  | _ => none
theorem isNon_iff {K : PySem.W.Frag} {q : Qa} {F H : Hp} {x : V} {a : D} (h : Vw K q F H x a) : decide (x = .non) = isNonD a := by
  rcases h with h | ⟨p, rfl, _, _, h3⟩
  · cases h <;> rfl
  · cases a <;> first | exact h3.elim | rfl
theorem isN_pure {K : PySem.W.Frag} : Pure2 K (fun x y H Q => y = .non ∧ Q (.bl (decide (x = .non))) H) dIsN := by
  intro q F H ω x y a b d Q hs ho hx hy e k
  cases b <;> simp only [dIsN, reduceCtorEq] at e
  cases e
  refine ⟨hy.non, ?_⟩
  rw [isNon_iff hx]
  exact k F H _ (.mk0 hs ho) (.bl _)
theorem notN_pure {K : PySem.W.Frag} : Pure2 K (fun x y H Q => y = .non ∧ Q (.bl (!decide (x = .non))) H) dNotN := by
  intro q F H ω x y a b d Q hs ho hx hy e k
  cases b <;> simp only [dNotN, reduceCtorEq] at e
  cases e
  refine ⟨hy.non, ?_⟩
  rw [isNon_iff hx]
  exact k F H _ (.mk0 hs ho) (.bl _)
def dIsB : D → D → Option D
  | .bl a, .bl b => some (.bl (decide (a = b)))
  | _, _ => none
def dNotB : D → D → Option D
  | .bl a, .bl b => some (.bl (!decide (a = b)))
  | _, _ => none
theorem isB_pure {K : PySem.W.Frag} : Pure2 K rIsB dIsB := by
  intro q F H ω x y a b d Q hs ho hx hy e k
  cases a <;> cases b <;> simp only [dIsB, reduceCtorEq] at e
  cases e
  cases hx.bl
  cases hy.bl
  exact ⟨_, _, rfl, rfl, k F H _ (.mk0 hs ho) (.bl _)⟩
theorem notB_pure {K : PySem.W.Frag} : Pure2 K rNotB dNotB := by
  intro q F H ω x y a b d Q hs ho hx hy e k
  cases a <;> cases b <;> simp only [dNotB, reduceCtorEq] at e
  cases e
  cases hx.bl
  cases hy.bl
  exact ⟨_, _, rfl, rfl, k F H _ (.mk0 hs ho) (.bl _)⟩
/-! ### in -/
def inD (a : D) (ds : List D) : Bool := ds.any fun z => eqD z a
def dIn (a b : D) : Option D := match b with
  | .lst ds => if (okd 60 a && okd 60 (.lst ds)) = true then some (.bl (inD a ds)) else none
  | _ => none
def dNotIn (a b : D) : Option D := match b with
  | .lst ds => if (okd 60 a && okd 60 (.lst ds)) = true then some (.bl (!inD a ds)) else none
  | _ => none
theorem toPys_any (f : PyData → Bool) : ∀ ds : List D, (toPys ds).any f = ds.any fun z => f (toPy z)
  | [] => rfl
  | d :: ds => by rw [toPys, List.any_cons, List.any_cons, toPys_any f ds]
theorem in_pure {K : PySem.W.Frag} : Pure2 K (rInD K) dIn := by
  intro q F H ω x y a b d Q hs ho hx hy e k
  cases b <;> simp only [dIn, reduceCtorEq] at e
  split at e
  · rename_i h
    rw [Bool.and_eq_true] at h
    cases e
    have hy' := dp_of _ _ _ h.2 (hy.repH hs)
    have sy := shaped_of h.2 (by decide)
    rw [toPy] at hy' sy
    refine ⟨toPy a, toPys _, dp_of _ _ _ h.1 (hx.repH hs), hy', shaped_of h.1 (by decide), sy, ?_⟩
    rw [toPys_any]
    exact k F H _ (.mk0 hs ho) (.bl _)
  · cases e
theorem notIn_pure {K : PySem.W.Frag} : Pure2 K (rNotInD K) dNotIn := by
  intro q F H ω x y a b d Q hs ho hx hy e k
  cases b <;> simp only [dNotIn, reduceCtorEq] at e
  split at e
  · rename_i h
    rw [Bool.and_eq_true] at h
    cases e
    have hy' := dp_of _ _ _ h.2 (hy.repH hs)
    have sy := shaped_of h.2 (by decide)
    rw [toPy] at hy' sy
    refine ⟨toPy a, toPys _, dp_of _ _ _ h.1 (hx.repH hs), hy', shaped_of h.1 (by decide), sy, ?_⟩
    rw [toPys_any]
    exact k F H _ (.mk0 hs ho) (.bl _)
  · cases e
/-- an int in a tuple of ints -/
def dInT (a b : D) : Option D := match a, b with
  | .int i, .tup ds => (intsOf ds).map fun ns => .bl (ns.any fun n => n == i)
  | _, _ => none
def dNotInT (a b : D) : Option D := match a, b with
  | .int i, .tup ds => (intsOf ds).map fun ns => .bl (!ns.any fun n => n == i)
  | _, _ => none
theorem all_flat (ns : List Int) : (ns.map V.int).all flatV = true := by
  rw [List.all_eq_true]
  intro v hv
  obtain ⟨n, _, rfl⟩ := List.mem_map.mp hv
  rfl
theorem inV_ints (i : Int) (ns : List Int) : inV (.int i) (ns.map V.int) = ns.any fun n => n == i := by
  unfold inV
  rw [List.any_map]
  rfl
theorem inT_pure {K : PySem.W.Frag} : Pure2 K (rIn K false) dInT := by
  intro q F H ω x y a b d Q hs ho hx hy e k
  cases a <;> cases b <;> simp only [dInT, reduceCtorEq, Option.map_eq_some_iff] at e
  obtain ⟨ns, e1, rfl⟩ := e
  have e2 := intsOf_eq e1
  subst e2
  cases hx.int
  obtain ⟨p, vs, rfl, h1, r1⟩ := hy.tup hs
  cases r1.ints
  refine ⟨p, _, rfl, .inr h1, rfl, all_flat ns, ?_⟩
  rw [inV_ints]
  exact k F H _ (.mk0 hs ho) (.bl _)
theorem notInT_pure {K : PySem.W.Frag} : Pure2 K (rIn K true) dNotInT := by
  intro q F H ω x y a b d Q hs ho hx hy e k
  cases a <;> cases b <;> simp only [dNotInT, reduceCtorEq, Option.map_eq_some_iff] at e
  obtain ⟨ns, e1, rfl⟩ := e
  have e2 := intsOf_eq e1
  subst e2
  cases hx.int
  obtain ⟨p, vs, rfl, h1, r1⟩ := hy.tup hs
  cases r1.ints
  refine ⟨p, _, rfl, .inr h1, rfl, all_flat ns, ?_⟩
  rw [inV_ints]
  exact k F H _ (.mk0 hs ho) (.bl _)
end FL
end
section
/-! FL: tests, subscripts, slices, built-ins. -/
namespace FL
open PySem PySem.Spec PyProof.Rows L2

section
variable {X : Cx} {e a b : Expr} {f g : EF} {pos : Pos} {rest : List Expr}
theorem pw_weak {t t' : TT} (h : PW X e t) (i : ∀ σ H Q, t' σ H Q → t σ H Q) : PW X e t' := ⟨fun wh pins s σ H Q I q => h.run wh pins s σ H Q I (i σ H Q q)⟩
def andB (f g : BF) : BF := fun ρ => bnd (f ρ) fun x => bif x then g ρ else ret false
def orB (f g : BF) : BF := fun ρ => bnd (f ρ) fun x => bif x then ret true else g ρ
def notB (f : BF) : BF := fun ρ => bnd (f ρ) fun x => ret (!x)
theorem w_and1 {f : BF} (h : PT X a (tT' X.K f)) : PW X (.BoolOp .And [a] pos) (tT' X.K f) := pw_and1 h
theorem w_or1 {f : BF} (h : PT X a (tT' X.K f)) : PW X (.BoolOp .Or [a] pos) (tT' X.K f) := pw_or1 h
theorem w_and {f g : BF} (h : PT X a (tT' X.K f)) (hb : PW X (.BoolOp .And (b :: rest) pos) (tT' X.K g)) : PW X (.BoolOp .And (a :: b :: rest) pos) (tT' X.K (andB f g)) := pw_weak (pw_and h hb) fun σ H Q ⟨c, F, ρ, ω, d, ω', w, e, q⟩ => by
  obtain ⟨x, ω1, e1, e⟩ := bnd_some e
  refine ⟨c, F, ρ, ω, x, ω1, w, e1, fun F1 H1 p1 => ?_⟩
  cases x with
  | true => exact iteT ⟨c, F1, ρ, ω1, d, ω', w.ext p1, e, fun F2 H2 p2 => q F2 H2 (p1.trans p2)⟩
  | false =>
    obtain ⟨rfl, rfl⟩ := ret_some e
    exact iteF (q F1 H1 p1)
theorem w_or {f g : BF} (h : PT X a (tT' X.K f)) (hb : PW X (.BoolOp .Or (b :: rest) pos) (tT' X.K g)) : PW X (.BoolOp .Or (a :: b :: rest) pos) (tT' X.K (orB f g)) := pw_weak (pw_or h hb) fun σ H Q ⟨c, F, ρ, ω, d, ω', w, e, q⟩ => by
  obtain ⟨x, ω1, e1, e⟩ := bnd_some e
  refine ⟨c, F, ρ, ω, x, ω1, w, e1, fun F1 H1 p1 => ?_⟩
  cases x with
  | false => exact iteF ⟨c, F1, ρ, ω1, d, ω', w.ext p1, e, fun F2 H2 p2 => q F2 H2 (p1.trans p2)⟩
  | true =>
    obtain ⟨rfl, rfl⟩ := ret_some e
    exact iteT (q F1 H1 p1)
theorem t_not {f : BF} (h : PT X a (tT' X.K f)) : PT X (.UnaryOp .Not a pos) (tT' X.K (notB f)) := pt_weak (pt_not h) fun σ H Q ⟨c, F, ρ, ω, d, ω', w, e, q⟩ => by
  obtain ⟨x, ω1, e1, e⟩ := bnd_some e
  obtain ⟨rfl, rfl⟩ := ret_some e
  exact ⟨c, F, ρ, ω, x, _, w, e1, fun F1 H1 p1 => q F1 H1 p1⟩
/-- truth -/
def truD : D → Option Bool
  | .non => some false
  | .bl b => some b
  | .int i => some (i != 0)
  | .tup ds => some (!ds.isEmpty)
  | .lst ds => some (!ds.isEmpty)
  | _ => none
def truB (f : EF) : BF := fun ρ => bnd (f ρ) fun x => opt (truD x)
theorem isEmpty_reps {K : PySem.W.Frag} {q : Qa} {F : Hp} {vs : List V} {ds : List D} (r : Reps K q F vs ds) : (!ds.isEmpty) = !vs.isEmpty := by
  cases r <;> rfl
theorem t_tru (h : PE X a (tB X.K f)) (he : ∀ whole, isTrue a X.env whole = (do let v ← whole; standAt a.pos; holding [v] (truthy v)) := by intro _; rfl) : PT X a (tT' X.K (truB f)) := pt_weak (pt_truth h he) fun σ H Q ⟨c, F, ρ, ω, d, ω', w, e, q⟩ => by
  obtain ⟨x, ω1, e1, e⟩ := bnd_some e
  obtain ⟨e3, rfl⟩ := opt_some e
  refine ⟨c, F, ρ, ω, x, _, w, e1, fun F1 H1 v p1 r1 => ⟨d, ?_, q F1 H1 p1⟩⟩
  cases x <;> simp only [truD, reduceCtorEq, Option.some.injEq] at e3
  · cases r1.non; exact e3.symm
  · cases r1.bl; exact e3.symm
  · cases r1.int; exact e3.symm
  · obtain ⟨p, vs, rfl, h1, r⟩ := r1.tup p1.le
    exact .inr (.inl ⟨vs, h1, by rw [← e3]; exact isEmpty_reps r⟩)
  · obtain ⟨p, vs, rfl, h1, r⟩ := r1.lst p1.le
    exact .inl ⟨vs, .inl (.inl h1), by rw [← e3]; exact isEmpty_reps r⟩
/-- and, or, not as values: bools but the last -/
def andV (f g : EF) : EF := fun ρ => bnd (f ρ) fun x => match x with
  | .bl true => g ρ
  | .bl false => ret (.bl false)
  | _ => opt none
def orV (f g : EF) : EF := fun ρ => bnd (f ρ) fun x => match x with
  | .bl true => ret (.bl true)
  | .bl false => g ρ
  | _ => opt none
def notV (f : EF) : EF := fun ρ => bnd (f ρ) fun x => match x with
  | .bl b => ret (.bl (!b))
  | _ => opt none
theorem e_one {op} (h : PE X a (tE X.K f)) : PE X (.BoolOp op [a] pos) (tE X.K f) := pe_one h
theorem e_and (h : PE X a (tE X.K f)) (hb : PE X (.BoolOp .And (b :: rest) pos) (tE X.K g)) : PE X (.BoolOp .And (a :: b :: rest) pos) (tE X.K (andV f g)) := pe_weak (pe_and h hb) fun σ H Q ⟨c, F, ρ, ω, d, ω', w, e, q⟩ => by
  obtain ⟨x, ω1, e1, e⟩ := bnd_some e
  refine ⟨c, F, ρ, ω, x, ω1, w, e1, fun F1 H1 v p1 r1 => ?_⟩
  split at e
  · cases r1
    exact ⟨true, rfl, iteT ⟨c, F1, ρ, ω1, d, ω', w.ext p1, e, fun F2 H2 v p2 r2 => q F2 H2 v (p1.trans p2) r2⟩⟩
  · obtain ⟨rfl, rfl⟩ := ret_some e
    cases r1
    exact ⟨false, rfl, iteF (q F1 H1 _ p1 (.bl _))⟩
  · cases e
theorem e_or (h : PE X a (tE X.K f)) (hb : PE X (.BoolOp .Or (b :: rest) pos) (tE X.K g)) : PE X (.BoolOp .Or (a :: b :: rest) pos) (tE X.K (orV f g)) := pe_weak (pe_or h hb) fun σ H Q ⟨c, F, ρ, ω, d, ω', w, e, q⟩ => by
  obtain ⟨x, ω1, e1, e⟩ := bnd_some e
  refine ⟨c, F, ρ, ω, x, ω1, w, e1, fun F1 H1 v p1 r1 => ?_⟩
  split at e
  · obtain ⟨rfl, rfl⟩ := ret_some e
    cases r1
    exact ⟨true, rfl, iteT (q F1 H1 _ p1 (.bl _))⟩
  · cases r1
    exact ⟨false, rfl, iteF ⟨c, F1, ρ, ω1, d, ω', w.ext p1, e, fun F2 H2 v p2 r2 => q F2 H2 v (p1.trans p2) r2⟩⟩
  · cases e
theorem e_not (h : PE X a (tE X.K f)) : PE X (.UnaryOp .Not a pos) (tE X.K (notV f)) := pe_weak (pe_not h) fun σ H Q ⟨c, F, ρ, ω, d, ω', w, e, q⟩ => by
  obtain ⟨x, ω1, e1, e⟩ := bnd_some e
  refine ⟨c, F, ρ, ω, x, ω1, w, e1, fun F1 H1 v p1 r1 => ?_⟩
  split at e
  · obtain ⟨rfl, rfl⟩ := ret_some e
    cases r1
    exact ⟨_, rfl, q F1 H1 _ p1 (.bl _)⟩
  · cases e
/-- a if t else b -/
def ifE (t : BF) (f g : EF) : EF := fun ρ => bnd (t ρ) fun x => bif x then f ρ else g ρ
theorem e_if {c : Expr} {t : BF} (hc : PT X c (tT' X.K t)) (ha : PE X a (tE X.K f)) (hb : PE X b (tE X.K g)) : PE X (.IfExp c a b pos) (tE X.K (ifE t f g)) := pe_weak (pe_ifExp hc ha hb) fun σ H Q ⟨c, F, ρ, ω, d, ω', w, e, q⟩ => by
  obtain ⟨x, ω1, e1, e⟩ := bnd_some e
  refine ⟨c, F, ρ, ω, x, ω1, w, e1, fun F1 H1 p1 => ?_⟩
  cases x with
  | true => exact iteT ⟨c, F1, ρ, ω1, d, ω', w.ext p1, e, fun F2 H2 v p2 r2 => q F2 H2 v (p1.trans p2) r2⟩
  | false => exact iteF ⟨c, F1, ρ, ω1, d, ω', w.ext p1, e, fun F2 H2 v p2 r2 => q F2 H2 v (p1.trans p2) r2⟩

/-! ### a chain of two comparisons of ints -/
def chain (p r : Int → Int → Bool) (f g h : EF) : EF := fun ρ => bnd (f ρ) fun x => bnd (g ρ) fun y => match x, y with
  | .int i, .int j => bif p i j then bnd (h ρ) (fun z => match z with
    | .int k => ret (.bl (r j k))
    | _ => opt none) else ret (.bl false)
  | _, _ => opt none
theorem chain_core {K : PySem.W.Frag} {p r : Int → Int → Bool} {f g h : EF} {σ : L2.St} {H : Hp} {Q : VK} (hh : tE K (chain p r f g h) σ H Q) :
    tB K f σ H fun x H1 => tB K g σ H1 fun y H2 => rI0 (fun i j => .bl (p i j)) x y H2 fun z H3 => ∃ k, z = .bl k ∧ (if k = true then tB K h σ H3 fun w' H4 => rI0 (fun i j => .bl (r i j)) y w' H4 Q else Q (.bl false) H3) := by
  obtain ⟨c, F, ρ, ω, d, ω', w, e, q⟩ := hh
  obtain ⟨x, ω1, e1, e⟩ := bnd_some e
  obtain ⟨y, ω2, e2, e⟩ := bnd_some e
  refine ⟨c, F, ρ, ω, x, ω1, w, e1, fun F1 H1 v p1 r1 => ⟨c, F1, ρ, ω1, y, ω2, w.ext p1, e2, fun F2 H2 u p2 r2 => ?_⟩⟩
  cases x with
  | int i =>
    cases y with
    | int j =>
      cases (r1.ext p2).int
      cases r2.int
      refine ⟨_, _, rfl, rfl, _, rfl, ?_⟩
      dsimp only at e
      cases hp : p i j with
      | false =>
        rw [hp] at e
        obtain ⟨rfl, rfl⟩ := ret_some e
        exact iteF (q F2 H2 _ (p1.trans p2) (.bl _))
      | true =>
        rw [hp] at e
        obtain ⟨z, ω3, e3, e⟩ := bnd_some e
        refine iteT ⟨c, F2, ρ, ω2, z, ω3, (w.ext p1).ext p2, e3, fun F3 H3 t p3 r3 => ?_⟩
        cases z with
        | int k =>
          obtain ⟨rfl, rfl⟩ := ret_some e
          cases r3.int
          exact ⟨_, _, rfl, rfl, q F3 H3 _ ((p1.trans p2).trans p3) (.bl _)⟩
        | _ => cases e
    | _ => cases e
  | _ => cases y <;> cases e
theorem e_chain {c : Expr} {p r : Int → Int → Bool} {op op' : CmpOp} {h : EF} (ho : OpR X (compareOp op) (rI0 fun i j => .bl (p i j))) (ho' : OpR X (compareOp op') (rI0 fun i j => .bl (r i j))) (ha : PE X a (tB X.K f)) (hb : PE X b (tB X.K g)) (hc : PE X c (tB X.K h)) (hm : lastMarks [op, op'] [b, c] = false := by with_unfolding_all rfl) : PE X (.Compare a [op, op'] [b, c] pos) (tE X.K (chain p r f g h)) :=
  pe_weak (pe_chain ho ho' ha hb hc (hm := hm)) fun σ H Q h => chain_core h
theorem t_chain {c : Expr} {p r : Int → Int → Bool} {op op' : CmpOp} {h : EF} (ho : OpR X (compareOp op) (rI0 fun i j => .bl (p i j))) (ho' : OpR X (compareOp op') (rI0 fun i j => .bl (r i j))) (ha : PE X a (tB X.K f)) (hb : PE X b (tB X.K g)) (hc : PE X c (tB X.K h)) (hm : lastMarks [op, op'] [b, c] = false := by with_unfolding_all rfl) : PT X (.Compare a [op, op'] [b, c] pos) (tT' X.K (isB (chain p r f g h))) :=
  pt_weak (pt_chain ho ho' ha hb hc (hm := hm)) fun σ H Q h => chain_core (isB_of h)

/-! ### subscripts, slices -/
def dIx : D → D → Option D
  | .lst ds, .int i => atI ds i
  | .tup ds, .int i => atI ds i
  | _, _ => none
theorem atI_reps {K : PySem.W.Frag} {q : Qa} {F : Hp} {vs : List V} {ds : List D} {i : Int} {d : D} (r : Reps K q F vs ds) (h : atI ds i = some d) : ∃ v, atI vs i = some v ∧ Rep K q F v d := by
  unfold atI at h ⊢
  rw [← r.length] at h
  cases e : ixN vs.length i with
  | none => rw [e] at h; cases h
  | some j =>
    rw [e] at h
    exact r.get h
theorem ix_pure {K : PySem.W.Frag} : Pure2 K (rIx K) dIx := by
  intro q F H ω x y a b d Q hs ho hx hy e k
  cases a <;> cases b <;> simp only [dIx, reduceCtorEq] at e
  · cases hy.int
    obtain ⟨p, vs, rfl, h1, r⟩ := hx.tup hs
    obtain ⟨v, h2, h3⟩ := atI_reps r e
    exact .inr (.inl ⟨p, vs, _, v, rfl, rfl, h1, h2, k F H v (.mk0 hs ho) h3⟩)
  · cases hy.int
    obtain ⟨p, vs, rfl, h1, r⟩ := hx.lst hs
    obtain ⟨v, h2, h3⟩ := atI_reps r e
    exact .inl ⟨p, vs, _, v, rfl, rfl, .inl (.inl h1), h2, k F H v (.mk0 hs ho) h3⟩
theorem e_ix (ha : PE X a (tB X.K f)) (hb : PE X b (tB X.K g)) (hs : PlainIx b := by exact fun _ _ => rfl) : PE X (.Subscript a b pos) (tE X.K (b2 dIx f g)) :=
  pe_weak (pe_ix ix_seq ha hb hs) (two_core ix_pure (fun _ _ _ h => h) (fun _ _ _ h => h))
abbrev OF := Env → M (Option Int)
def tO (K : PySem.W.Frag) (f : OF) : TO := fun σ H Q => ∃ c F ρ ω d ω', W K c F H σ ρ ω ∧ f ρ ω = some (d, ω') ∧ ∀ F' H', Post c.q F H F' H' ω' → Q d H'
def oN : OF := fun _ => ret none
def oS (f : EF) : OF := fun ρ => bnd (f ρ) fun x => match x with
  | .int i => ret (some i)
  | _ => opt none
theorem po_weak {e : Option Expr} {t t' : TO} (h : PO X e t) (i : ∀ σ H Q, t' σ H Q → t σ H Q) : PO X e t' := ⟨fun pins s σ H Q I q => h.run pins s σ H Q I (i σ H Q q)⟩
theorem o_none : PO X none (tO X.K oN) := po_weak po_none fun σ H Q ⟨c, F, ρ, ω, d, ω', w, e, q⟩ => by
  obtain ⟨rfl, rfl⟩ := ret_some e
  exact q F H w.self
theorem o_some (h : PE X a (tB X.K f)) : PO X (some a) (tO X.K (oS f)) := po_weak (po_some h) fun σ H Q ⟨c, F, ρ, ω, d, ω', w, e, q⟩ => by
  obtain ⟨x, ω1, e1, e⟩ := bnd_some e
  refine ⟨c, F, ρ, ω, x, ω1, w, e1, fun F1 H1 v p1 r1 => ?_⟩
  split at e
  · obtain ⟨rfl, rfl⟩ := ret_some e
    exact ⟨_, r1.int, q F1 H1 p1⟩
  · cases e
def cutD {α : Type} (xs : List α) (lo hi : Option Int) : List α := (xs.drop (HT.sIx xs.length 0 lo)).take (HT.sIx xs.length xs.length hi - HT.sIx xs.length 0 lo)
theorem cut_reps {K : PySem.W.Frag} {q : Qa} {F : Hp} {vs : List V} {ds : List D} (lo hi : Option Int) (r : Reps K q F vs ds) : Reps K q F (cutV vs lo hi) (cutD ds lo hi) := by
  unfold cutV cutD
  rw [r.length]
  exact (r.drop _).take _
def dSl (x : D) (lo hi : Option Int) : Option D := match x with
  | .lst ds => some (.lst (cutD ds lo hi))
  | .tup ds => some (.tup (cutD ds lo hi))
  | _ => none
def dSlL (x : D) (lo hi : Option Int) : Option D := match x with
  | .lst ds => some (.lst (cutD ds lo hi))
  | _ => none
def slE (o : D → Option Int → Option Int → Option D) (f : EF) (g h : OF) : EF := fun ρ => bnd (f ρ) fun x => bnd (g ρ) fun y => bnd (h ρ) fun z => opt (o x y z)
variable {lo hi : Option Expr} {gl gh : OF} {p2 : Pos}
theorem cut_whole {α : Type} (xs : List α) (lo hi : Option Int) (h1 : HT.sIx xs.length 0 lo = 0) (h2 : HT.sIx xs.length xs.length hi = xs.length) : cutD xs lo hi = xs := by
  unfold cutD
  rw [h1, h2, List.drop_zero, Nat.sub_zero, List.take_length]
theorem e_slice (ha : PE X a (tB X.K f)) (hl : PO X lo (tO X.K gl)) (hh : PO X hi (tO X.K gh)) : PE X (.Subscript a (.Slice lo hi none p2) pos) (tE X.K (slE dSl f gl gh)) :=
  pe_weak (pe_slice (sl_list.or sl_tupA) ha hl hh) fun σ H Q ⟨c, F, ρ, ω, d, ω', w, e, q⟩ => by
    obtain ⟨x, ω1, e1, e⟩ := bnd_some e
    obtain ⟨y, ω2, e2, e⟩ := bnd_some e
    obtain ⟨z, ω3, e3, e⟩ := bnd_some e
    obtain ⟨e4, rfl⟩ := opt_some e
    refine ⟨c, F, ρ, ω, x, ω1, w, e1, fun F1 H1 v p1 r1 => ⟨c, F1, ρ, ω1, y, ω2, w.ext p1, e2, fun F2 H2 p2 => ⟨c, F2, ρ, ω2, z, _, (w.ext p1).ext p2, e3, fun F3 H3 p3 => ?_⟩⟩⟩
    have r3 := (r1.ext p2).ext p3
    have pp := (p1.trans p2).trans p3
    cases x <;> simp only [dSl, reduceCtorEq, Option.some.injEq] at e4
    · subst e4
      have rr := r3.rep_of (fun p h => h)
      obtain ⟨p, vs, rfl, h1, r⟩ := r3.tup p3.le
      refine .inr ⟨p, vs, rfl, h1, fun hw => ?_, fun _ t ht => ?_⟩
      · rw [cut_whole _ _ _ (by rw [← r.length]; exact hw.1) (by rw [← r.length]; exact hw.2)] at q
        exact q F3 H3 _ pp rr
      · exact q _ _ _ (pp.trans (Post.alloc p3.le p3.ora ht)) (.tup (.inl (.inl upd_same)) ((cut_reps _ _ r).mono (same_new (same_none p3.le ht))))
    · subst e4
      obtain ⟨p, vs, rfl, h1, r⟩ := r3.lst p3.le
      refine .inl ⟨p, vs, rfl, .inl (.inl h1), fun t ht => ?_⟩
      exact q _ _ _ (pp.trans (Post.alloc p3.le p3.ora ht)) (.lst upd_same ((cut_reps _ _ r).mono (same_new (same_none p3.le ht))))
theorem f_slice (ha : PE X a (tB X.K f)) (hl : PO X lo (tO X.K gl)) (hh : PO X hi (tO X.K gh)) : PE X (.Subscript a (.Slice lo hi none p2) pos) (tF X.K (slE dSlL f gl gh)) :=
  pe_weak (pe_slice sl_list ha hl hh) fun σ H Q ⟨c, F, ρ, ω, d, ω', w, e, q⟩ => by
    obtain ⟨x, ω1, e1, e⟩ := bnd_some e
    obtain ⟨y, ω2, e2, e⟩ := bnd_some e
    obtain ⟨z, ω3, e3, e⟩ := bnd_some e
    obtain ⟨e4, rfl⟩ := opt_some e
    refine ⟨c, F, ρ, ω, x, ω1, w, e1, fun F1 H1 v p1 r1 => ⟨c, F1, ρ, ω1, y, ω2, w.ext p1, e2, fun F2 H2 p2 => ⟨c, F2, ρ, ω2, z, _, (w.ext p1).ext p2, e3, fun F3 H3 p3 => ?_⟩⟩⟩
    have r3 := (r1.ext p2).ext p3
    have pp := (p1.trans p2).trans p3
    cases x <;> simp only [dSlL, reduceCtorEq, Option.some.injEq] at e4
    subst e4
    obtain ⟨p, vs, rfl, h1, r⟩ := r3.lst p3.le
    refine ⟨p, vs, rfl, .inl (.inl h1), fun t ht => ?_⟩
    exact q _ _ _ (pp.trans (Post.fresh p3.le p3.ora ht)) (none_back pp ht) (same_none p3.le ht) ⟨_, upd_same, cut_reps _ _ r⟩
/-- xs[::-1] of a list -/
def dRev : D → Option D
  | .lst ds => some (.lst ds.reverse)
  | _ => none
theorem f_rev {k : Nat} {q1 q2 q3 : Pos} (ha : PE X a (tB X.K f)) : PE X (.Subscript a (.Slice none none (some (.UnaryOp .USub (.Constant (.int 1) k q1) q2)) q3) pos) (tF X.K (b1 dRev f)) :=
  pe_weak (pe_revL ha) fun σ H Q ⟨c, F, ρ, ω, d, ω', w, e, q⟩ => by
    obtain ⟨x, ω1, e1, e⟩ := bnd_some e
    obtain ⟨e4, rfl⟩ := opt_some e
    refine ⟨c, F, ρ, ω, x, _, w, e1, fun F1 H1 v p1 r1 => ?_⟩
    cases x <;> simp only [dRev, reduceCtorEq, Option.some.injEq] at e4
    subst e4
    obtain ⟨p, vs, rfl, h1, r⟩ := r1.lst p1.le
    refine ⟨p, vs, rfl, .inl (.inl h1), fun t ht => ?_⟩
    exact q _ _ _ (p1.trans (Post.fresh p1.le p1.ora ht)) (none_back p1 ht) (same_none p1.le ht) ⟨_, upd_same, r.reverse⟩
end

/-! ### built-ins -/
section
variable {K : PySem.W.Frag}
def aLen : List D → Option D
  | [d] => (seqD d).map fun ds => .int ds.length
  | _ => none
abbrev rLen (K : PySem.W.Frag) : List V → Hp → VK → Prop := fun xs H Q => ∃ p ys, xs = [.ref p] ∧ (SqL K H p ys ∨ SqT K H p ys) ∧ Q (.int ys.length) H
theorem len_pure : PureA K (rLen K) aLen := by
  intro q F H ω xs a d Q hs ho hx e k
  match a, hx, e with
  | [x], hx, e =>
    simp only [aLen, Option.map_eq_some_iff] at e
    obtain ⟨ds, e1, rfl⟩ := e
    obtain ⟨v, rfl, hv⟩ := hx.one
    obtain ⟨p, vs, rfl, h1, r⟩ := hv.seq hs e1
    refine ⟨p, vs, rfl, h1, ?_⟩
    rw [r.length]
    exact k F H _ (.mk0 hs ho) (.int _)
def aList : List D → Option D
  | [d] => (seqD d).map .lst
  | _ => none
abbrev rListA (K : PySem.W.Frag) : List V → Hp → VK → Prop := fun xs H Q => ∃ p ys, xs = [.ref p] ∧ (SqL K H p ys ∨ SqT K H p ys) ∧ ∀ l, H l = none → Q (.ref l) (upd H l (.lst ys))
theorem list_pureF : PureAF K (rListA K) aList := by
  intro q F H ω xs a d Q hs ho hx e k
  match a, hx, e with
  | [x], hx, e =>
    simp only [aList, Option.map_eq_some_iff] at e
    obtain ⟨ds, e1, rfl⟩ := e
    obtain ⟨v, rfl, hv⟩ := hx.one
    obtain ⟨p, vs, rfl, h1, r⟩ := hv.seq hs e1
    exact ⟨p, vs, rfl, h1, fun l hl => k F _ l (Post.fresh hs ho hl) hl (same_none hs hl) ⟨vs, upd_same, r⟩⟩
def aTuple : List D → Option D
  | [d] => (seqD d).map .tup
  | _ => none
abbrev rTupA (K : PySem.W.Frag) : List V → Hp → VK → Prop := fun xs H Q => ∃ p ys, xs = [.ref p] ∧ ((SqL K H p ys ∧ ∀ l, H l = none → Q (.ref l) (upd H l (.tup ys))) ∨ (SqT K H p ys ∧ Q (.ref p) H))
theorem tuple_pure : PureA K (rTupA K) aTuple := by
  intro q F H ω xs a d Q hs ho hx e k
  match a, hx, e with
  | [x], hx, e =>
    simp only [aTuple, Option.map_eq_some_iff] at e
    obtain ⟨ds, e1, rfl⟩ := e
    obtain ⟨v, rfl, hv⟩ := hx.one
    rcases seqD_some e1 with rfl | rfl
    · obtain ⟨p, vs, rfl, h1, r⟩ := hv.lst hs
      exact ⟨p, vs, rfl, .inl ⟨.inl (.inl h1), fun l hl => k _ _ _ (Post.alloc hs ho hl) (.tup (.inl (.inl upd_same)) (r.mono (same_new (same_none hs hl))))⟩⟩
    · have hv' := hv.rep_of (fun p h => h)
      obtain ⟨p, vs, rfl, h1, r⟩ := hv.tup hs
      exact ⟨p, vs, rfl, .inr ⟨h1, k F H _ (.mk0 hs ho) hv'⟩⟩
/-- ints of a list or tuple -/
def intsD (d : D) : Option (List Int) := (seqD d).bind intsOf
theorem intsD_some {d : D} {ns : List Int} (h : intsD d = some ns) : d = .lst (ns.map .int) ∨ d = .tup (ns.map .int) := by
  unfold intsD at h
  rw [Option.bind_eq_some_iff] at h
  obtain ⟨ds, h1, h2⟩ := h
  have := intsOf_eq h2
  subst this
  exact seqD_some h1
theorem Vw.ints {q : Qa} {F H : Hp} {v : V} {d : D} {ns : List Int} (hv : Vw K q F H v d) (hs : Same F H) (h : intsD d = some ns) : ∃ p, v = .ref p ∧ (SqL K H p (ns.map V.int) ∨ SqT K H p (ns.map V.int)) := by
  rcases intsD_some h with rfl | rfl
  · obtain ⟨p, vs, rfl, h1, r⟩ := hv.lst hs
    cases r.ints
    exact ⟨p, rfl, .inl (.inl (.inl h1))⟩
  · obtain ⟨p, vs, rfl, h1, r⟩ := hv.tup hs
    cases r.ints
    exact ⟨p, rfl, .inr h1⟩
/-- sum, max, min of a list or tuple of ints -/
abbrev rSumA (K : PySem.W.Frag) : List V → Hp → VK → Prop := fun vs H Q => ∃ (a : Addr) (ns : List Int), vs = [V.ref a] ∧ (SqL K H a (ns.map V.int) ∨ SqT K H a (ns.map V.int)) ∧ Q (.int ns.sum) H
abbrev rMaxA (K : PySem.W.Frag) : List V → Hp → VK → Prop := fun vs H Q => ∃ (a : Addr) (ns : List Int), vs = [V.ref a] ∧ (SqL K H a (ns.map V.int) ∨ SqT K H a (ns.map V.int)) ∧ 0 < ns.length ∧ ∀ m, m ∈ ns → (∀ y, y ∈ ns → y ≤ m) → Q (.int m) H
abbrev rMinA (K : PySem.W.Frag) : List V → Hp → VK → Prop := fun vs H Q => ∃ (a : Addr) (ns : List Int), vs = [V.ref a] ∧ (SqL K H a (ns.map V.int) ∨ SqT K H a (ns.map V.int)) ∧ 0 < ns.length ∧ ∀ m, m ∈ ns → (∀ y, y ∈ ns → m ≤ y) → Q (.int m) H
section
variable {prog : Program} {w : World} {A : Around} {E : Value → Shared → Prop} {s : Shared} {l : Addr} {its : List Value} {ns : List Int} {Q : Value → Shared → Prop}
theorem old_keptT {h' : Heap} (hk : ∀ b o, b ∉ [s.heap.objs.size] → (s.heap.push { cls := .type "tuple_iterator", data := .fields #[.ref l, .int 0 0] }).get? b = some o → h'.get? b = some o) :
    ∀ b o, s.heap.get? b = some o → h'.get? b = some o := fun b o e => by
  refine hk b o (fun hm => ?_) (Heap.get?_push_of_some _ e)
  rcases List.mem_cons.mp hm with e1 | hm
  · exact absurd (e1 ▸ Heap.lt_size e) (Nat.lt_irrefl _)
  · cases hm
theorem iter_tupleI {xs : Array Value} (hl : s.heap.IsTuple l xs)
    (h : ∀ s₂ : Shared, s₂ = { s with heap := s.heap.push { cls := .type "tuple_iterator", data := .fields #[.ref l, .int 0 0] } } →
      (s₂.heap.IsTupleIter s.heap.objs.size l 0 ∧ s₂.heap.IsTuple l xs) → (∀ b ∈ [s.heap.objs.size, l], b < s₂.heap.objs.size) → l ≠ s.heap.objs.size → Q (.ref s.heap.objs.size) s₂) :
    wpAny (model prog w) A (pyIter (.ref l)) Q E s := by
  have hlt : l < s.heap.objs.size := by obtain ⟨_, e, _⟩ := hl; exact Heap.lt_size e
  refine wpAny_pyIter_tuple hl (h _ rfl ⟨⟨_, Heap.get?_push_size _ rfl, rfl, rfl⟩, ?_⟩ (fun b hb => ?_) (Nat.ne_of_lt hlt))
  · obtain ⟨o, e, c⟩ := hl
    exact ⟨o, Heap.get?_push_of_some _ e, c⟩
  · show b < (s.heap.push _).objs.size
    rw [Heap.size_push]
    rcases List.mem_cons.mp hb with rfl | hb
    · exact Nat.lt_succ_self _
    · rcases List.mem_cons.mp hb with rfl | hb
      · exact Nat.lt_succ_of_lt hlt
      · cases hb
theorem sum_rawT (hh : A.handled = none) (hl : s.heap.IsTuple l its.toArray) (hi : IntsAre its ns)
    (h : ∀ h' tk t', (∀ b o, s.heap.get? b = some o → h'.get? b = some o) → Q (.int ns.sum t') { s with heap := h', toks := tk }) : wpAny (model prog w) A (call (.builtin "sum") [.ref l]) Q E s := by
  obtain ⟨xs, e⟩ := hi.allInts.items
  have hn : numsOf (intItems xs).toList = ns := by rw [← e]; exact hi.numsOf
  rw [nums_intItems] at hn
  rw [e] at hl
  refine call_sum_walkG (iter_tupleI hl fun s₂ e2 st hfp hlI => ?_)
  subst e2
  refine ⟨_, _, _, _, _, _, numAt xs, rfl, Walks.tuple (A := A.in1) hh _ l hlI (intItems xs), st, hfp, (fun _ _ => intItems_at), fun h' tk t' hk => ?_⟩
  have := h h' tk t' (old_keptT hk)
  rw [preSum_eq, List.take_of_length_le (by simp [intItems]), hn]
  exact this
theorem max_rawT (hh : A.handled = none) (hl : s.heap.IsTuple l its.toArray) (hi : IntsAre its ns) (hne : 0 < ns.length)
    (h : ∀ h' tk M t', (∀ b o, s.heap.get? b = some o → h'.get? b = some o) → M ∈ ns → (∀ a, a ∈ ns → a ≤ M) → Q (.int M t') { s with heap := h', toks := tk }) : wpAny (model prog w) A (call (.builtin "max") [.ref l]) Q E s := by
  obtain ⟨xs, e⟩ := hi.allInts.items
  have hn : numsOf (intItems xs).toList = ns := by rw [← e]; exact hi.numsOf
  rw [nums_intItems] at hn
  subst hn
  rw [e] at hl
  have hsz : 0 < xs.size := by simpa using hne
  refine call_max_walk (iter_tupleI hl fun s₂ e2 st hfp hlI => ?_)
  subst e2
  refine ⟨_, _, _, _, _, _, _, rfl, Walks.tuple (A := A.in1) hh _ l hlI (intItems xs), st, hfp, by simpa [intItems] using hsz, CmpOf.ints_gt (numAt xs) (fun _ _ => intItems_at), fun v h' tk hP hk => ?_⟩
  have hP' : (intItems xs)[argBest (fun i j => decide (numAt xs i > numAt xs j)) (xs.size - 1)]? = some v := by simpa [intItems] using hP
  obtain ⟨t, rfl⟩ := intItems_at hP'
  obtain ⟨h1, h2⟩ := argBest_gt (numAt xs) (xs.size - 1)
  refine h h' tk _ t (old_keptT hk) ?_ fun a ha => ?_
  · rw [numAt_eq]; exact PySem.getD_mem (by rw [List.length_map, Array.length_toList]; omega)
  · obtain ⟨j, hj, rfl⟩ := mem_getD ha
    rw [List.length_map, Array.length_toList] at hj
    rw [← numAt_eq]; exact h2 j (by omega)
theorem min_rawT (hh : A.handled = none) (hl : s.heap.IsTuple l its.toArray) (hi : IntsAre its ns) (hne : 0 < ns.length)
    (h : ∀ h' tk M t', (∀ b o, s.heap.get? b = some o → h'.get? b = some o) → M ∈ ns → (∀ a, a ∈ ns → M ≤ a) → Q (.int M t') { s with heap := h', toks := tk }) : wpAny (model prog w) A (call (.builtin "min") [.ref l]) Q E s := by
  obtain ⟨xs, e⟩ := hi.allInts.items
  have hn : numsOf (intItems xs).toList = ns := by rw [← e]; exact hi.numsOf
  rw [nums_intItems] at hn
  subst hn
  rw [e] at hl
  have hsz : 0 < xs.size := by simpa using hne
  refine call_min_walk (iter_tupleI hl fun s₂ e2 st hfp hlI => ?_)
  subst e2
  refine ⟨_, _, _, _, _, _, _, rfl, Walks.tuple (A := A.in1) hh _ l hlI (intItems xs), st, hfp, by simpa [intItems] using hsz, CmpOf.ints_lt (numAt xs) (fun _ _ => intItems_at), fun v h' tk hP hk => ?_⟩
  have hP' : (intItems xs)[argBest (fun i j => decide (numAt xs i < numAt xs j)) (xs.size - 1)]? = some v := by simpa [intItems] using hP
  obtain ⟨t, rfl⟩ := intItems_at hP'
  obtain ⟨h1, h2⟩ := argBest_lt (numAt xs) (xs.size - 1)
  refine h h' tk _ t (old_keptT hk) ?_ fun a ha => ?_
  · rw [numAt_eq]; exact PySem.getD_mem (by rw [List.length_map, Array.length_toList]; omega)
  · obtain ⟨j, hj, rfl⟩ := mem_getD ha
    rw [List.length_map, Array.length_toList] at hj
    rw [← numAt_eq]; exact h2 j (by omega)
end
variable {X : Cx}
theorem cr_sumA (hc : X.calm = true) : CallR X (.builtin "sum") (rSumA X.K) := by
  intro pins s σ H vs us Q I r h
  obtain ⟨a, ns, rfl, hs | hs, q⟩ := h
  · exact cr_sum hc pins s σ H _ us Q I r ⟨a, ns, rfl, hs, q⟩
  · obtain ⟨its, rv, hl, _⟩ := I.tuple hs
    rw [Vals.ref1 r]
    exact sum_rawT (I.ok.hd hc) (show s.heap.IsTuple a its.toArray from hl) rv.ints fun h' tk t' hk => ⟨.int _, H, I.kept hk, ⟨_, rfl⟩, q⟩
theorem cr_maxA (hc : X.calm = true) : CallR X (.builtin "max") (rMaxA X.K) := by
  intro pins s σ H vs us Q I r h
  obtain ⟨a, ns, rfl, hs | hs, hne, q⟩ := h
  · exact cr_max hc pins s σ H _ us Q I r ⟨a, ns, rfl, hs, hne, q⟩
  · obtain ⟨its, rv, hl, _⟩ := I.tuple hs
    rw [Vals.ref1 r]
    exact max_rawT (I.ok.hd hc) (show s.heap.IsTuple a its.toArray from hl) rv.ints hne fun h' tk m t' hk h1 h2 => ⟨.int _, H, I.kept hk, ⟨_, rfl⟩, q m h1 h2⟩
theorem cr_minA (hc : X.calm = true) : CallR X (.builtin "min") (rMinA X.K) := by
  intro pins s σ H vs us Q I r h
  obtain ⟨a, ns, rfl, hs | hs, hne, q⟩ := h
  · exact cr_min hc pins s σ H _ us Q I r ⟨a, ns, rfl, hs, hne, q⟩
  · obtain ⟨its, rv, hl, _⟩ := I.tuple hs
    rw [Vals.ref1 r]
    exact min_rawT (I.ok.hd hc) (show s.heap.IsTuple a its.toArray from hl) rv.ints hne fun h' tk m t' hk h1 h2 => ⟨.int _, H, I.kept hk, ⟨_, rfl⟩, q m h1 h2⟩
def aSum : List D → Option D
  | [d] => (intsD d).map fun ns => .int ns.sum
  | _ => none
theorem sum_pure : PureA K (rSumA K) aSum := by
  intro q F H ω xs a d Q hs ho hx e k
  match a, hx, e with
  | [x], hx, e =>
    simp only [aSum, Option.map_eq_some_iff] at e
    obtain ⟨ns, e1, rfl⟩ := e
    obtain ⟨v, rfl, hv⟩ := hx.one
    obtain ⟨p, rfl, h⟩ := hv.ints hs e1
    exact ⟨p, ns, rfl, h, k F H _ (.mk0 hs ho) (.int _)⟩
def maxL : List Int → Option Int
  | [] => none
  | n :: r => some (r.foldl max n)
def minL : List Int → Option Int
  | [] => none
  | n :: r => some (r.foldl min n)
theorem foldl_max_mem : ∀ (r : List Int) (n : Int), r.foldl max n ∈ n :: r ∧ ∀ y ∈ n :: r, y ≤ r.foldl max n := by
  intro r
  induction r with
  | nil => intro n; simp
  | cons m r ih =>
    intro n
    obtain ⟨h1, h2⟩ := ih (max n m)
    rw [List.foldl_cons]
    refine ⟨?_, fun y hy => ?_⟩
    · rcases List.mem_cons.mp h1 with h | h
      · rw [h]
        rcases Int.le_total n m with z | z
        · rw [Int.max_eq_right z]; simp
        · rw [Int.max_eq_left z]; simp
      · simp [h]
    · have h3 := h2 (max n m) (by simp)
      rcases List.mem_cons.mp hy with rfl | hy
      · exact Int.le_trans (Int.le_max_left ..) h3
      · rcases List.mem_cons.mp hy with rfl | hy
        · exact Int.le_trans (Int.le_max_right ..) h3
        · exact h2 y (by simp [hy])
theorem foldl_min_mem : ∀ (r : List Int) (n : Int), r.foldl min n ∈ n :: r ∧ ∀ y ∈ n :: r, r.foldl min n ≤ y := by
  intro r
  induction r with
  | nil => intro n; simp
  | cons m r ih =>
    intro n
    obtain ⟨h1, h2⟩ := ih (min n m)
    rw [List.foldl_cons]
    refine ⟨?_, fun y hy => ?_⟩
    · rcases List.mem_cons.mp h1 with h | h
      · rw [h]
        rcases Int.le_total n m with z | z
        · rw [Int.min_eq_left z]; simp
        · rw [Int.min_eq_right z]; simp
      · simp [h]
    · have h3 := h2 (min n m) (by simp)
      rcases List.mem_cons.mp hy with rfl | hy
      · exact Int.le_trans h3 (Int.min_le_left ..)
      · rcases List.mem_cons.mp hy with rfl | hy
        · exact Int.le_trans h3 (Int.min_le_right ..)
        · exact h2 y (by simp [hy])
theorem maxL_uniq {ns : List Int} {m k : Int} (h : maxL ns = some k) (h1 : m ∈ ns) (h2 : ∀ y, y ∈ ns → y ≤ m) : m = k := by
  cases ns with
  | nil => cases h
  | cons n r =>
    cases h
    obtain ⟨a, b⟩ := foldl_max_mem r n
    exact Int.le_antisymm (b m h1) (h2 _ a)
theorem minL_uniq {ns : List Int} {m k : Int} (h : minL ns = some k) (h1 : m ∈ ns) (h2 : ∀ y, y ∈ ns → m ≤ y) : m = k := by
  cases ns with
  | nil => cases h
  | cons n r =>
    cases h
    obtain ⟨a, b⟩ := foldl_min_mem r n
    exact Int.le_antisymm (h2 _ a) (b m h1)
/-- max, min: of two ints, or of a list or tuple of ints -/
def aMax : List D → Option D
  | [d] => (intsD d).bind fun ns => (maxL ns).map .int
  | [.int i, .int j] => some (.int (if j > i then j else i))
  | _ => none
def aMin : List D → Option D
  | [d] => (intsD d).bind fun ns => (minL ns).map .int
  | [.int i, .int j] => some (.int (if j < i then j else i))
  | _ => none
abbrev rMax2 (K : PySem.W.Frag) : List V → Hp → VK → Prop := fun xs H Q => rMaxA K xs H Q ∨ ∃ i j, xs = [.int i, .int j] ∧ Q (.int (if j > i then j else i)) H
abbrev rMin2 (K : PySem.W.Frag) : List V → Hp → VK → Prop := fun xs H Q => rMinA K xs H Q ∨ ∃ i j, xs = [.int i, .int j] ∧ Q (.int (if j < i then j else i)) H
theorem cr_max2 (hc : X.calm = true) : CallR X (.builtin "max") (rMax2 X.K) := (cr_maxA hc).or (call_max2 hc)
theorem cr_min2 (hc : X.calm = true) : CallR X (.builtin "min") (rMin2 X.K) := (cr_minA hc).or (call_min2 hc)
theorem max_pure : PureA K (rMax2 K) aMax := by
  intro q F H ω xs a d Q hs ho hx e k
  unfold aMax at e
  split at e
  · rw [Option.bind_eq_some_iff] at e
    obtain ⟨ns, e1, e⟩ := e
    rw [Option.map_eq_some_iff] at e
    obtain ⟨m, e2, rfl⟩ := e
    obtain ⟨v, rfl, hv⟩ := hx.one
    obtain ⟨p, rfl, h⟩ := hv.ints hs e1
    refine .inl ⟨p, ns, rfl, h, ?_, fun m' h1 h2 => ?_⟩
    · cases ns with
      | nil => cases e2
      | cons n r => simp
    · rw [maxL_uniq e2 h1 h2]
      exact k F H _ (.mk0 hs ho) (.int _)
  · cases e
    obtain ⟨v, w, rfl, h1, h2⟩ := hx.two
    cases h1.int
    cases h2.int
    exact .inr ⟨_, _, rfl, k F H _ (.mk0 hs ho) (.int _)⟩
  · cases e
theorem min_pure : PureA K (rMin2 K) aMin := by
  intro q F H ω xs a d Q hs ho hx e k
  unfold aMin at e
  split at e
  · rw [Option.bind_eq_some_iff] at e
    obtain ⟨ns, e1, e⟩ := e
    rw [Option.map_eq_some_iff] at e
    obtain ⟨m, e2, rfl⟩ := e
    obtain ⟨v, rfl, hv⟩ := hx.one
    obtain ⟨p, rfl, h⟩ := hv.ints hs e1
    refine .inl ⟨p, ns, rfl, h, ?_, fun m' h1 h2 => ?_⟩
    · cases ns with
      | nil => cases e2
      | cons n r => simp
    · rw [minL_uniq e2 h1 h2]
      exact k F H _ (.mk0 hs ho) (.int _)
  · cases e
    obtain ⟨v, w, rfl, h1, h2⟩ := hx.two
    cases h1.int
    cases h2.int
    exact .inr ⟨_, _, rfl, k F H _ (.mk0 hs ho) (.int _)⟩
  · cases e
def aAbs : List D → Option D
  | [.int i] => some (.int (if i < 0 then -i else i))
  | _ => none
abbrev rAbs : List V → Hp → VK → Prop := fun xs H Q => ∃ i, xs = [.int i] ∧ Q (.int (if i < 0 then -i else i)) H
theorem abs_pure : PureA K rAbs aAbs := by
  intro q F H ω xs a d Q hs ho hx e k
  unfold aAbs at e
  split at e
  · cases e
    obtain ⟨v, rfl, h1⟩ := hx.one
    cases h1.int
    exact ⟨_, rfl, k F H _ (.mk0 hs ho) (.int _)⟩
  · cases e
def aInt : List D → Option D
  | [.int i] => some (.int i)
  | [.bl b] => some (.int (if b then 1 else 0))
  | _ => none
abbrev rInt : List V → Hp → VK → Prop := fun xs H Q => (∃ i, xs = [.int i] ∧ Q (.int i) H) ∨ ∃ k, xs = [.bl k] ∧ Q (.int (if k then 1 else 0)) H
theorem int_pure : PureA K rInt aInt := by
  intro q F H ω xs a d Q hs ho hx e k
  unfold aInt at e
  split at e
  · cases e
    obtain ⟨v, rfl, h1⟩ := hx.one
    cases h1.int
    exact .inl ⟨_, rfl, k F H _ (.mk0 hs ho) (.int _)⟩
  · cases e
    obtain ⟨v, rfl, h1⟩ := hx.one
    cases h1.bl
    exact .inr ⟨_, rfl, k F H _ (.mk0 hs ho) (.int _)⟩
  · cases e
/-- all, any of a list of bools -/
def aAll : List D → Option D
  | [.lst ds] => (bolsOf ds).map fun bs => .bl (bs.all id)
  | _ => none
def aAny : List D → Option D
  | [.lst ds] => (bolsOf ds).map fun bs => .bl (bs.any id)
  | _ => none
theorem all_pure : PureA K (rAll K) aAll := by
  intro q F H ω xs a d Q hs ho hx e k
  unfold aAll at e
  split at e
  · rw [Option.map_eq_some_iff] at e
    obtain ⟨bs, e1, rfl⟩ := e
    cases bolsOf_eq e1
    obtain ⟨v, rfl, h1⟩ := hx.one
    obtain ⟨p, vs, rfl, h2, r⟩ := h1.lst hs
    cases r.bols
    exact ⟨p, bs, rfl, .inl (.inl h2), k F H _ (.mk0 hs ho) (.bl _)⟩
  · cases e
theorem any_pure : PureA K (rAny K) aAny := by
  intro q F H ω xs a d Q hs ho hx e k
  unfold aAny at e
  split at e
  · rw [Option.map_eq_some_iff] at e
    obtain ⟨bs, e1, rfl⟩ := e
    cases bolsOf_eq e1
    obtain ⟨v, rfl, h1⟩ := hx.one
    obtain ⟨p, vs, rfl, h2, r⟩ := h1.lst hs
    cases r.bols
    exact ⟨p, bs, rfl, .inl (.inl h2), k F H _ (.mk0 hs ho) (.bl _)⟩
  · cases e
end
end FL
end
section
/-! FL: statements, loops, comprehensions, calls. -/
namespace FL
open PySem PySem.Spec PyProof.Rows L2

inductive Out where
  | nx (ρ : Env) | rt (own : Bool) (d : D) | bk (ρ : Env) | ct (ρ : Env)
abbrev SF := Env → M Out
def Kont (K : PySem.W.Frag) (c : Ctx) (D : Ends) (ω : Ora) : Out → Prop
  | .nx ρ => ∀ F H σ, W K c F H σ ρ ω → D.nx σ H
  | .bk ρ => ∀ F H σ, W K c F H σ ρ ω → D.bk σ H
  | .ct ρ => ∀ F H σ, W K c F H σ ρ ω → D.ct σ H
  | .rt false d => ∀ F H v, Post c.q c.F0 c.H0 F H ω → Rep K c.q F v d → D.rt v H
  | .rt true d => ∀ F H p, Post c.q c.F0 c.H0 F H ω → Own K c F H p d → D.rt (.ref p) H
def tS (K : PySem.W.Frag) (s : SF) : TS := fun D σ H => ∃ c F ρ ω o ω', W K c F H σ ρ ω ∧ s ρ ω = some (o, ω') ∧ Kont K c D ω' o

/-! ### blocks -/
def fgt : List Nat → Env → Env
  | [], ρ => ρ
  | i :: is, ρ => sset (fgt is ρ) i .un
theorem W.fgt {K : PySem.W.Frag} {c : Ctx} {F H : Hp} {σ : L2.St} {ρ : Env} {ω : Ora} (w : W K c F H σ ρ ω) : ∀ is : List Nat, W K c F H σ (fgt is ρ) ω
  | [] => w
  | i :: is => (w.fgt is).drop i
def nilS (is : List Nat) : SF := fun ρ => ret (.nx (fgt is ρ))
def seqS (a b : SF) : SF := fun ρ => bnd (a ρ) fun o => match o with
  | .nx ρ' => b ρ'
  | o => ret o
def frzE (i : Nat) (ρ : Env) : Env := match nth ρ i with
  | .o x => sset ρ i (.d x)
  | _ => ρ
def frzS (i : Nat) (s : SF) : SF := fun ρ => s (frzE i ρ)
section
variable {X : Cx} {st : Stmt} {rest : List Stmt} {a b : SF} {e : Expr} {f : EF} {pos : Pos}
theorem s_nil (is : List Nat) : PSs X [] (tS X.K (nilS is)) := pss_weak pss_nil fun D σ H ⟨c, F, ρ, ω, o, ω', w, e, k⟩ => by
  obtain ⟨rfl, rfl⟩ := ret_some e
  exact k F H σ (w.fgt is)
theorem s_cons (h1 : PS X st (tS X.K a)) (h2 : PSs X rest (tS X.K b)) : PSs X (st :: rest) (tS X.K (seqS a b)) := pss_weak (pss_cons h1 h2) fun D σ H ⟨c, F, ρ, ω, o, ω', w, e, k⟩ => by
  obtain ⟨o1, ω1, e1, e⟩ := bnd_some e
  refine ⟨c, F, ρ, ω, o1, ω1, w, e1, ?_⟩
  cases o1 with
  | nx ρ' => exact fun F' H' σ' w' => ⟨c, F', ρ', ω1, o, ω', w', e, k⟩
  | bk ρ' => obtain ⟨rfl, rfl⟩ := ret_some e; exact k
  | ct ρ' => obtain ⟨rfl, rfl⟩ := ret_some e; exact k
  | rt b d => obtain ⟨rfl, rfl⟩ := ret_some e; cases b <;> exact k
theorem s_frz (i : Nat) (h : PSs X rest (tS X.K a)) : PSs X rest (tS X.K (frzS i a)) := pss_weak h fun D σ H ⟨c, F, ρ, ω, o, ω', w, e, k⟩ => by
  unfold frzS frzE at e
  cases hn : nth ρ i with
  | o x =>
    rw [hn] at e
    obtain ⟨F', w'⟩ := w.freeze hn
    exact ⟨c, F', _, ω, o, ω', w', e, k⟩
  | d x => rw [hn] at e; exact ⟨c, F, ρ, ω, o, ω', w, e, k⟩
  | un => rw [hn] at e; exact ⟨c, F, ρ, ω, o, ω', w, e, k⟩

/-! ### assignments -/
def setD (i : Nat) (f : EF) : SF := fun ρ => bnd (f ρ) fun d => ret (.nx (sset ρ i (.d d)))
def setO (i : Nat) (f : EF) : SF := fun ρ => bnd (f ρ) fun d => ret (.nx (sset ρ i (.o d)))
theorem s_setDA {te : TE} (i : Nat) (h : PS X st (tAsg te (gName i))) (j : ∀ σ H Q, tE X.K f σ H Q → te σ H Q) : PS X st (tS X.K (setD i f)) := ps_weak h fun D σ H ⟨c, F, ρ, ω, o, ω', w, e, k⟩ => by
  obtain ⟨d, ω1, e1, e⟩ := bnd_some e
  obtain ⟨rfl, rfl⟩ := ret_some e
  exact j σ H _ ⟨c, F, ρ, ω, d, _, w, e1, fun F' H' v p r => k F' H' _ ((w.ext p).set_d r i)⟩
theorem s_setOA {te : TE} (i : Nat) (h : PS X st (tAsg te (gName i))) (j : ∀ σ H Q, tF X.K f σ H Q → te σ H Q) : PS X st (tS X.K (setO i f)) := ps_weak h fun D σ H ⟨c, F, ρ, ω, o, ω', w, e, k⟩ => by
  obtain ⟨d, ω1, e1, e⟩ := bnd_some e
  obtain ⟨rfl, rfl⟩ := ret_some e
  refine j σ H _ ⟨c, F, ρ, ω, d, _, w, e1, fun F' H' v p hv hf r => k F' H' _ ((w.ext p).set_o ⟨hf, w.h0_none hv, qfree_none w.post.ora hv, r⟩ i fun j' y _ hy => ?_)⟩
  exact w.fresh_ne hv j' y hy
variable {x : Str} {pos' : Pos}
theorem s_set (i : Nat) (hN : X.N.Nodup) (he : PE X e (tE X.K f)) (hi : X.N[i]? = some x := by rfl) (hx : Loc X.env.scope x := by first | exact .inl rfl | exact .inr rfl) (hs : swapsWith e (some (.Name x pos')) pos.line X.env = pure false := by rfl) (hf : X.fn x = true ∨ X.env.scope.names.lookup x = some .local := by first | exact .inl rfl | exact .inr rfl | assumption) :
    PS X (.Assign [.Name x pos'] e pos) (tS X.K (setD i f)) := s_setDA i (ps_set hN hi hx he hs hf) fun _ _ _ h => h
theorem s_setO (i : Nat) (hN : X.N.Nodup) (he : PE X e (tF X.K f)) (hi : X.N[i]? = some x := by rfl) (hx : Loc X.env.scope x := by first | exact .inl rfl | exact .inr rfl) (hs : swapsWith e (some (.Name x pos')) pos.line X.env = pure false := by rfl) (hf : X.fn x = true ∨ X.env.scope.names.lookup x = some .local := by first | exact .inl rfl | exact .inr rfl | assumption) :
    PS X (.Assign [.Name x pos'] e pos) (tS X.K (setO i f)) := s_setOA i (ps_set hN hi hx he hs hf) fun _ _ _ h => h
/-- y = x, x an own object: it moves -/
def movS (i j : Nat) : SF := fun ρ => match nth ρ j with
  | .o x => ret (.nx (sset (sset ρ j .un) i (.o x)))
  | .d x => ret (.nx (sset ρ i (.d x)))
  | _ => opt none
theorem s_mov (i j : Nat) {y : Str} {py : Pos} (hN : X.N.Nodup) (hi : X.N[i]? = some x := by rfl) (hj : X.N[j]? = some y := by rfl) (hv : Vis X.env.scope y := by first | exact Or.inl rfl | exact Or.inr (Or.inl rfl) | exact Or.inr (Or.inr rfl)) (hx : Loc X.env.scope x := by first | exact .inl rfl | exact .inr rfl) (hs : swapsWith (.Name y py) (some (.Name x pos')) pos.line X.env = pure false := by rfl) (hf : X.fn x = true ∨ X.env.scope.names.lookup x = some .local := by first | exact .inl rfl | exact .inr rfl | assumption)
    (hd : (y == ("__debug__" : Str)) = false := by decide) (hcd : (y == ("__classdict__" : Str)) = false := by decide) :
    PS X (.Assign [.Name x pos'] (.Name y py) pos) (tS X.K (movS i j)) := ps_weak (ps_set hN hi hx (pe_var hj hv hd hcd) hs hf) fun D σ H ⟨c, F, ρ, ω, o, ω', w, e, k⟩ => by
  unfold movS at e
  cases hn : nth ρ j with
  | o z =>
    rw [hn] at e
    obtain ⟨rfl, rfl⟩ := ret_some e
    obtain ⟨p, h1, h2⟩ := w.ow j z hn
    refine ⟨_, h1, k F H _ ((w.drop j).set_o h2 i fun j' y' hne hy => ?_)⟩
    rw [nth_sset] at hy
    by_cases hj' : j' = j
    · rw [if_pos hj'] at hy; split at hy <;> cases hy
    · rw [if_neg hj'] at hy
      rw [← h1]
      exact w.dj j' j y' z hj' hy hn
  | d z =>
    rw [hn] at e
    obtain ⟨rfl, rfl⟩ := ret_some e
    obtain ⟨v, h1, h2⟩ := w.fz j z hn
    exact ⟨_, h1, k F H _ (w.set_d h2 i)⟩
  | un => rw [hn] at e; cases e
/-- x op= e -/
def augS (i : Nat) (o : D → D → Option D) (f : EF) : SF := fun ρ => bnd (vr i ρ) fun x => bnd (f ρ) fun y => bnd (opt (o x y)) fun z => ret (.nx (sset ρ i (.d z)))
theorem s_aug (i : Nat) {op : Operator} {r : R2} {o : D → D → Option D} (ho : OpR X (inplaceOp op) r) (hr : Pure2 X.K r o) (hN : X.N.Nodup) (he : PE X e (tB X.K f)) (hi : X.N[i]? = some x := by rfl) (hx : Loc X.env.scope x := by first | exact .inl rfl | exact .inr rfl) (hf : X.fn x = true ∨ X.env.scope.names.lookup x = some .local := by first | exact .inl rfl | exact .inr rfl | assumption) :
    PS X (.AugAssign (.Name x pos') op e pos) (tS X.K (augS i o f)) := ps_weak (ps_aug (ti := r) hN hi hx he (fun pins s σ H x y v u Q I r1 r2 h => ho pins s σ H x y v u Q I r1 r2 h) hf) fun D σ H ⟨c, F, ρ, ω, o, ω', w, e, k⟩ => by
  obtain ⟨x1, ω1, e1, e⟩ := bnd_some e
  obtain ⟨y1, ω2, e2, e⟩ := bnd_some e
  obtain ⟨z1, ω3, e3, e⟩ := bnd_some e
  obtain ⟨rfl, rfl⟩ := ret_some e
  obtain ⟨e4, rfl⟩ := opt_some e3
  unfold vr at e1
  cases hn : nth ρ i with
  | d z =>
    rw [hn] at e1
    obtain ⟨rfl, rfl⟩ := ret_some e1
    obtain ⟨v, h1, h2⟩ := w.fz i _ hn
    refine ⟨v, h1, c, F, ρ, _, y1, _, w, e2, fun F1 H1 u p1 r1 => ?_⟩
    exact hr c.q F1 H1 _ v u _ y1 z1 _ p1.le p1.ora (.inl (h2.mono p1.le0)) r1 e4 fun F2 H2 t p2 r2 => k F2 H2 _ (((w.ext p1).ext p2).set_d r2 i)
  | o z => rw [hn] at e1; cases e1
  | un => rw [hn] at e1; cases e1

/-! ### return, if, expression -/
def retS (f : EF) : SF := fun ρ => bnd (f ρ) fun d => ret (.rt false d)
def retO (f : EF) : SF := fun ρ => bnd (f ρ) fun d => ret (.rt true d)
def retV (i : Nat) : SF := fun ρ => match nth ρ i with
  | .o x => ret (.rt true x)
  | .d x => ret (.rt false x)
  | _ => opt none
theorem s_ret (he : PE X e (tE X.K f)) : PS X (.Return (some e) pos) (tS X.K (retS f)) := ps_weak (ps_ret he) fun D σ H ⟨c, F, ρ, ω, o, ω', w, e, k⟩ => by
  obtain ⟨d, ω1, e1, e⟩ := bnd_some e
  obtain ⟨rfl, rfl⟩ := ret_some e
  exact ⟨c, F, ρ, ω, d, _, w, e1, fun F' H' v p r => k F' H' v (w.post.trans p) r⟩
theorem s_retO (he : PE X e (tF X.K f)) : PS X (.Return (some e) pos) (tS X.K (retO f)) := ps_weak (ps_ret he) fun D σ H ⟨c, F, ρ, ω, o, ω', w, e, k⟩ => by
  obtain ⟨d, ω1, e1, e⟩ := bnd_some e
  obtain ⟨rfl, rfl⟩ := ret_some e
  exact ⟨c, F, ρ, ω, d, _, w, e1, fun F' H' v p hv hf r => k F' H' v (w.post.trans p) ⟨hf, w.h0_none hv, qfree_none w.post.ora hv, r⟩⟩
theorem s_retV (i : Nat) {px : Pos} (hN : X.N[i]? = some x := by rfl) (hv : Vis X.env.scope x := by first | exact Or.inl rfl | exact Or.inr (Or.inl rfl) | exact Or.inr (Or.inr rfl)) (hd : (x == ("__debug__" : Str)) = false := by decide)
    (hcd : (x == ("__classdict__" : Str)) = false := by decide) : PS X (.Return (some (.Name x px)) pos) (tS X.K (retV i)) := ps_weak (ps_ret (pe_var hN hv hd hcd)) fun D σ H ⟨c, F, ρ, ω, o, ω', w, e, k⟩ => by
  unfold retV at e
  cases hn : nth ρ i with
  | o z =>
    rw [hn] at e
    obtain ⟨rfl, rfl⟩ := ret_some e
    obtain ⟨p, h1, h2⟩ := w.ow i z hn
    exact ⟨_, h1, k F H p w.post h2⟩
  | d z =>
    rw [hn] at e
    obtain ⟨rfl, rfl⟩ := ret_some e
    obtain ⟨v, h1, h2⟩ := w.fz i z hn
    exact ⟨_, h1, k F H v w.post h2⟩
  | un => rw [hn] at e; cases e
def retN : SF := fun _ => ret (.rt false .non)
theorem s_retN : PS X (.Return none pos) (tS X.K retN) := ps_weak ps_retN fun D σ H ⟨c, F, ρ, ω, o, ω', w, e, k⟩ => by
  obtain ⟨rfl, rfl⟩ := ret_some e
  exact k F H _ w.post .non
def ifS (t : BF) (a b : SF) : SF := fun ρ => bnd (t ρ) fun x => bif x then a ρ else b ρ
theorem s_if {c : Expr} {sa sb : List Stmt} {t : BF} (hc : PT X c (tT' X.K t)) (ha : PSs X sa (tS X.K a)) (hb : PSs X sb (tS X.K b)) : PS X (.If c sa sb pos) (tS X.K (ifS t a b)) := ps_weak (ps_if hc ha hb) fun D σ H ⟨c, F, ρ, ω, o, ω', w, e, k⟩ => by
  obtain ⟨x, ω1, e1, e⟩ := bnd_some e
  refine ⟨c, F, ρ, ω, x, ω1, w, e1, fun F1 H1 p1 => ?_⟩
  cases x with
  | true => exact iteT ⟨c, F1, ρ, ω1, o, ω', w.ext p1, e, k⟩
  | false => exact iteF ⟨c, F1, ρ, ω1, o, ω', w.ext p1, e, k⟩
def exprS (f : EF) : SF := fun ρ => bnd (f ρ) fun _ => ret (.nx ρ)
theorem s_expr (he : PE X e (tE X.K f)) (hs : swapsWith e none pos.line X.env = pure false := by rfl) : PS X (.Expr e pos) (tS X.K (exprS f)) := ps_weak (ps_expr he hs) fun D σ H ⟨c, F, ρ, ω, o, ω', w, e, k⟩ => by
  obtain ⟨d, ω1, e1, e⟩ := bnd_some e
  obtain ⟨rfl, rfl⟩ := ret_some e
  exact ⟨c, F, ρ, ω, d, _, w, e1, fun F' H' v p r => k F' H' σ (w.ext p)⟩
def brkS (is : List Nat) : SF := fun ρ => ret (.bk (fgt is ρ))
def cntS (is : List Nat) : SF := fun ρ => ret (.ct (fgt is ρ))
theorem s_brk (is : List Nat) : PS X (.Break pos) (tS X.K (brkS is)) := ps_weak ps_break fun D σ H ⟨c, F, ρ, ω, o, ω', w, e, k⟩ => by
  obtain ⟨rfl, rfl⟩ := ret_some e
  exact k F H σ (w.fgt is)
theorem s_cnt (is : List Nat) : PS X (.Continue pos) (tS X.K (cntS is)) := ps_weak ps_continue fun D σ H ⟨c, F, ρ, ω, o, ω', w, e, k⟩ => by
  obtain ⟨rfl, rfl⟩ := ret_some e
  exact k F H σ (w.fgt is)
theorem s_pass : PS X (.Pass pos) (tS X.K (nilS [])) := ps_weak ps_pass fun D σ H ⟨c, F, ρ, ω, o, ω', w, e, k⟩ => by
  obtain ⟨rfl, rfl⟩ := ret_some e
  exact k F H σ w
theorem s_doc {y : Str} {j : Nat} {p2 : Pos} : PS X (.Expr (.Constant (.str y) j p2) pos) (tS X.K (nilS [])) := ps_weak ps_doc fun D σ H ⟨c, F, ρ, ω, o, ω', w, e, k⟩ => by
  obtain ⟨rfl, rfl⟩ := ret_some e
  exact k F H σ w

/-! ### x.append(e), x[i] = e, x.pop() -/
def appO : SV → D → Option D
  | .o (.lst ds), d => if ds.length < sizeLine then some (.lst (ds ++ [d])) else none
  | _, _ => none
theorem appO_some {v : SV} {d l : D} (h : appO v d = some l) : ∃ ds, v = .o (.lst ds) ∧ ds.length < sizeLine ∧ l = .lst (ds ++ [d]) := by
  unfold appO at h
  split at h
  · split at h
    · cases h; exact ⟨_, rfl, by assumption, rfl⟩
    · cases h
  · cases h
def appS (i : Nat) (f : EF) : SF := fun ρ => bnd (f ρ) fun d => bnd (opt (appO (nth ρ i) d)) fun l => ret (.nx (sset ρ i (.o l)))
theorem s_app (i : Nat) {o : Expr} {apos cpos : Pos} (ho : PE X o (tVar i)) (he : PE X e (tE X.K f)) (hs : starEach [e] X.env = (false, eval e X.env) :: starEach [] X.env := by rfl)
    (hbase : attributeBase o "append" X.env (eval o X.env) = eval o X.env := by rfl)
    (hfew : ((backTo cpos (starEach (e :: []) X.env)).all (fun x => !x.1) && (backToKw cpos (keywordEach [] X.env)).all (fun x => x.1.isSome)
      && decide ((e :: ([] : List Expr)).length + ([] : List Keyword).length + (if ([] : List Keyword).isEmpty then 0 else 1) < 30)) = true := by rfl)
    (hline : (apos.endLine == cpos.line) = true := by rfl) (hplain : (backTo cpos (starEach ([] : List Expr) X.env)).any (·.1) = false := by rfl)
    (hsw : swapsWith (.Call (.Attribute o "append" apos) [e] [] cpos) none pos.line X.env = pure false := by rfl) :
    PS X (.Expr (.Call (.Attribute o "append" apos) [e] [] cpos) pos) (tS X.K (appS i f)) :=
  ps_weak (ps_expr (pe_bm PySem.F.plainAttrs_list PySem.F.slot_list_append PySem.F.type_list_append mt_append ho (pa_cons he pa_nil hs) hbase hfew hline hs hplain) hsw) fun D σ H ⟨c, F, ρ, ω, o, ω', w, e, k⟩ => by
    obtain ⟨d, ω1, e1, e⟩ := bnd_some e
    obtain ⟨l, ω2, e2, e⟩ := bnd_some e
    obtain ⟨rfl, rfl⟩ := ret_some e
    obtain ⟨e3, rfl⟩ := opt_some e2
    obtain ⟨ds, hn, hz, rfl⟩ := appO_some e3
    obtain ⟨p, h1, h2⟩ := w.ow i _ hn
    obtain ⟨vs, hv, r⟩ := h2.r
    refine ⟨_, h1, .inl ⟨rfl, vs, .inl (.inl hv)⟩, c, F, ρ, ω, d, _, w, e1, fun F1 H1 v p1 r1 => ?_⟩
    have w1 := w.ext p1
    have hv1 : H1 p = some (.lst vs) := p1.kept _ _ hv h2.qf
    exact ⟨p, vs, v, rfl, rfl, hv1, by rw [r.length]; exact hz, k F1 _ σ (w1.write hn h1 ⟨_, upd_same, (r.mono p1.le0).append (.cons r1 .nil)⟩)⟩
def setIO : SV → D → D → Option D
  | .o (.lst ds), .int j, v => (ixN ds.length j).map fun n => .lst (ds.set n v)
  | _, _, _ => none
theorem setIO_some {x : SV} {k v l : D} (h : setIO x k v = some l) : ∃ ds j n, x = .o (.lst ds) ∧ k = .int j ∧ ixN ds.length j = some n ∧ l = .lst (ds.set n v) := by
  unfold setIO at h
  split at h
  · rw [Option.map_eq_some_iff] at h
    obtain ⟨n, h1, rfl⟩ := h
    exact ⟨_, _, n, rfl, rfl, h1, rfl⟩
  · cases h
def setIS (i : Nat) (f g : EF) : SF := fun ρ => bnd (g ρ) fun v => bnd (f ρ) fun k => bnd (opt (setIO (nth ρ i) k v)) fun l => ret (.nx (sset ρ i (.o l)))
theorem s_setI (i : Nat) {o ix : Expr} {g : EF} {p2 : Pos} (ho : PE X o (tVar i)) (hi : PE X ix (tB X.K f)) (he : PE X e (tE X.K g))
    (hs : swapsWithSole [.Subscript o ix p2] e pos.line X.env = pure false := by rfl) (hw : swappedStores [.Subscript o ix p2] e X.env = pure none := by rfl)
    (h1 : (assignEach [.Subscript o ix p2] X.env).map (·.2) = [assign (.Subscript o ix p2) X.env] := by rfl)
    (ha : ∀ v, assign (.Subscript o ix p2) X.env v = (do
      let ov ← holding [v] (eval o X.env)
      let iv ← holding [v, ov] (eval ix X.env)
      standAt p2
      holding [v, ov, iv] (setItem ov iv v)
      release [v, ov, iv] []) := by intro _; rfl) :
    PS X (.Assign [.Subscript o ix p2] e pos) (tS X.K (setIS i f g)) := ps_weak (ps_asg he (pg_sub ho hi set_list ha) hs hw h1) fun D σ H ⟨c, F, ρ, ω, o, ω', w, e, k⟩ => by
  obtain ⟨d, ω1, e1, e⟩ := bnd_some e
  obtain ⟨kx, ω2, e2, e⟩ := bnd_some e
  obtain ⟨l, ω3, e3, e⟩ := bnd_some e
  obtain ⟨rfl, rfl⟩ := ret_some e
  obtain ⟨e4, rfl⟩ := opt_some e3
  obtain ⟨ds, j, n, hn, rfl, hz, rfl⟩ := setIO_some e4
  obtain ⟨p, h1, h2⟩ := w.ow i _ hn
  obtain ⟨vs, hv, r⟩ := h2.r
  refine ⟨c, F, ρ, ω, d, _, w, e1, fun F1 H1 v p1 r1 => ⟨_, h1, c, F1, ρ, ω1, _, _, w.ext p1, e2, fun F2 H2 u p2 r2 => ?_⟩⟩
  cases r2.int
  have w2 := (w.ext p1).ext p2
  have hv1 : H2 p = some (.lst vs) := p2.kept _ _ (p1.kept _ _ hv h2.qf) h2.qf
  exact ⟨p, vs, _, n, rfl, rfl, hv1, by rw [r.length]; exact hz, k F2 _ σ (w2.write hn h1 ⟨_, upd_same, ((r.mono p1.le0).mono p2.le0).set n (r1.mono p2.le0)⟩)⟩
/-- x.pop() dropped, or kept in a name -/
def popO : SV → Option (D × D)
  | .o (.lst ds) => (ds[ds.length - 1]?).map fun x => (x, .lst ds.dropLast)
  | _ => none
theorem popO_some {x : SV} {r : D × D} (h : popO x = some r) : ∃ ds, x = .o (.lst ds) ∧ ds[ds.length - 1]? = some r.1 ∧ r.2 = .lst ds.dropLast := by
  unfold popO at h
  split at h
  · rw [Option.map_eq_some_iff] at h
    obtain ⟨n, h1, rfl⟩ := h
    exact ⟨_, rfl, h1, rfl⟩
  · cases h
def popS (i : Nat) : SF := fun ρ => bnd (opt (popO (nth ρ i))) fun r => ret (.nx (sset ρ i (.o r.2)))
def setPop (j i : Nat) : SF := fun ρ => bnd (opt (popO (nth ρ i))) fun r => ret (.nx (sset (sset ρ i (.o r.2)) j (.d r.1)))
theorem Reps.dropLast {K : PySem.W.Frag} {q : Qa} {F : Hp} {v : List V} {d : List D} (h : Reps K q F v d) : Reps K q F v.dropLast d.dropLast := by
  rw [List.dropLast_eq_take, List.dropLast_eq_take, h.length]
  exact h.take _
theorem s_pop (i : Nat) {o : Expr} {apos cpos : Pos} (ho : PE X o (tVar i)) (hbase : attributeBase o "pop" X.env (eval o X.env) = eval o X.env := by rfl) (hline : (apos.endLine == cpos.line) = true := by rfl)
    (hsw : swapsWith (.Call (.Attribute o "pop" apos) [] [] cpos) none pos.line X.env = pure false := by rfl) :
    PS X (.Expr (.Call (.Attribute o "pop" apos) [] [] cpos) pos) (tS X.K (popS i)) :=
  ps_weak (ps_expr (pe_bm0 PySem.F.plainAttrs_list PySem.F.slot_list_pop PySem.F.type_list_pop mt_pop ho hbase hline) hsw) fun D σ H ⟨c, F, ρ, ω, o, ω', w, e, k⟩ => by
    obtain ⟨r, ω1, e1, e⟩ := bnd_some e
    obtain ⟨rfl, rfl⟩ := ret_some e
    obtain ⟨e2, rfl⟩ := opt_some e1
    obtain ⟨ds, hn, hz, hr⟩ := popO_some e2
    obtain ⟨p, h1, h2⟩ := w.ow i _ hn
    obtain ⟨vs, hv, rr⟩ := h2.r
    obtain ⟨u, h3, h4⟩ := rr.get hz
    refine ⟨_, h1, .inl ⟨rfl, vs, .inl (.inl hv)⟩, p, vs, u, rfl, rfl, hv, by rw [rr.length]; exact h3, k F _ σ (w.write hn h1 ?_)⟩
    rw [hr]
    exact ⟨_, upd_same, rr.dropLast⟩
theorem s_setPop (j i : Nat) {o : Expr} {apos cpos : Pos} (hN : X.N.Nodup) (ho : PE X o (tVar i)) (hj : X.N[j]? = some x := by rfl) (hx : Loc X.env.scope x := by first | exact .inl rfl | exact .inr rfl) (hs : swapsWith (.Call (.Attribute o "pop" apos) [] [] cpos) (some (.Name x pos')) pos.line X.env = pure false := by rfl) (hf : X.fn x = true ∨ X.env.scope.names.lookup x = some .local := by first | exact .inl rfl | exact .inr rfl | assumption)
    (hbase : attributeBase o "pop" X.env (eval o X.env) = eval o X.env := by rfl) (hline : (apos.endLine == cpos.line) = true := by rfl) :
    PS X (.Assign [.Name x pos'] (.Call (.Attribute o "pop" apos) [] [] cpos) pos) (tS X.K (setPop j i)) :=
  ps_weak (ps_set hN hj hx (pe_bm0 PySem.F.plainAttrs_list PySem.F.slot_list_pop PySem.F.type_list_pop mt_pop ho hbase hline) hs hf) fun D σ H ⟨c, F, ρ, ω, o, ω', w, e, k⟩ => by
    obtain ⟨r, ω1, e1, e⟩ := bnd_some e
    obtain ⟨rfl, rfl⟩ := ret_some e
    obtain ⟨e2, rfl⟩ := opt_some e1
    obtain ⟨ds, hn, hz, hr⟩ := popO_some e2
    obtain ⟨p, h1, h2⟩ := w.ow i _ hn
    obtain ⟨vs, hv, rr⟩ := h2.r
    obtain ⟨u, h3, h4⟩ := rr.get hz
    refine ⟨_, h1, .inl ⟨rfl, vs, .inl (.inl hv)⟩, p, vs, u, rfl, rfl, hv, by rw [rr.length]; exact h3, k F _ _ ((w.write hn h1 ?_).set_d h4 j)⟩
    rw [hr]
    exact ⟨_, upd_same, rr.dropLast⟩
end

/-! ### what is walked -/
def ItOk (K : PySem.W.Frag) (q : Qa) (F : Hp) (J : It) (ds : List D) : Prop := ∀ (F2 H2 : Hp) (ω2 : Ora), Same F F2 → Same F2 H2 → OraR q F2 H2 ω2 → ∀ i : Nat,
  (∀ d, ds[i]? = some d → J.go i H2 ∧ ∀ x H3, J.yld i H2 x H3 → ∃ F3, Post q F2 H2 F3 H3 ω2 ∧ Rep K q F3 x d) ∧ (ds.length ≤ i → J.stop i H2)
def tI (K : PySem.W.Frag) (f : AF) : TI := fun σ H R => ∃ c F ρ ω ds ω', W K c F H σ ρ ω ∧ f ρ ω = some (ds, ω') ∧ ∀ F' H' J, Post c.q F H F' H' ω' → ItOk K c.q F' J ds → R J H'
/-- a target -/
abbrev GF := D → Env → Option Env
def tG (K : PySem.W.Frag) (vs : List Nat) (b : GF) : TG := fun v σ H Q => ∃ c F ρ ω d ρ', W K c F H σ ρ ω ∧ Rep K c.q F v d ∧ b d ρ = some ρ' ∧ ∀ σ', W K c F H σ' ρ' ω → σ'.length = σ.length → (∀ j, j ∉ vs → σ'[j]? = σ[j]?) → Q σ' H
section
variable {X : Cx} {a e : Expr} {f : EF} {pos p : Pos} {x : Str}
theorem pi_weak {tg it : Expr} {t t' : TI} (h : PI X tg it t) (i : ∀ σ H R, t' σ H R → t σ H R) : PI X tg it t' := ⟨fun pins s σ H Q I q => h.run pins s σ H Q I (i σ H Q q)⟩
theorem pg_weak {tg : Expr} {t t' : TG} (h : PG X tg t) (i : ∀ v σ H Q, t' v σ H Q → t v σ H Q) : PG X tg t' := ⟨fun pins s σ H v u Q I r q => h.run pins s σ H v u Q I r (i v σ H Q q)⟩
def gN (i : Nat) : GF := fun d ρ => some (sset ρ i (.d d))
theorem g_name (i : Nat) (hN : X.N.Nodup) (hi : X.N[i]? = some x := by rfl) (hx : Loc X.env.scope x := by first | exact .inl rfl | exact .inr rfl) (hf : X.fn x = true ∨ X.env.scope.names.lookup x = some .local := by first | exact .inl rfl | exact .inr rfl | assumption) : PG X (.Name x pos) (tG X.K [i] (gN i)) :=
  pg_weak (pg_name hN hi hx hf) fun v σ H Q ⟨c, F, ρ, ω, d, ρ', w, r, e, k⟩ => by
    cases e
    exact k _ (w.set_d r i) (List.length_set ..) fun j hj => by rw [List.getElem?_set_ne (by simpa [eq_comm] using hj)]
/-- several targets -/
abbrev GFs := List D → Env → Option Env
def tGs (K : PySem.W.Frag) (vs : List Nat) (b : GFs) : TGs := fun us σ H Q => ∃ c F ρ ω ds ρ', W K c F H σ ρ ω ∧ Reps K c.q F us ds ∧ b ds ρ = some ρ' ∧ ∀ σ', W K c F H σ' ρ' ω → σ'.length = σ.length → (∀ j, j ∉ vs → σ'[j]? = σ[j]?) → Q σ' H
theorem pgs_weak {ts : List Expr} {t t' : TGs} (h : PGs X ts t) (i : ∀ v σ H Q, t' v σ H Q → t v σ H Q) : PGs X ts t' := ⟨fun pins s σ H v u Q I r q => h.run pins s σ H v u Q I r (i v σ H Q q)⟩
def gsN : GFs := fun ds ρ => match ds with
  | [] => some ρ
  | _ => none
def gsC (b : GF) (g : GFs) : GFs := fun ds ρ => match ds with
  | d :: ds => (b d ρ).bind (g ds)
  | [] => none
theorem g_nil : PGs X [] (tGs X.K [] gsN) := pgs_weak pgs_nil fun v σ H Q ⟨c, F, ρ, ω, d, ρ', w, r, e, k⟩ => by
  cases r with
  | nil => cases e; exact ⟨rfl, k _ w rfl fun _ _ => rfl⟩
  | cons _ _ => cases e
theorem g_cons {es : List Expr} {is js : List Nat} {b : GF} {g : GFs} (h : PG X e (tG X.K is b)) (h2 : PGs X es (tGs X.K js g)) (hs : (assignEach (e :: es) X.env).map (·.2) = assign e X.env :: (assignEach es X.env).map (·.2) := by rfl) : PGs X (e :: es) (tGs X.K (is ++ js) (gsC b g)) :=
  pgs_weak (pgs_cons h h2 hs) fun v σ H Q ⟨c, F, ρ, ω, d, ρ', w, r, e, k⟩ => by
    cases r with
    | nil => cases e
    | cons r1 r2 =>
      simp only [gsC, Option.bind_eq_some_iff] at e
      obtain ⟨ρ1, e1, e2⟩ := e
      refine ⟨_, _, rfl, c, F, ρ, ω, _, ρ1, w, r1, e1, fun σ1 w1 l1 h1 => ⟨c, F, ρ1, ω, _, ρ', w1, r2, e2, fun σ2 w2 l2 h2 => k σ2 w2 (l2.trans l1) fun j hj => ?_⟩⟩
      rw [List.mem_append, not_or] at hj
      rw [h2 j hj.2, h1 j hj.1]
def gT (g : GFs) : GF := fun d ρ => match d with
  | .tup ds => g ds ρ
  | _ => none
theorem gs_length : ∀ {g : GFs} {ds : List D} {ρ ρ' : Env}, True := trivial
theorem g_tup {es : List Expr} {k n : Nat} {is : List Nat} {g : GFs} (hc : X.calm = true) (h : PGs X es (tGs X.K is g)) (hlen : ∀ ds ρ ρ', g ds ρ = some ρ' → ds.length = n) (hn : (assignEach es X.env).length = n := by rfl) (hst : (assignEach es X.env).findIdx? (·.1) = none := by rfl) :
    PG X (.Tuple es k pos) (tG X.K is (gT g)) := pg_weak (pg_tup hc h hn hst) fun v σ H Q ⟨c, F, ρ, ω, d, ρ', w, r, e, k⟩ => by
  cases r with
  | tup hs r =>
    exact ⟨_, _, rfl, same_sqt w.post.le hs, by rw [r.length]; exact hlen _ _ _ e, c, F, ρ, ω, _, ρ', w, r, e, k⟩
  | _ => cases e
/-! iterables -/
def itVO : D → Option (List D)
  | .lst ds => some ds
  | _ => none
def itV (f : EF) : AF := fun ρ => bnd (f ρ) fun d => opt (itVO d)
def itTO : D → Option (List D)
  | .tup ds => some ds
  | _ => none
def itT (f : EF) : AF := fun ρ => bnd (f ρ) fun d => opt (itTO d)
theorem post_of {q : Qa} {F2 H2 : Hp} {ω2 : Ora} (h : Same F2 H2) (o : OraR q F2 H2 ω2) : Post q F2 H2 F2 H2 ω2 := .mk0 h o
theorem sql_inj {K : PySem.W.Frag} {H : Hp} {a : Addr} {xs : List V} (h : H a = some (.lst xs)) : SqL K H a xs := .inl (.inl h)
theorem i_list {tg : Expr} (h : PE X a (tE X.K f)) : PI X tg a (tI X.K (itV f)) := pi_weak (pi_list h) fun σ H R ⟨c, F, ρ, ω, d, ω', w, e, k⟩ => by
  obtain ⟨x, ω1, e1, e⟩ := bnd_some e
  obtain ⟨e2, rfl⟩ := opt_some e
  refine ⟨c, F, ρ, ω, x, _, w, e1, fun F1 H1 v p1 r1 => ?_⟩
  cases x <;> simp only [itVO, reduceCtorEq, Option.some.injEq] at e2
  subst e2
  cases r1 with
  | lst hF r =>
    refine ⟨_, rfl, ⟨_, .inl (.inl (p1.le _ _ hF))⟩, k F1 H1 _ p1 fun F2 H2 ω2 s1 s2 o i => ⟨fun d hd => ?_, fun hi => ?_⟩⟩
    · obtain ⟨u, h1, h2⟩ := r.get hd
      have hq := sql_inj (K := X.K) (s2 _ _ (s1 _ _ hF))
      exact ⟨⟨_, u, hq, h1⟩, fun x H3 hy => ⟨F2, by rw [hy.1]; exact .mk0 s2 o, by
        have := hy.2 _ hq
        rw [h1] at this
        cases this
        exact h2.mono s1⟩⟩
    · exact ⟨_, sql_inj (s2 _ _ (s1 _ _ hF)), by rw [r.length]; exact hi⟩
theorem i_tup {tg : Expr} (h : PE X a (tE X.K f)) : PI X tg a (tI X.K (itT f)) := pi_weak (pi_tup h) fun σ H R ⟨c, F, ρ, ω, d, ω', w, e, k⟩ => by
  obtain ⟨x, ω1, e1, e⟩ := bnd_some e
  obtain ⟨e2, rfl⟩ := opt_some e
  refine ⟨c, F, ρ, ω, x, _, w, e1, fun F1 H1 v p1 r1 => ?_⟩
  cases x <;> simp only [itTO, reduceCtorEq, Option.some.injEq] at e2
  subst e2
  cases r1 with
  | tup hF r =>
    refine ⟨_, rfl, ⟨_, same_sqt p1.le hF⟩, k F1 H1 _ p1 fun F2 H2 ω2 s1 s2 o i => ⟨fun d hd => ?_, fun hi => ?_⟩⟩
    · obtain ⟨u, h1, h2⟩ := r.get hd
      have hq := same_sqt s2 (same_sqt s1 hF)
      exact ⟨⟨_, u, hq, h1⟩, fun x H3 hy => ⟨F2, by rw [hy.1]; exact .mk0 s2 o, by
        have := hy.2 _ hq
        rw [h1] at this
        cases this
        exact h2.mono s1⟩⟩
    · exact ⟨_, same_sqt s2 (same_sqt s1 hF), by rw [r.length]; exact hi⟩
/-- lo, lo + 1, .. (n of them) -/
def upI (lo : Int) : Nat → List D
  | 0 => []
  | n + 1 => .int lo :: upI (lo + 1) n
theorem upI_length : ∀ (n : Nat) (lo : Int), (upI lo n).length = n
  | 0, _ => rfl
  | n + 1, lo => congrArg (· + 1) (upI_length n (lo + 1))
theorem upI_get : ∀ (n : Nat) (lo : Int) (i : Nat) (d : D), (upI lo n)[i]? = some d → i < n ∧ d = .int (lo + i)
  | 0, _, _, _, h => by simp [upI] at h
  | n + 1, lo, 0, d, h => by simp [upI] at h; exact ⟨by omega, by rw [← h]; simp⟩
  | n + 1, lo, i + 1, d, h => by
    obtain ⟨h1, h2⟩ := upI_get n (lo + 1) i d (by simpa [upI] using h)
    refine ⟨by omega, ?_⟩
    rw [h2]
    congr 1
    omega
theorem itOk_range {K : PySem.W.Frag} {q : Qa} {F : Hp} {lo : Int} {n : Nat} : ItOk K q F (Itr lo n) (upI lo n) := fun F2 H2 ω2 s1 s2 o i => ⟨fun d hd => by
    obtain ⟨h1, rfl⟩ := upI_get n lo i d hd
    exact ⟨h1, fun x H3 hy => ⟨F2, by rw [hy.1]; exact .mk0 s2 o, by rw [hy.2]; exact .int _⟩⟩, fun hi => by
    rw [upI_length] at hi; exact hi⟩
def rgOk (i : Int) : Bool := decide (-(2 ^ 62) ≤ i) && decide (i < 2 ^ 62)
def rg1 : D → Option (List D)
  | .int j => if rgOk j = true then some (upI 0 j.toNat) else none
  | _ => none
def rg2 : D → D → Option (List D)
  | .int i, .int j => if (rgOk i && rgOk j) = true then some (upI i (j - i).toNat) else none
  | _, _ => none
def itR1 (f : EF) : AF := fun ρ => bnd (f ρ) fun d => opt (rg1 d)
def itR2 (f g : EF) : AF := fun ρ => bnd (f ρ) fun d => bnd (g ρ) fun e => opt (rg2 d e)
theorem rgOk_iff {i : Int} (h : rgOk i = true) : -(2 ^ 62) ≤ i ∧ i < 2 ^ 62 := by
  simpa [rgOk] using h
theorem i_range1 {tg : Expr} (hm : X.mg "range" = none) (h : PE X a (tB X.K f)) (hg : Gl X "range" := by rfl) (na : starEach [a] X.env = (false, eval a X.env) :: starEach [] X.env := by rfl) (hs : starEach [a] X.env = [(false, eval a X.env)] := by rfl) : PI X tg (.Call (.Name "range" p) [a] [] pos) (tI X.K (itR1 f)) :=
  pi_weak (pi_range1 hg hm (pa_cons h pa_nil na) hs) fun σ H R ⟨c, F, ρ, ω, d, ω', w, e, k⟩ => by
    obtain ⟨x, ω1, e1, e⟩ := bnd_some e
    obtain ⟨e2, rfl⟩ := opt_some e
    refine ⟨c, F, ρ, ω, x, _, w, e1, fun F1 H1 v p1 r1 => ?_⟩
    cases x <;> simp only [rg1, reduceCtorEq] at e2
    split at e2
    · rename_i hj
      cases e2
      cases r1.int
      obtain ⟨h1, h2⟩ := rgOk_iff hj
      exact ⟨_, rfl, h1, h2, k F1 H1 _ p1 itOk_range⟩
    · cases e2
theorem i_range2 {tg b : Expr} {g : EF} (hm : X.mg "range" = none) (h : PE X a (tB X.K f)) (h2 : PE X b (tB X.K g)) (hg : Gl X "range" := by rfl) (na : starEach [a, b] X.env = (false, eval a X.env) :: starEach [b] X.env := by rfl) (nb : starEach [b] X.env = (false, eval b X.env) :: starEach [] X.env := by rfl) (hs : starEach [a, b] X.env = [(false, eval a X.env), (false, eval b X.env)] := by rfl) (hs2 : starEach [b] X.env = [(false, eval b X.env)] := by rfl) : PI X tg (.Call (.Name "range" p) [a, b] [] pos) (tI X.K (itR2 f g)) :=
  pi_weak (pi_range2 hg hm (pa_cons h (pa_cons h2 pa_nil nb) na) hs hs2) fun σ H R ⟨c, F, ρ, ω, d, ω', w, e, k⟩ => by
    obtain ⟨x, ω1, e1, e⟩ := bnd_some e
    obtain ⟨y, ω2, e2, e⟩ := bnd_some e
    obtain ⟨e3, rfl⟩ := opt_some e
    refine ⟨c, F, ρ, ω, x, _, w, e1, fun F1 H1 v p1 r1 => ⟨c, F1, ρ, ω1, y, _, w.ext p1, e2, fun F2 H2 u p2 r2 => ?_⟩⟩
    unfold rg2 at e3
    split at e3
    · split at e3
      · rename_i hj
        rw [Bool.and_eq_true] at hj
        cases e3
        cases r1.int
        cases r2.int
        obtain ⟨h1, h2⟩ := rgOk_iff hj.1
        obtain ⟨h3, h4⟩ := rgOk_iff hj.2
        exact ⟨_, _, rfl, ⟨h1, h2, h3, h4⟩, k F2 H2 _ (p1.trans p2) itOk_range⟩
      · cases e3
    · cases e3
end

/-! ### for, while -/
def forL (b : GF) (body : SF) : List D → SF
  | [] => fun ρ => ret (.nx ρ)
  | d :: ds => fun ρ => bnd (opt (b d ρ)) fun ρ1 => bnd (body ρ1) fun o => match o with
    | .nx ρ' => forL b body ds ρ'
    | .ct ρ' => forL b body ds ρ'
    | .bk ρ' => ret (.nx ρ')
    | .rt o d => ret (.rt o d)
def forS (it : AF) (b : GF) (body : SF) : SF := fun ρ => bnd (it ρ) fun ds => forL b body ds ρ
theorem W.rebase {K : PySem.W.Frag} {c : Ctx} {F H : Hp} {σ : L2.St} {ρ : Env} {ω : Ora} (w : W K c F H σ ρ ω) : W K ⟨c.q, F, c.H0⟩ F H σ ρ ω :=
  ⟨⟨.refl F, fun _ _ => rfl, w.post.le, w.post.kept, w.post.ora⟩, w.len, w.fz, fun i x e => let ⟨p, h, r⟩ := w.ow i x e; ⟨p, h, r.f, r.h0, r.qf, r.r⟩, w.dj⟩
theorem post_unbase {c : Ctx} {F1 H1 F H : Hp} {ω1 ω : Ora} (p : Post c.q c.F0 c.H0 F1 H1 ω1) (b : Post c.q F1 c.H0 F H ω) : Post c.q c.F0 c.H0 F H ω :=
  ⟨p.le0.trans b.le0, fun a ha => by rw [b.new a ha, p.new a ha], b.le, b.kept, b.ora⟩
theorem W.unbase {K : PySem.W.Frag} {c : Ctx} {F1 H1 F H : Hp} {σ : L2.St} {ρ : Env} {ω1 ω : Ora} (p : Post c.q c.F0 c.H0 F1 H1 ω1) (w : W K ⟨c.q, F1, c.H0⟩ F H σ ρ ω) : W K c F H σ ρ ω :=
  ⟨post_unbase p w.post, w.len, w.fz, fun i x e => let ⟨p, h, r⟩ := w.ow i x e; ⟨p, h, r.f, r.h0, r.qf, r.r⟩, w.dj⟩
section
variable {X : Cx} {tg iter : Expr} {body : List Stmt} {it : AF} {b : GF} {s : SF} {is : List Nat} {pos : Pos}
theorem s_for (hc : X.calm = true) (hp : PassesOwn (model X.prog X.w) X.A X.env X.xe) (hi : PI X tg iter (tI X.K it)) (hg : PG X tg (tG X.K is b)) (hb : PSs X body (tS X.K s))
    (hs : ∀ x, foldedSetIterable iter X.env x = pure x := by intro _; rfl) : PS X (.For tg iter body [] pos) (tS X.K (forS it b s)) := ps_weak (ps_for hp hc hi hg hb hs) fun D σ H ⟨c, F, ρ, ω, o, ω', w, e, k⟩ => by
  obtain ⟨ds, ω1, e1, e⟩ := bnd_some e
  refine ⟨c, F, ρ, ω, ds, ω1, w, e1, fun F1 H1 J p1 hJ => ?_⟩
  have w1 := w.ext p1
  refine ⟨fun i m σ H => m = ds.length - i ∧ i ≤ ds.length ∧ ∃ F ρ ω, W X.K c F H σ ρ ω ∧ Same F1 F ∧ forL b s (ds.drop i) ρ ω = some (o, ω'), ⟨_, rfl, Nat.zero_le _, F1, ρ, ω1, w1, .refl _, e⟩, ?_⟩
  rintro i m σ H ⟨rfl, hi, F, ρ, ω, w, sF, e⟩
  obtain ⟨h1, h2⟩ := hJ F H ω sF w.post.le w.post.ora i
  by_cases hlt : i < ds.length
  · have hd : ds[i]? = some ds[i] := by simp [hlt]
    obtain ⟨go, yl⟩ := h1 _ hd
    have edrop : ds.drop i = ds[i] :: ds.drop (i + 1) := List.drop_eq_getElem_cons hlt
    rw [edrop] at e
    obtain ⟨ρ1, ω2, ea, eb⟩ := bnd_some e
    obtain ⟨o1, ω3, e3, ec⟩ := bnd_some eb
    obtain ⟨e2, rfl⟩ := opt_some ea
    refine .inr ⟨go, fun σ' H' => ∃ F' ρ' ω', W X.K c F' H' σ' ρ' ω' ∧ Same F1 F' ∧ forL b s (ds.drop (i + 1)) ρ' ω' = some (o, _), fun σ' H' ⟨F', ρ', ω', w', s', e'⟩ => ⟨_, by omega, rfl, by omega, F', ρ', ω', w', s', e'⟩, fun x H3 hy => ?_⟩
    obtain ⟨F3, p3, r3⟩ := yl x H3 hy
    have w3 := (w.ext p3).rebase
    refine ⟨_, F3, ρ, _, _, ρ1, w3, r3, e2, fun σ4 w4 _ _ => ⟨_, F3, ρ1, _, o1, ω3, w4, e3, ?_⟩⟩
    have pb : Post c.q c.F0 c.H0 F3 H3 _ := w.post.trans p3
    have sb : Same F1 F3 := sF.trans p3.le0
    cases o1 with
    | nx ρ' => exact fun F5 H5 σ5 w5 => ⟨F5, ρ', ω3, w5.unbase pb, sb.trans w5.post.le0, ec⟩
    | ct ρ' => exact fun F5 H5 σ5 w5 => ⟨F5, ρ', ω3, w5.unbase pb, sb.trans w5.post.le0, ec⟩
    | bk ρ' =>
      obtain ⟨rfl, rfl⟩ := ret_some ec
      exact fun F5 H5 σ5 w5 => k F5 H5 σ5 (w5.unbase pb)
    | rt bo d =>
      obtain ⟨rfl, rfl⟩ := ret_some ec
      cases bo with
      | false => exact fun F5 H5 v p5 r5 => k F5 H5 v (post_unbase pb p5) r5
      | true => exact fun F5 H5 v p5 r5 => k F5 H5 v (post_unbase pb p5) ⟨r5.f, r5.h0, r5.qf, r5.r⟩
  · have hge : ds.length ≤ i := by omega
    refine .inl ⟨h2 hge, ?_⟩
    rw [List.drop_of_length_le hge] at e
    obtain ⟨rfl, rfl⟩ := ret_some e
    exact k F H σ w
def whL (t : BF) (body : SF) : Nat → SF
  | 0 => fun _ => opt none
  | n + 1 => fun ρ => bnd (t ρ) fun x => bif x then bnd (body ρ) fun o => match o with
    | .nx ρ' => whL t body n ρ'
    | .ct ρ' => whL t body n ρ'
    | .bk ρ' => ret (.nx ρ')
    | .rt o d => ret (.rt o d) else ret (.nx ρ)
def WF : Nat := 1000000
def whS (t : BF) (body : SF) : SF := whL t body WF
theorem s_while {c : Expr} {t : BF} (hp : PassesOwn (model X.prog X.w) X.A X.env X.xe) (hc : PT X c (tT' X.K t)) (hb : PSs X body (tS X.K s)) : PS X (.While c body [] pos) (tS X.K (whS t s)) := ps_weak (ps_while hp hc hb) fun D σ H ⟨c, F, ρ, ω, o, ω', w, e, k⟩ => by
  refine ⟨fun m σ H => ∃ F ρ ω, W X.K c F H σ ρ ω ∧ whL t s m ρ ω = some (o, ω'), ⟨WF, F, ρ, ω, w, e⟩, ?_⟩
  rintro m σ H ⟨F, ρ, ω, w, e⟩
  cases m with
  | zero => cases e
  | succ n =>
    obtain ⟨x, ω1, e1, e⟩ := bnd_some e
    refine ⟨c, F, ρ, ω, x, ω1, w, e1, fun F1 H1 p1 => ?_⟩
    cases x with
    | false =>
      obtain ⟨rfl, rfl⟩ := ret_some e
      exact iteF (k F1 H1 σ (w.ext p1))
    | true =>
      obtain ⟨o1, ω2, e2, e⟩ := bnd_some e
      refine iteT ⟨fun σ' H' => ∃ F ρ ω, W X.K c F H' σ' ρ ω ∧ whL t s n ρ ω = some (o, ω'), fun σ' H' h => ⟨n, Nat.lt_succ_self _, h⟩, c, F1, ρ, ω1, o1, ω2, w.ext p1, e2, ?_⟩
      cases o1 with
      | nx ρ' => exact fun F5 H5 σ5 w5 => ⟨F5, ρ', ω2, w5, e⟩
      | ct ρ' => exact fun F5 H5 σ5 w5 => ⟨F5, ρ', ω2, w5, e⟩
      | bk ρ' =>
        obtain ⟨rfl, rfl⟩ := ret_some e
        exact fun F5 H5 σ5 w5 => k F5 H5 σ5 w5
      | rt bo d =>
        obtain ⟨rfl, rfl⟩ := ret_some e
        cases bo with
        | false => exact fun F5 H5 v p5 r5 => k F5 H5 v p5 r5
        | true => exact fun F5 H5 v p5 r5 => k F5 H5 v p5 r5
end

/-! ### comprehensions -/
def lcL (b : GF) (tt : BF) (el : EF) (ρ : Env) : List D → M (List D)
  | [] => ret []
  | d :: ds => bnd (opt (b d ρ)) fun ρ1 => bnd (tt ρ1) fun t => bif t then bnd (el ρ1) fun x => bnd (lcL b tt el ρ ds) fun r => ret (x :: r) else lcL b tt el ρ ds
def lcE (it : AF) (b : GF) (tt : BF) (el : EF) (vs : List Nat) : EF := fun ρ => bnd (it ρ) fun ds => if ds.length ≤ sizeLine then bnd (lcL b tt el (fgt vs ρ) ds) fun xs => ret (.lst xs) else opt none
theorem wipe_get : ∀ (vs : List Nat) (σ : L2.St) (j : Nat), (wipe σ vs)[j]? = if j ∈ vs then (if j < σ.length then some none else none) else σ[j]?
  | [], σ, j => by simp [wipe]
  | v :: vs, σ, j => by
    unfold wipe
    rw [List.getElem?_set, wipe_length, wipe_get vs σ j]
    by_cases h : v = j
    · subst h; simp
    · rw [if_neg h]
      have : j ∈ v :: vs ↔ j ∈ vs := by simp [Ne.symm h]
      simp only [this]
theorem nth_fgt : ∀ (vs : List Nat) (ρ : Env) (j : Nat), nth (fgt vs ρ) j = if j ∈ vs then .un else nth ρ j
  | [], ρ, j => by simp [FL.fgt]
  | v :: vs, ρ, j => by
    unfold FL.fgt
    rw [nth_sset, nth_fgt vs ρ j]
    by_cases h : j = v
    · subst h; simp
    · rw [if_neg h]
      have : j ∈ v :: vs ↔ j ∈ vs := by simp [h]
      simp only [this]
theorem fgt_length : ∀ (vs : List Nat) (ρ : Env), (fgt vs ρ).length = ρ.length
  | [], _ => rfl
  | v :: vs, ρ => by unfold FL.fgt; rw [sset_length, fgt_length vs ρ]
theorem W.wipe {K : PySem.W.Frag} {c : Ctx} {F H : Hp} {σ : L2.St} {ρ : Env} {ω : Ora} (w : W K c F H σ ρ ω) (vs : List Nat) : W K c F H (wipe σ vs) (FL.fgt vs ρ) ω := by
  have g : ∀ j x, (nth (FL.fgt vs ρ) j = .d x → j ∉ vs ∧ nth ρ j = .d x) ∧ (nth (FL.fgt vs ρ) j = .o x → j ∉ vs ∧ nth ρ j = .o x) := fun j x => by
    rw [nth_fgt]
    by_cases h : j ∈ vs
    · rw [if_pos h]; exact ⟨(fun z => nomatch z), (fun z => nomatch z)⟩
    · rw [if_neg h]; exact ⟨fun z => ⟨h, z⟩, fun z => ⟨h, z⟩⟩
  refine ⟨w.post, by rw [wipe_length, fgt_length]; exact w.len, fun j x e => ?_, fun j x e => ?_, fun i j x y h e1 e2 => ?_⟩
  · obtain ⟨h1, h2⟩ := (g j x).1 e
    rw [wipe_get, if_neg h1]
    exact w.fz j x h2
  · obtain ⟨h1, h2⟩ := (g j x).2 e
    rw [wipe_get, if_neg h1]
    exact w.ow j x h2
  · obtain ⟨h1, h2⟩ := (g i x).2 e1
    obtain ⟨h3, h4⟩ := (g j y).2 e2
    rw [wipe_get, if_neg h1, wipe_get, if_neg h3]
    exact w.dj i j x y h h2 h4
theorem wipe_eq {σ σ2 : L2.St} {vs : List Nat} (hl : σ2.length = σ.length) (h : ∀ j, j ∉ vs → σ2[j]? = (wipe σ vs)[j]?) : wipe σ2 vs = wipe σ vs := by
  apply List.ext_getElem?
  intro j
  rw [wipe_get, wipe_get, hl]
  by_cases hj : j ∈ vs
  · rw [if_pos hj, if_pos hj]
  · rw [if_neg hj, if_neg hj, h j hj, wipe_get, if_neg hj]
theorem Post.upd_free {q : Qa} {F1 H1 F H : Hp} {ω1 ω : Ora} (p : Post q F1 H1 F H ω) (o : OraR q F1 H1 ω1) {D : Addr} {u : HO} (h1 : H1 D = none) (hF : F D = none) : Post q F1 H1 F (upd H D u) ω where
  le0 := p.le0
  new := p.new
  le := fun a x e => by rw [upd_ne fun z => by subst z; rw [hF] at e; cases e]; exact p.le a x e
  kept := fun a x e qf => by rw [upd_ne fun z => by subst z; rw [h1] at e; cases e]; exact p.kept a x e qf
  ora := fun r er => by
    obtain ⟨a1, a2, a3, a4, a5⟩ := p.ora r er
    have qf := qfree_none o h1 r er
    exact ⟨a1, a2, a3, by rw [upd_ne (Ne.symm qf.1)]; exact a4, by rw [upd_ne (Ne.symm qf.2)]; exact a5⟩
theorem lc_core2 {K : PySem.W.Frag} {it : AF} {b : GF} {tt : BF} {el : EF} {vs is : List Nat} (hsub : ∀ j ∈ is, j ∈ vs) {σ : L2.St} {H : Hp} {Q : VK} (h : tF K (lcE it b tt el vs) σ H Q) : tLc (tI K it) (tG K is b) (tT' K tt) (tE K el) vs σ H Q := by
  obtain ⟨c, F, ρ, ω, d, ω', w, e, k⟩ := h
  obtain ⟨ds, ω1, e1, e⟩ := bnd_some e
  split at e
  · rename_i hz
    obtain ⟨xs, ω2, e2, e⟩ := bnd_some e
    obtain ⟨rfl, rfl⟩ := ret_some e
    refine ⟨c, F, ρ, ω, ds, ω1, w, e1, fun F1 H1 J p1 hJ D hD => ?_⟩
    have w1 := w.ext p1
    have hF1 : F1 D = none := same_none p1.le hD
    refine ⟨fun i m H => m = ds.length - i ∧ i ≤ ds.length ∧ ∃ F ω acc da r, Post c.q F1 H1 F H ω ∧ F D = none ∧ H D = some (.lst acc) ∧ Reps K c.q F acc da ∧ acc.length ≤ i ∧ lcL b tt el (FL.fgt vs ρ) (ds.drop i) ω = some (r, ω') ∧ da ++ r = xs,
      ⟨_, rfl, Nat.zero_le _, F1, ω1, [], [], xs, Post.fresh p1.le p1.ora hD, hF1, upd_same, .nil, Nat.le_refl _, e2, rfl⟩, ?_⟩
    rintro i m H ⟨rfl, hi, F, ω, acc, da, r, p, hF, hH, rr, hacc, e, hx⟩
    obtain ⟨h1, h2⟩ := hJ F H ω p.le0 p.le p.ora i
    by_cases hlt : i < ds.length
    · have hd : ds[i]? = some ds[i] := by simp [hlt]
      obtain ⟨go, yl⟩ := h1 _ hd
      have edrop : ds.drop i = ds[i] :: ds.drop (i + 1) := List.drop_eq_getElem_cons hlt
      rw [edrop] at e
      obtain ⟨ρ1, ω3, ea, eb⟩ := bnd_some e
      obtain ⟨t, ω4, e4, ec⟩ := bnd_some eb
      obtain ⟨e3, rfl⟩ := opt_some ea
      refine .inr ⟨go, fun H' => i + 1 ≤ ds.length ∧ ∃ F ω acc da r, Post c.q F1 H1 F H' ω ∧ F D = none ∧ H' D = some (.lst acc) ∧ Reps K c.q F acc da ∧ acc.length ≤ i + 1 ∧ lcL b tt el (FL.fgt vs ρ) (ds.drop (i + 1)) ω = some (r, ω') ∧ da ++ r = xs, fun H' h => ⟨_, by omega, rfl, h⟩, fun x H3 hy => ?_⟩
      obtain ⟨F3, p3, r3⟩ := yl x H3 hy
      have wi := (((w1.ext p).ext p3).wipe vs)
      refine ⟨c, F3, _, _, _, ρ1, wi, r3, e3, fun σ4 w4 l4 hs4 => ⟨wipe_eq (by rw [l4, wipe_length]) (fun j hj => hs4 j fun z => hj (hsub j z)), c, F3, ρ1, _, t, ω4, w4, e4, fun F5 H5 p5 => ?_⟩⟩
      have qfD : Qfree c.q D := qfree_none p1.ora hD
      have hH5 : H5 D = some (.lst acc) := p5.kept _ _ (p3.kept _ _ hH qfD) qfD
      have hF5 : F5 D = none := by
        rw [p5.new D (by rw [p3.kept _ _ hH qfD]; exact (fun z => nomatch z)), p3.new D (by rw [hH]; exact (fun z => nomatch z))]; exact hF
      have pp := (p.trans p3).trans p5
      cases t with
      | false => exact iteF ⟨hlt, F5, ω4, acc, da, r, pp, hF5, hH5, (rr.mono p3.le0).mono p5.le0, by omega, ec, hx⟩
      | true =>
        obtain ⟨y, ω5, e5, ed⟩ := bnd_some ec
        obtain ⟨r', ω6, e6, ee⟩ := bnd_some ed
        obtain ⟨rfl, rfl⟩ := ret_some ee
        refine iteT ⟨c, F5, ρ1, ω4, y, ω5, w4.ext p5, e5, fun F6 H6 v p6 r6 => ⟨acc, p6.kept _ _ hH5 qfD, by omega, hlt, F6, ω5, acc ++ [v], da ++ [y], r', (pp.trans p6).upd_free p1.ora hD ?_, ?_, upd_same, (((rr.mono p3.le0).mono p5.le0).mono p6.le0).append (.cons r6 .nil), by rw [List.length_append]; simp; omega, e6, by rw [← hx, List.append_assoc]; rfl⟩⟩
        all_goals (rw [p6.new D (by rw [hH5]; exact (fun z => nomatch z))]; exact hF5)
    · have hge : ds.length ≤ i := by omega
      refine .inl ⟨h2 hge, ?_⟩
      rw [List.drop_of_length_le hge] at e
      obtain ⟨rfl, rfl⟩ := ret_some e
      rw [List.append_nil] at hx
      subst hx
      exact k F H D (p1.trans p) (none_back p1 hD) hF ⟨_, hH, rr⟩
  · cases e
end FL
end
section
/-! FL: comprehensions as values, calls, defs, the law. -/
namespace FL
open PySem PySem.Spec PyProof.Rows L2

section
variable {X : Cx} {elt tg iter : Expr} {ifs : List Expr} {scope : Scope} {pos : Pos} {it : AF} {b : GF} {tt : BF} {el : EF} {is : List Nat}
def yesB : BF := fun _ => ret true
theorem t_yes : PTs X [] (tT' X.K yesB) := ⟨fun pins s σ H Q I ⟨c, F, ρ, ω, d, ω', w, e, q⟩ => by
  obtain ⟨rfl, rfl⟩ := ret_some e
  exact wpAny_tests_nil ⟨H, I, q F H w.self⟩⟩
theorem t_one {c : Expr} (h : PT X c (tT' X.K tt)) : PTs X [c] (tT' X.K tt) := pts_one h
theorem f_lc (own : List (Str × Nat)) (hN : X.N.Nodup) (hi : PI X tg iter (tI X.K it))
    (hg : ∀ (s : Shared) (H : Hp) (C : Addr) (cl : List (Str × Addr)) (fp : List Addr), PG (X.blk s H scope (compEnvC scope cl C X.env) fp) tg (tG X.K is b))
    (ht : ∀ (s : Shared) (H : Hp) (C : Addr) (cl : List (Str × Addr)) (fp : List Addr), PTs (X.blk s H scope (compEnvC scope cl C X.env) fp) ifs (tT' X.K tt))
    (he : ∀ (s : Shared) (H : Hp) (C : Addr) (cl : List (Str × Addr)) (fp : List Addr), PE (X.blk s H scope (compEnvC scope cl C X.env) fp) elt (tE X.K el))
    (ok : blkC X.N X.env.scope scope own = true := by kernel_rfl) (hsub : ∀ j ∈ is, j ∈ own.map (·.2) := by decide) (hc : X.calm = true := by rfl) (hs : ∀ x, foldedSetIterable iter X.env x = pure x := by intro _; rfl) :
    PE X (.ListComp elt [⟨tg, iter, ifs, 0⟩] scope pos) (tF X.K (lcE it b tt el (own.map (·.2)))) :=
  pe_weak (pe_lc (own := own) hc hN hi (blkOk_by ok) hg ht he hs) fun σ H Q h => lc_core2 hsub h
theorem s_lcO (i : Nat) (own : List (Str × Nat)) {y : Str} {py : Pos} {spos : Pos} (hN : X.N.Nodup) (hi : PI X tg iter (tI X.K it))
    (hg : ∀ (s : Shared) (H : Hp) (C : Addr) (cl : List (Str × Addr)) (fp : List Addr), PG (X.blk s H scope (compEnvC scope cl C X.env) fp) tg (tG X.K is b))
    (ht : ∀ (s : Shared) (H : Hp) (C : Addr) (cl : List (Str × Addr)) (fp : List Addr), PTs (X.blk s H scope (compEnvC scope cl C X.env) fp) ifs (tT' X.K tt))
    (he : ∀ (s : Shared) (H : Hp) (C : Addr) (cl : List (Str × Addr)) (fp : List Addr), PE (X.blk s H scope (compEnvC scope cl C X.env) fp) elt (tE X.K el))
    (hy : X.N[i]? = some y := by rfl) (hyl : X.env.scope.names.lookup y = some .local := by rfl)
    (hsw : swapsWith (.ListComp elt [⟨tg, iter, ifs, 0⟩] scope pos) (some (.Name y py)) spos.line X.env = pure true := by exact sw_true rfl rfl rfl (by decide +kernel))
    (ok : blkC X.N X.env.scope scope own = true := by kernel_rfl) (hsub : ∀ j ∈ is, j ∈ own.map (·.2) := by decide) (hc : X.calm = true := by rfl) (hs : ∀ x, foldedSetIterable iter X.env x = pure x := by intro _; rfl) :
    PS X (.Assign [.Name y py] (.ListComp elt [⟨tg, iter, ifs, 0⟩] scope pos) spos) (tS X.K (setO i (lcE it b tt el (own.map (·.2))))) :=
  s_setOA i (ps_setLc (own := own) hc hN hy hyl hsw hi (blkOk_by ok) hg ht he hs) fun σ H Q h => lc_core2 hsub h
theorem tF_tE {K : PySem.W.Frag} {f : EF} {σ : L2.St} {H : Hp} {Q : VK} (h : tE K f σ H Q) : tF K f σ H Q := by
  obtain ⟨c, F, ρ, ω, d, ω', w, e, q⟩ := h
  exact ⟨c, F, ρ, ω, d, ω', w, e, fun F' H' p po hn hp o => by
    obtain ⟨u, hu, r⟩ := o.rep hp
    exact q _ H' _ (po.freeze w.post.ora hn hu) r⟩
theorem s_lcD (i : Nat) (own : List (Str × Nat)) {y : Str} {py : Pos} {spos : Pos} (hN : X.N.Nodup) (hi : PI X tg iter (tI X.K it))
    (hg : ∀ (s : Shared) (H : Hp) (C : Addr) (cl : List (Str × Addr)) (fp : List Addr), PG (X.blk s H scope (compEnvC scope cl C X.env) fp) tg (tG X.K is b))
    (ht : ∀ (s : Shared) (H : Hp) (C : Addr) (cl : List (Str × Addr)) (fp : List Addr), PTs (X.blk s H scope (compEnvC scope cl C X.env) fp) ifs (tT' X.K tt))
    (he : ∀ (s : Shared) (H : Hp) (C : Addr) (cl : List (Str × Addr)) (fp : List Addr), PE (X.blk s H scope (compEnvC scope cl C X.env) fp) elt (tE X.K el))
    (hy : X.N[i]? = some y := by rfl) (hyl : X.env.scope.names.lookup y = some .local := by rfl)
    (hsw : swapsWith (.ListComp elt [⟨tg, iter, ifs, 0⟩] scope pos) (some (.Name y py)) spos.line X.env = pure true := by exact sw_true rfl rfl rfl (by decide +kernel))
    (ok : blkC X.N X.env.scope scope own = true := by kernel_rfl) (hsub : ∀ j ∈ is, j ∈ own.map (·.2) := by decide) (hc : X.calm = true := by rfl) (hs : ∀ x, foldedSetIterable iter X.env x = pure x := by intro _; rfl) :
    PS X (.Assign [.Name y py] (.ListComp elt [⟨tg, iter, ifs, 0⟩] scope pos) spos) (tS X.K (setD i (lcE it b tt el (own.map (·.2))))) :=
  s_setDA i (ps_setLc (own := own) hc hN hy hyl hsw hi (blkOk_by ok) hg ht he hs) fun σ H Q h => lc_core2 hsub (tF_tE h)
end

/-! ### defs -/
def spD (K : PySem.W.Frag) (fr : Bool) (m : List D → M D) : Sp := fun vs H Q _ => ∃ q F ds ω d ω', Same F H ∧ OraR q F H ω ∧ Reps K q F vs ds ∧ m ds ω = some (d, ω') ∧
  ∀ F' H' v, Post q F H F' H' ω' → (match fr with
    | false => Rep K q F' v d
    | true => ∃ p, v = .ref p ∧ H p = none ∧ F' p = none ∧ OwnR K q F' H' p d) → Q v H'
def mkE : List D → Nat → Env
  | [], n => List.replicate n .un
  | d :: ds, n => .d d :: mkE ds n
theorem mkE_length : ∀ (ds : List D) (n : Nat), (mkE ds n).length = ds.length + n
  | [], n => by simp [mkE]
  | d :: ds, n => by simp [mkE, mkE_length ds n]; omega
theorem nth_rep : ∀ (n i : Nat), nth (List.replicate n SV.un) i = .un
  | 0, _ => rfl
  | n + 1, 0 => rfl
  | n + 1, i + 1 => nth_rep n i
theorem nth_mkE : ∀ (ds : List D) (n i : Nat), (∀ x, nth (mkE ds n) i = .d x → ds[i]? = some x) ∧ ∀ x, nth (mkE ds n) i ≠ .o x
  | [], n, i => ⟨fun x h => (by have e : nth (mkE [] n) i = .un := nth_rep n i
                                rw [e] at h; cases h), fun x h => (by have e : nth (mkE [] n) i = .un := nth_rep n i
                                                                      rw [e] at h; cases h)⟩
  | d :: ds, n, 0 => ⟨fun x h => by cases h; rfl, fun x h => nomatch h⟩
  | d :: ds, n, i + 1 => nth_mkE ds n i
def outO (fr : Bool) : Out → Option D
  | .rt o d => if (fr && !o) = true then none else some d
  | .nx _ => if fr = true then none else some .non
  | _ => none
def runS (n ar : Nat) (fr : Bool) (s : SF) : List D → M D := fun ds => if ds.length = ar then bnd (s (mkE ds (n - ar))) fun o => opt (outO fr o) else opt none
theorem runS_len {n ar : Nat} {fr : Bool} {s : SF} {ds : List D} {ω ω' : Ora} {d : D} (h : runS n ar fr s ds ω = some (d, ω')) : ds.length = ar := by
  unfold runS at h
  split at h
  · assumption
  · cases h
section
variable {P : Program} {w : World} {K : PySem.W.Frag} {mg : Str → Option Value} {base : Heap}
/-- the reading of a body at a call -/
theorem spD_run {N ps : List Str} {fr : Bool} {s : SF} (hps : N.take ps.length = ps) {vs : List V} {H : Hp} {Q : VK} {E : XK} (h : spD K fr (runS N.length ps.length fr s) vs H Q E) : tS K s { nx := fun _ H' => Q .non H', rt := Q } (L2.start N vs) H := by
  obtain ⟨q, F, ds, ω, d, ω', hs, ho, hr, e, k⟩ := h
  have hlen := runS_len e
  unfold runS at e
  rw [if_pos hlen] at e
  obtain ⟨o, ω1, e1, e⟩ := bnd_some e
  obtain ⟨e2, rfl⟩ := opt_some e
  have hN : ps.length ≤ N.length := by
    have := congrArg List.length hps
    rw [List.length_take] at this
    omega
  have hvl := hr.length
  refine ⟨⟨q, F, H⟩, F, mkE ds (N.length - ps.length), ω, o, _, ⟨.mk0 hs ho, ?_, fun i x hx => ?_, fun i x hx => absurd hx ((nth_mkE ds _ i).2 x), fun i j x y _ hx _ => absurd hx ((nth_mkE ds _ i).2 x)⟩, e1, ?_⟩
  · unfold L2.start
    rw [List.length_append, List.length_map, List.length_replicate, mkE_length, hvl, hlen]
  · have h1 := (nth_mkE ds _ i).1 x hx
    obtain ⟨v, h2, h3⟩ := hr.get h1
    refine ⟨v, ?_, h3⟩
    unfold L2.start
    rw [List.getElem?_append_left (by rw [List.length_map]; exact (List.getElem?_eq_some_iff.mp h2).1), List.getElem?_map, h2]; rfl
  · cases o with
    | nx ρ =>
      cases fr with
      | true => cases e2
      | false =>
        cases e2
        exact fun F' H' σ' w' => k F' H' _ w'.post .non
    | rt bo d' =>
      cases fr with
      | false =>
        have hd : d' = d := by simpa [outO] using e2
        subst hd
        cases bo with
        | false => exact fun F' H' v p r => k F' H' v p r
        | true =>
          intro F' H' p po r
          obtain ⟨u, hu, rr⟩ := r.r.rep r.f
          exact k _ H' _ (po.freeze ho r.h0 hu) rr
      | true =>
        cases bo with
        | false => cases e2
        | true =>
          have hd : d' = d := by simpa [outO] using e2
          subst hd
          exact fun F' H' p po r => k F' H' _ po ⟨p, rfl, r.h0, r.f, r.r⟩
    | bk ρ => cases e2
    | ct ρ => cases e2
theorem fn_ok {x qual : Str} {st : Stmt} {f : Addr} {fd : FuncData} {N ps : List Str} {k : Nat} (F : Fun K x qual st f fd) (S : FnScope N ps (defScope st)) (fr : Bool) {s : SF}
    (hb : ∀ (cdv : Value) (A : Around) (outer : List PySem.Env) (s' : Shared) (H : Hp) (E : XK), Room k (A.deeper (envOfC qual (defScope st) s'.heap.objs.size f cdv)) →
      PSs (cxOf CX0 P w K mg base N qual (defScope st) f cdv A outer s' H E).nox (defBody st) (tS K s)) :
    FnOk P w K mg base CX0 (k + 1) f fd ps (spD K fr (runS N.length ps.length fr s)) :=
  F.ok S (fun vs H Q E h => by
    obtain ⟨q, F, ds, ω, d, ω', hs, ho, hr, e, k⟩ := h
    rw [hr.length, runS_len e]) fun cdv A outer s' H vs Q E hr hsp => ⟨_, hb cdv A outer s' H E hr, spD_run S.pre hsp⟩
theorem fn_never {f : Addr} {fd : FuncData} {ps : List Str} {fr : Bool} {m : List D → M D} (h : ∀ ds ω, m ds ω = none) {k : Nat} : FnOk P w K mg base CX0 k f fd ps (spD K fr m) :=
  ⟨fun vs H Q E ⟨q, F, ds, ω, d, ω', hs, ho, hr, e, k⟩ => (by rw [h] at e; cases e), fun A outer s H args us vs Q E hr he hb hv ⟨q, F, ds, ω, d, ω', hs, ho, hr', e, k⟩ => (by rw [h] at e; cases e)⟩
/-- another function with the same values where it has one -/
theorem fn_eq {f : Addr} {fd : FuncData} {ps : List Str} {fr : Bool} {m m' : List D → M D} {k : Nat} (F : FnOk P w K mg base CX0 k f fd ps (spD K fr m)) (h : ∀ ds ω r, m' ds ω = some r → m ds ω = some r) : FnOk P w K mg base CX0 k f fd ps (spD K fr m') :=
  F.imp fun vs H Q E ⟨q, F, ds, ω, d, ω', hs, ho, hr, e, k⟩ => ⟨q, F, ds, ω, d, ω', hs, ho, hr, h _ _ _ e, k⟩
end

/-! ### calls of defs -/
def callE (m : List D → M D) (g : AF) : EF := fun ρ => bnd (g ρ) m
section
variable {X : Cx} {k : Nat} {f : Addr} {fd : FuncData} {ps : List Str} {m : List D → M D} {x : Str} {p pos : Pos} {e : Expr} {es : List Expr} {g : AF}
theorem e_call (F : FnOk X.prog X.w X.K X.mg X.base CX0 k f fd ps (spD X.K false m)) (hr : Room k X.A) (hm : X.mg x = some (.ref f)) (hk : PySem.W.keepIn X.K (.ref f) = true) (hb : Binds X.K fd ps []) (ha : PA X (e :: es) (tAE X.K g)) (hg : Gl X x := by rfl)
    (hdb : (x == ("__debug__" : Str)) = false := by decide) (he : starEach (e :: es) X.env = (false, eval e X.env) :: starEach es X.env := by rfl) (hpl : (backTo pos (starEach es X.env)).any (·.1) = false := by rfl) :
    PE X (.Call (.Name x p) (e :: es) [] pos) (tE X.K (callE m g)) := pe_weak (pe_call F hr hg hm hk hb .nil pass0 ha hdb he hpl) fun σ H Q ⟨c, F, ρ, ω, d, ω', w, e, q⟩ => by
  obtain ⟨ds, ω1, e1, e⟩ := bnd_some e
  refine ⟨c, F, ρ, ω, ds, ω1, w, e1, fun F1 H1 vs p1 r1 => ?_⟩
  show spD X.K _ m (vs ++ []) H1 Q E0
  rw [List.append_nil]
  exact ⟨c.q, F1, ds, ω1, d, ω', p1.le, p1.ora, r1, e, fun F2 H2 v p2 r2 => q F2 H2 v (p1.trans p2) r2⟩
theorem f_call (F : FnOk X.prog X.w X.K X.mg X.base CX0 k f fd ps (spD X.K true m)) (hr : Room k X.A) (hm : X.mg x = some (.ref f)) (hk : PySem.W.keepIn X.K (.ref f) = true) (hb : Binds X.K fd ps []) (ha : PA X (e :: es) (tAE X.K g)) (hg : Gl X x := by rfl)
    (hdb : (x == ("__debug__" : Str)) = false := by decide) (he : starEach (e :: es) X.env = (false, eval e X.env) :: starEach es X.env := by rfl) (hpl : (backTo pos (starEach es X.env)).any (·.1) = false := by rfl) :
    PE X (.Call (.Name x p) (e :: es) [] pos) (tF X.K (callE m g)) := pe_weak (pe_call F hr hg hm hk hb .nil pass0 ha hdb he hpl) fun σ H Q ⟨c, F, ρ, ω, d, ω', w, e, q⟩ => by
  obtain ⟨ds, ω1, e1, e⟩ := bnd_some e
  refine ⟨c, F, ρ, ω, ds, ω1, w, e1, fun F1 H1 vs p1 r1 => ?_⟩
  show spD X.K _ m (vs ++ []) H1 Q E0
  rw [List.append_nil]
  exact ⟨c.q, F1, ds, ω1, d, ω', p1.le, p1.ora, r1, e, fun F2 H2 v p2 ⟨p, ev, h1, h2, h3⟩ => by subst ev; exact q F2 H2 p (p1.trans p2) (none_back p1 h1) h2 h3⟩
end

/-! ### isinstance -/
def tyD : D → String
  | .non => "NoneType"
  | .bl _ => "bool"
  | .int _ => "int"
  | .str _ => "str"
  | .tup _ => "tuple"
  | .lst _ => "list"
  | .dic _ => "dict"
  | .tok => "list"
def isiD (T : String) : D → Option D
  | .tok => none
  | .dic _ => none
  | d => (kitB (tyD d) T).map .bl
theorem rd_ty {K : PySem.W.Frag} {q : Qa} {F H : Hp} {x : V} {a : D} (h : Vw K q F H x a) (s : Same F H) (n1 : a ≠ .tok) (n2 : ∀ kvs, a ≠ .dic kvs) : TyX K H x (.type (tyD a)) := by
  have hr := h.repH s
  cases hr with
  | non => exact .base .non
  | bl b => exact .base (.bl b)
  | int i => exact .base (.int i)
  | str x => exact .base (.str x)
  | tup hq _ =>
    rcases hq with (hq | ⟨o, hq⟩) | ⟨o, its, n, e, c, _⟩
    · exact .base (.tup hq)
    · exact .fTuple hq
    · exact .kTuple e c
  | lst e _ => exact .base (.lst e)
  | dic e _ => exact (n2 _ rfl).elim
  | dit e _ => exact (n2 _ rfl).elim
  | tok _ => exact (n1 rfl).elim
theorem isiD_some {T : String} {a d : D} (h : isiD T a = some d) : a ≠ .tok ∧ (∀ kvs, a ≠ .dic kvs) ∧ ∃ b, kitB (tyD a) T = some b ∧ d = .bl b := by
  unfold isiD at h
  split at h
  · cases h
  · cases h
  · rename_i h1 h2
    rw [Option.map_eq_some_iff] at h
    obtain ⟨b, h3, rfl⟩ := h
    exact ⟨h1, fun kvs z => h2 kvs z, b, h3, rfl⟩
section
variable {X : Cx} {a : Expr} {f : EF} {p p2 pos : Pos}
theorem e_isi (T : String) {xT : Str} (hm : X.mg "isinstance" = none) (hmT : X.mg xT = none) (h : PE X a (tB X.K f)) (hvT : bootBuiltins xT = some (.type T) := by first | assumption | decide +kernel) (hg : Gl X "isinstance" := by rfl) (hgT : Gl X xT := by rfl)
    (hnT : xT ≠ "__name__" := by decide) (hdT : (xT == ("__debug__" : Str)) = false := by decide)
    (na : starEach [a, .Name xT p2] X.env = (false, eval a X.env) :: starEach [.Name xT p2] X.env := by rfl) (nb : starEach [.Name xT p2] X.env = (false, eval (.Name xT p2) X.env) :: starEach [] X.env := by rfl)
    (hpl : (backTo pos (starEach [.Name xT p2] X.env)).any (·.1) = false := by rfl) :
    PE X (.Call (.Name "isinstance" p) [a, .Name xT p2] [] pos) (tE X.K (b1 (isiD T) f)) :=
  pe_weak (pe_callB call_isi hg hm PyProof.Rows.boot_isinstance (pa_cons h (pa_cons (pe_bltn (v := .ty T) hgT hmT hvT rfl hnT hdT) pa_nil nb) na) (he := na) (hpl := hpl)) fun σ H Q ⟨c, F, ρ, ω, d, ω', w, e, q⟩ => by
    obtain ⟨x, ω1, e1, e⟩ := bnd_some e
    obtain ⟨e2, rfl⟩ := opt_some e
    obtain ⟨n1, n2, b, hb, rfl⟩ := isiD_some e2
    exact ⟨c, F, ρ, ω, x, _, w, e1, fun F1 H1 v p1 r1 => ⟨v, .ty T, _, _, b, rfl, .ty T, rd_ty r1 p1.le n1 n2, kit_ty hb, q F1 H1 _ p1 (.bl b)⟩⟩
end

/-! ### sorted of ints -/
def insI (x : Int) : List Int → List Int
  | [] => [x]
  | y :: r => if x ≤ y then x :: y :: r else y :: insI x r
def srtI : List Int → List Int
  | [] => []
  | x :: r => insI x (srtI r)
theorem insI_perm (x : Int) : ∀ l : List Int, (insI x l).Perm (x :: l)
  | [] => .refl _
  | y :: r => by
    unfold insI
    split
    · exact .refl _
    · exact (List.Perm.cons y (insI_perm x r)).trans (List.Perm.swap x y r)
theorem insI_sorted (x : Int) : ∀ l : List Int, l.Pairwise (· ≤ ·) → (insI x l).Pairwise (· ≤ ·)
  | [], _ => List.pairwise_singleton _ _
  | y :: r, h => by
    unfold insI
    rw [List.pairwise_cons] at h
    split
    · rename_i hxy
      rw [List.pairwise_cons]
      refine ⟨fun z hz => ?_, List.pairwise_cons.mpr h⟩
      rcases List.mem_cons.mp hz with rfl | hz
      · exact hxy
      · exact Int.le_trans hxy (h.1 z hz)
    · rename_i hxy
      rw [List.pairwise_cons]
      refine ⟨fun z hz => ?_, insI_sorted x r h.2⟩
      rcases List.mem_cons.mp ((insI_perm x r).mem_iff.mp hz) with rfl | hz
      · omega
      · exact h.1 z hz
theorem srtI_perm : ∀ l : List Int, (srtI l).Perm l
  | [] => .refl _
  | x :: r => (insI_perm x (srtI r)).trans (.cons x (srtI_perm r))
theorem srtI_sorted : ∀ l : List Int, (srtI l).Pairwise (· ≤ ·)
  | [] => .nil
  | x :: r => insI_sorted x _ (srtI_sorted r)
theorem sorted_uniq : ∀ {l m : List Int}, l.Perm m → l.Pairwise (· ≤ ·) → m.Pairwise (· ≤ ·) → l = m := fun h h1 h2 =>
  h.eq_of_pairwise (fun a b _ _ x y => Int.le_antisymm x y) h1 h2
def aSort : List D → Option D
  | [.lst ds] => (intsOf ds).map fun ns => .lst ((srtI ns).map .int)
  | _ => none
theorem sort_pureF {K : PySem.W.Frag} : PureAF K (rSortedI K) aSort := by
  intro q F H ω xs a d Q hs ho hx e k
  unfold aSort at e
  split at e
  · rw [Option.map_eq_some_iff] at e
    obtain ⟨ns, e1, rfl⟩ := e
    obtain ⟨v, rfl, hv⟩ := hx.one
    cases intsOf_eq e1
    obtain ⟨p, vs, rfl, h1, r⟩ := hv.lst hs
    cases r.ints
    refine ⟨p, ns, rfl, .inl (.inl h1), fun ns' l hp hpw hl => ?_⟩
    rw [sorted_uniq (hp.trans (srtI_perm ns).symm) hpw (srtI_sorted ns)]
    exact k F _ l (Post.fresh hs ho hl) hl (same_none hs hl) ⟨_, upd_same, reps_ints _⟩
  · cases e
end FL
end
section
/-! FL: more that is walked; tuples repeated. -/
namespace FL
open PySem PySem.Spec PyProof.Rows L2

/-! ### lists or tuples -/
def iSeq (K : PySem.W.Frag) (tl : TE) : TI := fun σ H R => tl σ H fun x H1 => ∃ a, x = .ref a ∧ (((∃ xs, SqL K H1 a xs) ∧ R (Itl K a) H1) ∨ ((∃ xs, SqT K H1 a xs) ∧ R (Itt K a) H1))
section
variable {X : Cx} {tg a b c e : Expr} {f g h : EF} {pos p tpos : Pos} {elts : List Expr} {kk : Nat}
theorem pi_seq {l : Expr} {tl : TE} (hl : PE X l tl) : PI X tg l (iSeq X.K tl) := by
  refine ⟨fun pins s σ H R I h => ?_⟩
  refine thn (hl.run pins s σ H _ I h) fun v s1 ⟨x, H1, I1, r1, q1⟩ => ?_
  obtain ⟨a, e, q1⟩ := q1
  subst e
  cases r1
  rcases q1 with ⟨⟨xs, hq⟩, q⟩ | ⟨⟨xs, hq⟩, q⟩
  · obtain ⟨its, rv, p, hz⟩ := I1.list hq
    refine wpAny_pyIter_list p.isList ?_
    refine ⟨s1.heap.objs.size, [s1.heap.objs.size], _, _, H1, rfl, I1.kept (t' := s1.toks) fun b o e => Heap.get?_push_of_some _ e, turn_list a _, ⟨_, Heap.get?_push_size _ rfl, rfl, rfl⟩, fun b hb => ?_, q⟩
    have e : b = s1.heap.objs.size := by simpa using hb
    subst e
    exact I1.fpOk (Nat.le_refl _) (I1.hok.fresh (Nat.le_refl _))
  · obtain ⟨its, rv, p, hz⟩ := I1.tuple hq
    refine wpAny_pyIter_tuple (show s1.heap.IsTuple a its.toArray from p) ?_
    refine ⟨s1.heap.objs.size, [s1.heap.objs.size], _, _, H1, rfl, I1.kept (t' := s1.toks) fun b o e => Heap.get?_push_of_some _ e, turn_tuple a _, ⟨_, Heap.get?_push_size _ rfl, rfl, rfl⟩, fun b hb => ?_, q⟩
    have e : b = s1.heap.objs.size := by simpa using hb
    subst e
    exact I1.fpOk (Nat.le_refl _) (I1.hok.fresh (Nat.le_refl _))
def itS (f : EF) : AF := fun ρ => bnd (f ρ) fun d => opt (seqD d)
theorem itOk_list {K : PySem.W.Frag} {q : Qa} {F : Hp} {a : Addr} {vs : List V} {ds : List D} (hF : F a = some (.lst vs)) (r : Reps K q F vs ds) : ItOk K q F (Itl K a) ds := fun F2 H2 ω2 s1 s2 o i => ⟨fun d hd => by
    obtain ⟨u, h1, h2⟩ := r.get hd
    have hq := sql_inj (K := K) (s2 _ _ (s1 _ _ hF))
    exact ⟨⟨_, u, hq, h1⟩, fun x H3 hy => ⟨F2, by rw [hy.1]; exact .mk0 s2 o, by
      have := hy.2 _ hq
      rw [h1] at this
      cases this
      exact h2.mono s1⟩⟩, fun hi => ⟨_, sql_inj (s2 _ _ (s1 _ _ hF)), by rw [r.length]; exact hi⟩⟩
theorem itOk_tup {K : PySem.W.Frag} {q : Qa} {F : Hp} {a : Addr} {vs : List V} {ds : List D} (hF : SqT K F a vs) (r : Reps K q F vs ds) : ItOk K q F (Itt K a) ds := fun F2 H2 ω2 s1 s2 o i => ⟨fun d hd => by
    obtain ⟨u, h1, h2⟩ := r.get hd
    have hq := same_sqt s2 (same_sqt s1 hF)
    exact ⟨⟨_, u, hq, h1⟩, fun x H3 hy => ⟨F2, by rw [hy.1]; exact .mk0 s2 o, by
      have := hy.2 _ hq
      rw [h1] at this
      cases this
      exact h2.mono s1⟩⟩, fun hi => ⟨_, same_sqt s2 (same_sqt s1 hF), by rw [r.length]; exact hi⟩⟩
theorem Rep.seq {K : PySem.W.Frag} {q : Qa} {F : Hp} {v : V} {d : D} {ds : List D} (r : Rep K q F v d) (e : seqD d = some ds) : ∃ a vs, v = .ref a ∧ Reps K q F vs ds ∧ (F a = some (.lst vs) ∨ SqT K F a vs) := by
  rcases seqD_some e with rfl | rfl
  · cases r with | lst h r => exact ⟨_, _, rfl, r, .inl h⟩
  · cases r with | tup h r => exact ⟨_, _, rfl, r, .inr h⟩
theorem i_seq (hl : PE X a (tE X.K f)) : PI X tg a (tI X.K (itS f)) := pi_weak (pi_seq hl) fun σ H R ⟨c, F, ρ, ω, d, ω', w, e, k⟩ => by
  obtain ⟨x, ω1, e1, e⟩ := bnd_some e
  obtain ⟨e2, rfl⟩ := opt_some e
  refine ⟨c, F, ρ, ω, x, _, w, e1, fun F1 H1 v p1 r1 => ?_⟩
  obtain ⟨a, vs, rfl, rr, h | h⟩ := r1.seq e2
  · exact ⟨a, rfl, .inl ⟨⟨vs, .inl (.inl (p1.le _ _ h))⟩, k F1 H1 _ p1 (itOk_list h rr)⟩⟩
  · exact ⟨a, rfl, .inr ⟨⟨vs, same_sqt p1.le h⟩, k F1 H1 _ p1 (itOk_tup h rr)⟩⟩

/-! ### range(a, b, c) -/
def upC (lo c : Int) : Nat → List D
  | 0 => []
  | n + 1 => .int lo :: upC (lo + c) c n
theorem upC_length (c : Int) : ∀ (n : Nat) (lo : Int), (upC lo c n).length = n
  | 0, _ => rfl
  | n + 1, lo => congrArg (· + 1) (upC_length c n (lo + c))
theorem upC_get (c : Int) : ∀ (n : Nat) (lo : Int) (i : Nat) (d : D), (upC lo c n)[i]? = some d → i < n ∧ d = .int (lo + (i : Nat) * c)
  | 0, _, _, _, h => by simp [upC] at h
  | n + 1, lo, 0, d, h => by simp [upC] at h; exact ⟨by omega, by rw [← h]; simp⟩
  | n + 1, lo, i + 1, d, h => by
    obtain ⟨h1, h2⟩ := upC_get c n (lo + c) i d (by simpa [upC] using h)
    refine ⟨by omega, ?_⟩
    rw [h2]
    congr 1
    rw [Int.natCast_succ, Int.add_mul, Int.one_mul]
    omega
theorem itOk_rangeC {K : PySem.W.Frag} {q : Qa} {F : Hp} {lo c : Int} {n : Nat} : ItOk K q F (Itc lo c n) (upC lo c n) := fun F2 H2 ω2 s1 s2 o i => ⟨fun d hd => by
    obtain ⟨h1, rfl⟩ := upC_get c n lo i d hd
    exact ⟨h1, fun x H3 hy => ⟨F2, by rw [hy.1]; exact .mk0 s2 o, by rw [hy.2]; exact .int _⟩⟩, fun hi => by
    rw [upC_length] at hi; exact hi⟩
def rgcOk (i j c : Int) : Bool := decide (c ≠ 0) && decide (c.natAbs < 1073741824) && Builtin.Range.small i j c && decide (Builtin.Range.rangeSize i j c = ((Builtin.Range.rangeSize i j c).toNat : Int))
def rg3 : D → D → D → Option (List D)
  | .int i, .int j, .int c => if rgcOk i j c = true then some (upC i c (Builtin.Range.rangeSize i j c).toNat) else none
  | _, _, _ => none
def itR3 (f g h : EF) : AF := fun ρ => bnd (f ρ) fun d => bnd (g ρ) fun e => bnd (h ρ) fun k => opt (rg3 d e k)
theorem i_range3 (hm : X.mg "range" = none) (h1 : PE X a (tB X.K f)) (h2 : PE X b (tB X.K g)) (h3 : PE X c (tB X.K h)) (hg : Gl X "range" := by rfl)
    (na : starEach [a, b, c] X.env = (false, eval a X.env) :: starEach [b, c] X.env := by rfl) (nb : starEach [b, c] X.env = (false, eval b X.env) :: starEach [c] X.env := by rfl) (nc : starEach [c] X.env = (false, eval c X.env) :: starEach [] X.env := by rfl)
    (hpl : (backTo pos (starEach [b, c] X.env)).any (·.1) = false := by rfl) : PI X tg (.Call (.Name "range" p) [a, b, c] [] pos) (tI X.K (itR3 f g h)) :=
  pi_weak (pi_range3 hg hm (pa_cons h1 (pa_cons h2 (pa_cons h3 pa_nil nc) nb) na) na hpl) fun σ H R ⟨c, F, ρ, ω, d, ω', w, e, k⟩ => by
    obtain ⟨x, ω1, e1, e⟩ := bnd_some e
    obtain ⟨y, ω2, e2, e⟩ := bnd_some e
    obtain ⟨z, ω3, e3, e⟩ := bnd_some e
    obtain ⟨e4, rfl⟩ := opt_some e
    refine ⟨c, F, ρ, ω, x, _, w, e1, fun F1 H1 v p1 r1 => ⟨c, F1, ρ, ω1, y, _, w.ext p1, e2, fun F2 H2 u p2 r2 => ⟨c, F2, ρ, ω2, z, _, (w.ext p1).ext p2, e3, fun F3 H3 t p3 r3 => ?_⟩⟩⟩
    unfold rg3 at e4
    split at e4
    · split at e4
      · rename_i hj
        simp only [rgcOk, Bool.and_eq_true, decide_eq_true_eq] at hj
        cases e4
        cases r1.int
        cases r2.int
        cases r3.int
        exact ⟨_, _, _, _, rfl, ⟨hj.1.1.1, hj.1.1.2, hj.1.2, hj.2⟩, k F3 H3 _ ((p1.trans p2).trans p3) itOk_rangeC⟩
      · cases e4
    · cases e4

/-! ### reversed(x) walked -/
def itV' (f : EF) : AF := fun ρ => bnd (f ρ) fun d => opt ((seqD d).map List.reverse)
theorem rev_get {α : Type} (ds : List α) (i : Nat) (h : i < ds.length) : ds.reverse[i]? = ds[ds.length - 1 - i]? := by
  rw [List.getElem?_reverse h]
theorem i_rev (hm : X.mg "reversed" = none) (h : PE X a (tE X.K f)) (hg : Gl X "reversed" := by rfl) (hs : starEach [a] X.env = (false, eval a X.env) :: starEach [] X.env := by rfl) : PI X tg (.Call (.Name "reversed" p) [a] [] pos) (tI X.K (itV' f)) :=
  pi_weak (RT.pi_revA hg hm h hs) fun σ H R ⟨c, F, ρ, ω, d, ω', w, e, k⟩ => by
    obtain ⟨x, ω1, e1, e⟩ := bnd_some e
    obtain ⟨e2, rfl⟩ := opt_some e
    rw [Option.map_eq_some_iff] at e2
    obtain ⟨ds, e3, rfl⟩ := e2
    refine ⟨c, F, ρ, ω, x, _, w, e1, fun F1 H1 v p1 r1 => ?_⟩
    obtain ⟨a, vs, rfl, rr, h | h⟩ := r1.seq e3
    · refine ⟨a, vs, rfl, .inl ⟨.inl (.inl (p1.le _ _ h)), k F1 H1 _ p1 fun F2 H2 ω2 s1 s2 o i => ⟨fun d hd => ?_, fun hi => ?_⟩⟩⟩
      · have hlt : i < ds.length := by
          have := (List.getElem?_eq_some_iff.mp hd).1
          rw [List.length_reverse] at this; exact this
        rw [rev_get ds i hlt, ← rr.length] at hd
        obtain ⟨u, h1, h2⟩ := rr.get hd
        have hq := sql_inj (K := X.K) (s2 _ _ (s1 _ _ h))
        exact ⟨⟨by rw [rr.length]; exact hlt, vs, u, hq, h1⟩, fun x H3 hy => ⟨F2, by rw [hy.1]; exact .mk0 s2 o, by
          have := hy.2 _ hq
          rw [h1] at this
          cases this
          exact h2.mono s1⟩⟩
      · rw [List.length_reverse] at hi
        show vs.length ≤ i
        rw [rr.length]; exact hi
    · refine ⟨a, vs, rfl, .inr ⟨same_sqt p1.le h, k F1 H1 _ p1 fun F2 H2 ω2 s1 s2 o i => ⟨fun d hd => ?_, fun hi => ?_⟩⟩⟩
      · have hlt : i < ds.length := by
          have := (List.getElem?_eq_some_iff.mp hd).1
          rw [List.length_reverse] at this; exact this
        rw [rev_get ds i hlt, ← rr.length] at hd
        obtain ⟨u, h1, h2⟩ := rr.get hd
        have hq := same_sqt s2 (same_sqt s1 h)
        exact ⟨⟨by rw [rr.length]; exact hlt, vs, u, hq, h1⟩, fun x H3 hy => ⟨F2, by rw [hy.1]; exact .mk0 s2 o, by
          have := hy.2 _ hq
          rw [h1] at this
          cases this
          exact h2.mono s1⟩⟩
      · rw [List.length_reverse] at hi
        show vs.length ≤ i
        rw [rr.length]; exact hi

/-! ### zip of two lists or of two tuples -/
def zipD : List D → List D → List D
  | x :: xs, y :: ys => .tup [x, y] :: zipD xs ys
  | _, _ => []
theorem zipD_get : ∀ (xs ys : List D) (i : Nat) (d : D), (zipD xs ys)[i]? = some d → ∃ x y, xs[i]? = some x ∧ ys[i]? = some y ∧ d = .tup [x, y]
  | [], _, i, d, h => by simp [zipD] at h
  | _ :: _, [], i, d, h => by simp [zipD] at h
  | x :: xs, y :: ys, 0, d, h => by simp [zipD] at h; exact ⟨x, y, rfl, rfl, h.symm⟩
  | x :: xs, y :: ys, i + 1, d, h => by
    obtain ⟨a, b, h1, h2, h3⟩ := zipD_get xs ys i d (by simpa [zipD] using h)
    exact ⟨a, b, by simpa using h1, by simpa using h2, h3⟩
theorem zipD_end : ∀ (xs ys : List D) (i : Nat), (zipD xs ys).length ≤ i → xs.length ≤ i ∨ ys.length ≤ i
  | [], _, i, _ => .inl (Nat.zero_le _)
  | _ :: _, [], i, _ => .inr (Nat.zero_le _)
  | x :: xs, y :: ys, 0, h => by simp [zipD] at h
  | x :: xs, y :: ys, i + 1, h => by
    rcases zipD_end xs ys i (by simpa [zipD] using h) with h | h
    · exact .inl (by simpa using h)
    · exact .inr (by simpa using h)
def zipO : List D → Option (List D)
  | [.lst a, .lst b] => some (zipD a b)
  | [.tup a, .tup b] => some (zipD a b)
  | _ => none
def itZ (g : AF) : AF := fun ρ => bnd (g ρ) fun ds => opt (zipO ds)
theorem i_zip {b : Expr} {g : AF} (hm : X.mg "zip" = none) (ha : PA X [a, b] (tAE X.K g)) (hg : Gl X "zip" := by rfl) (hs : starEach [a, b] X.env = (false, eval a X.env) :: starEach [b] X.env := by rfl) (hpl : (backTo pos (starEach [b] X.env)).any (·.1) = false := by rfl) :
    PI X (.Tuple elts kk tpos) (.Call (.Name "zip" p) [a, b] [] pos) (tI X.K (itZ g)) :=
  pi_weak (RZ.pi_zipA hg hm ha hs hpl) fun σ H R ⟨c, F, ρ, ω, d, ω', w, e, k⟩ => by
    obtain ⟨x, ω1, e1, e⟩ := bnd_some e
    obtain ⟨e2, rfl⟩ := opt_some e
    refine ⟨c, F, ρ, ω, x, _, w, e1, fun F1 H1 vs p1 r1 => ?_⟩
    unfold zipO at e2
    split at e2
    · cases e2
      cases r1 with
      | cons ra r1 =>
        cases r1 with
        | cons rb r1 =>
          cases r1
          cases ra with
          | lst ha ra =>
            cases rb with
            | lst hb rb =>
              refine ⟨_, _, _, _, rfl, .inl ⟨sql_inj (p1.le _ _ ha), sql_inj (p1.le _ _ hb), k F1 H1 _ p1 fun F2 H2 ω2 s1 s2 o i => ⟨fun d hd => ?_, fun hi => ?_⟩⟩⟩
              · obtain ⟨x, y, h1, h2, rfl⟩ := zipD_get _ _ _ _ hd
                obtain ⟨u, g1, g2⟩ := ra.get h1
                obtain ⟨t, g3, g4⟩ := rb.get h2
                have qa := sql_inj (K := X.K) (s2 _ _ (s1 _ _ ha))
                have qb := sql_inj (K := X.K) (s2 _ _ (s1 _ _ hb))
                refine ⟨⟨_, _, u, t, qa, qb, g1, g3⟩, fun x H3 hy => ?_⟩
                obtain ⟨T, x', y', rfl, hT, rfl, e1, e2⟩ := hy
                have f1 := e1 _ qa
                have f2 := e2 _ qb
                rw [g1] at f1
                rw [g3] at f2
                cases f1
                cases f2
                exact ⟨_, Post.alloc s2 o hT, .tup (.inl (.inl upd_same)) (.cons ((g2.mono s1).mono (same_new (same_none s2 hT))) (.cons ((g4.mono s1).mono (same_new (same_none s2 hT))) .nil))⟩
              · rcases zipD_end _ _ _ hi with h | h
                · exact ⟨_, _, sql_inj (s2 _ _ (s1 _ _ ha)), sql_inj (s2 _ _ (s1 _ _ hb)), .inl (by rw [ra.length]; exact h)⟩
                · exact ⟨_, _, sql_inj (s2 _ _ (s1 _ _ ha)), sql_inj (s2 _ _ (s1 _ _ hb)), .inr (by rw [rb.length]; exact h)⟩
    · cases e2
      cases r1 with
      | cons ra r1 =>
        cases r1 with
        | cons rb r1 =>
          cases r1
          cases ra with
          | tup ha ra =>
            cases rb with
            | tup hb rb =>
              refine ⟨_, _, _, _, rfl, .inr ⟨same_sqt p1.le ha, same_sqt p1.le hb, k F1 H1 _ p1 fun F2 H2 ω2 s1 s2 o i => ⟨fun d hd => ?_, fun hi => ?_⟩⟩⟩
              · obtain ⟨x, y, h1, h2, rfl⟩ := zipD_get _ _ _ _ hd
                obtain ⟨u, g1, g2⟩ := ra.get h1
                obtain ⟨t, g3, g4⟩ := rb.get h2
                have qa := same_sqt s2 (same_sqt s1 ha)
                have qb := same_sqt s2 (same_sqt s1 hb)
                refine ⟨⟨_, _, u, t, qa, qb, g1, g3⟩, fun x H3 hy => ?_⟩
                obtain ⟨T, x', y', rfl, hT, rfl, e1, e2⟩ := hy
                have f1 := e1 _ qa
                have f2 := e2 _ qb
                rw [g1] at f1
                rw [g3] at f2
                cases f1
                cases f2
                exact ⟨_, Post.alloc s2 o hT, .tup (.inl (.inl upd_same)) (.cons ((g2.mono s1).mono (same_new (same_none s2 hT))) (.cons ((g4.mono s1).mono (same_new (same_none s2 hT))) .nil))⟩
              · rcases zipD_end _ _ _ hi with h | h
                · exact ⟨_, _, same_sqt s2 (same_sqt s1 ha), same_sqt s2 (same_sqt s1 hb), .inl (by rw [ra.length]; exact h)⟩
                · exact ⟨_, _, same_sqt s2 (same_sqt s1 ha), same_sqt s2 (same_sqt s1 hb), .inr (by rw [rb.length]; exact h)⟩
    · cases e2
end
end FL
end
section
/-! FL: enumerate of lists and tuples; tuple * int. -/
namespace FL
open PySem PySem.Spec PyProof.Rows L2
open AutoSeq1 (wpAny_loadPart')

set_option maxHeartbeats 1000000 in
theorem meets_enumerate_newB1 {v : Value} {o : Obj} {H : Heap → Prop} (B : Begins v o H) :
    Meets (Builtin.«enumerate.__new__» ⟨[.type "enumerate", v], []⟩) (fun _ R s => H s.heap ∧
      R (.ok (.ret (.ref (s.heap.push o).objs.size))) { s with heap := (s.heap.push o).push { cls := .type "enumerate", data := .fields #[.none, .bool false, .ref s.heap.objs.size, rawInt 0, .none, .none] } }) :=
  .of_wp fun prog w A R s h => by
    obtain ⟨hp, g, d, tk, os⟩ := s; obtain ⟨h1, h⟩ := h
    have hsub := sub_enumerate
    have q1 : ∀ {A' : Around} {E : Value → Shared → Prop} {Q : Value → Shared → Prop}, Q (.ref hp.objs.size) ⟨hp.push o, g, d, tk, os⟩ → wpAny (model prog w) A' (pyIter v) Q E ⟨hp, g, d, tk, os⟩ :=
      fun q => B.iter prog w _ _ ⟨hp, g, d, tk, os⟩ _ h1 q
    wp_walk using q1
    refine wpAny_stack_any fun st => wpAny_pure ?_
    split
    · rename_i c _ _ _ _ _
      cases (c == Value.type "enumerate")
      · wp_walk using q1
        exact ⟨_, rfl, h⟩
      · wp_walk using q1
        exact ⟨_, rfl, h⟩
    · wp_walk using q1
      exact ⟨_, rfl, h⟩
section
variable {prog : Program} {w : World} {A : Around} {E : Value → Shared → Prop} {s : Shared}
theorem enum_begins1 {v : Value} {o : Obj} {H : Heap → Prop} {Q : Value → Shared → Prop} (B : Begins v o H) (h1 : H s.heap)
    (h : ∀ h', IsEnum h' (s.heap.objs.size + 1) s.heap.objs.size 0 .none → h'.get? s.heap.objs.size = some o → h'.objs.size = s.heap.objs.size + 2 →
      (∀ b o, s.heap.get? b = some o → h'.get? b = some o) → Q (.ref (s.heap.objs.size + 1)) { s with heap := h' }) :
    wpAny (model prog w) A (call (.type "enumerate") [v]) Q E s := by
  refine callType_new F.called_enumerate (by decide) (F.typeCall_enumerate_1 _) (F.newCall_enumerate_1 _) (fun obj => F.args_object_init_2 obj _) F.entry_enumerate_new
    (meets_enumerate_newB1 B) ⟨h1, ?_⟩
  have hz : (s.heap.push o).objs.size = s.heap.objs.size + 1 := Heap.size_push ..
  show _ ∧ _
  rw [hz]
  have he : IsEnum ((s.heap.push o).push { cls := .type "enumerate", data := .fields #[.none, .bool false, .ref s.heap.objs.size, rawInt 0, .none, .none] }) (s.heap.objs.size + 1) s.heap.objs.size 0 .none := by
    have := Heap.get?_push_size (s.heap.push o) (o := { cls := .type "enumerate", data := .fields #[.none, .bool false, .ref s.heap.objs.size, rawInt 0, .none, .none] }) rfl
    rw [hz] at this; exact this
  refine ⟨⟨_, he, rfl⟩, h _ he (Heap.get?_push_of_some _ (Heap.get?_push_size _ B.free)) (by rw [Heap.size_push, hz]) fun b o x => Heap.get?_push_of_some _ (Heap.get?_push_of_some _ x)⟩
end
/-- the tuple at a, each item in a new pair -/
def IteT (K : PySem.W.Frag) (a : Addr) : It :=
  ⟨fun i H => ∃ (xs : List V) (x : V), SqT K H a xs ∧ xs[i]? = some x, fun i H v H' => ∃ T x, v = .ref T ∧ H T = none ∧ H' = upd H T (.tup [.int (i : Nat), x]) ∧ ∀ xs, SqT K H a xs → xs[i]? = some x, fun i H => ∃ xs : List V, SqT K H a xs ∧ xs.length ≤ i⟩
theorem turn_enumT {P : Program} {w : World} {K : PySem.W.Frag} {elts : List Expr} {kk : Nat} {tpos : Pos} (a e it : Addr) :
    Turn P w K (.Tuple elts kk tpos) (IteT K a) [e, it] e (fun i h => (∃ old, IsEnum h e it ((i : Nat) : Int) old) ∧ h.IsTupleIter it a i ∧ e ≠ it) where
  mem := by simp
  obj := fun i h st b hb => by
    obtain ⟨⟨old, he⟩, ⟨o, ho, hc, hd⟩, _⟩ := st
    have e' : b = e ∨ b = it := by simpa using hb
    rcases e' with z | z
    · rw [z]; exact ⟨_, he, fun v q => nomatch q⟩
    · rw [z]; exact ⟨o, ho, fun v q => by rw [hd] at q; cases q⟩
  keep := fun i h h' st k => let ⟨⟨old, he⟩, hi, hne⟩ := st; ⟨⟨old, k e (by simp) _ he⟩, hi.at fun o q => k it (by simp) o q, hne⟩
  item := by
    intro X hP hw hK hc i pins s σ H E I hf st hg
    subst hP hw hK
    obtain ⟨⟨old, he⟩, hit, hne⟩ := st
    obtain ⟨xs, x, hq, hx⟩ := hg
    obtain ⟨its, rv, p, hz⟩ := I.tuple hq
    obtain ⟨u, hu, ru⟩ := rv.get hx
    have hel : e < s.heap.objs.size := Heap.lt_size he
    have hil : it < s.heap.objs.size := by obtain ⟨_, q, _⟩ := hit; exact Heap.lt_size q
    have pt : s.heap.IsTuple a its.toArray := p
    have nea : a ≠ it := by
      rintro rfl
      obtain ⟨o, h1, h2, _⟩ := hit
      obtain ⟨o', h3, h4, _⟩ := pt
      rw [h1] at h3; cases h3; rw [h2] at h4; injection h4 with z; exact absurd z (by decide)
    have nee : e ≠ a := by
      rintro rfl
      obtain ⟨o', h3, h4, _⟩ := pt
      have h3' := (show s.heap.get? e = some _ from he).symm.trans h3
      have hc := congrArg Obj.cls (Option.some.inj h3')
      rw [h4] at hc
      have hc' : Value.type "enumerate" = Value.type "tuple" := hc
      injection hc' with z
      exact absurd z (by decide)
    have hlt : i < its.toArray.size := by
      have := (List.getElem?_eq_some_iff.mp hu).1
      simpa using this
    refine wpAny_pyNext_enum_itemD (Draws.tuple (A := X.A.in1) (prog := X.prog) (w := X.w) (I.ok.hd hc) it a nea its.toArray) he ⟨hit, pt⟩ hlt hne (by simp [hne, nee]) fun u' h' tk hu' ho hst' hT hsz hk => ?_
    have eu : u' = u := by
      have h1 : its.toArray[i]? = some u' := hu'
      rw [List.getElem?_toArray, hu] at h1
      exact (Option.some.inj h1).symm
    subst eu
    refine ⟨_, rfl, wpAny_letOwnedTupleGo_enum (s := { s with heap := h', toks := tk + 1 }) ho fun h'' he' sb => ?_⟩
    have hT2 : h''.get? s.heap.objs.size = some { cls := .type "tuple", data := .seq #[.int i tk, u'] } := (sb.2 _ (Nat.ne_of_gt hel)).trans hT
    have new : ObjOk X.prog X.w (upd H s.heap.objs.size (.tup [.int (i : Nat), x])) h'' s.heap.objs.size (.tup [.int (i : Nat), x]) :=
      ⟨by show 2 ≤ sizeLine; decide, [.int i tk, u'], .cons ⟨_, rfl⟩ (.cons ru .nil), ⟨_, hT2, rfl, _, rfl⟩⟩
    have I1 : Inv X pins σ (upd H s.heap.objs.size (.tup [.int (i : Nat), x])) { s with heap := h'', toks := tk + 1 } :=
      I.turnedNew (ch := [e, it]) (fun b ob hb q => (sb.2 b (fun z => hb (by simp [z]))).trans (hk b ob (fun z => hb (by simp [z])) (fun z => hb (by simp [z])) q)) hf (Nat.le_refl _) new
    refine ⟨.ref s.heap.objs.size, _, I1, rfl, ⟨_, x, rfl, I.hok.fresh (Nat.le_refl _), rfl, fun ys hy => by rw [I.tuple_inj hy hq]; exact hx⟩, ⟨⟨u', ?_⟩, hst'.1.at fun o q => (sb.2 it (Ne.symm hne)).trans q, hne⟩, fun b hb => ?_⟩
    · have e1 : ((i + 1 : Nat) : Int) = (i : Int) + 1 := by omega
      rw [e1]; exact he'
    · have hb' : b < s.heap.objs.size := by
        have e' : b = e ∨ b = it := by simpa using hb
        rcases e' with z | z
        · rw [z]; exact hel
        · rw [z]; exact hil
      rw [upd_ne (Nat.ne_of_lt hb')]
      exact (hf b hb).1
  done := by
    intro X hP hw hK hc i pins s σ H E I hf st hg
    subst hP hw hK
    obtain ⟨⟨old, he⟩, hit, hne⟩ := st
    obtain ⟨xs, hq, hx⟩ := hg
    obtain ⟨its, rv, p, hz⟩ := I.tuple hq
    obtain ⟨f0, f1, f2, f3, f4, f5⟩ := hf it (by simp)
    have hl := rv.length
    have pt : s.heap.IsTuple a its.toArray := p
    unfold pyNext
    have hT : s.TypeIs (.ref e) "enumerate" := ⟨_, he, rfl⟩
    refine wpAny_bind (wpAny_attempt (wpAny_callSpecial?_slot (name := Str.ofString "__next__") hT F.slot_enumerate_next
      (wpAny_call_entry F.slot_enumerate_next hT F.entry_enumerate_next ?_ (F.args_enumerate_next_1 _))))
    show wpAny _ _ (field (.ref e) 2 >>= _) _ _ _
    refine wpAny_bind (wpAny_field he rfl (x := .ref it) rfl ?_)
    refine wpAny_bind (wpAny_nextOf_tuple_end (I.ok.hd hc) hit pt (by simp; omega) fun h' x eb hx' => ?_)
    obtain ⟨o, ho, hc'⟩ := hx'
    refine wpAny_bind (wpAny_isInstance (T := "StopIteration") (b := true) ⟨o, ho, hc'⟩ isSubtype_stop ?_)
    exact wpAny_pure ⟨rfl, I.turned (t' := s.toks) (fun b o hb q => eb b o hb q) f0 f1 f3 f4 f5⟩
  self := fun A i s Q E st h => let ⟨⟨_, he⟩, _⟩ := st; wpAny_pyIter_enum he h
def iEnumA (K : PySem.W.Frag) (ta : TA) : TI := fun σ H R => ta σ H fun vs H1 => ∃ a xs, vs = [.ref a] ∧ ((SqL K H1 a xs ∧ R (Ite K a) H1) ∨ (SqT K H1 a xs ∧ R (IteT K a) H1))
section
variable {X : Cx} {e a : Expr} {ta : TA} {p pos tpos : Pos} {elts : List Expr} {kk : Nat} {f : EF}
theorem pi_enumA (hg : Gl X "enumerate") (hm : X.mg "enumerate" = none) (ha : PA X [e] ta) (hs : starEach [e] X.env = [(false, eval e X.env)] := by rfl) :
    PI X (.Tuple elts kk tpos) (.Call (.Name "enumerate" p) [e] [] pos) (iEnumA X.K ta) := by
  refine ⟨fun pins s σ H R I h => ?_⟩
  refine Call_ (ld_blt I hg hm boot_enumerate (PyProof.Rows.callWith_type1 (thn (ha.run pos pins s σ H _ I h) fun us s1 ⟨vs, H1, I1, r1, q1⟩ => ?_) hs rfl))
  obtain ⟨a, xs, ex, q⟩ := q1
  subst ex
  cases r1 with
  | cons r rr =>
    cases rr
    cases r
    rcases q with ⟨hq, q⟩ | ⟨hq, q⟩
    · obtain ⟨its, rv, p', hz⟩ := I1.list hq
      refine call_enumerate_list p'.isList fun h' he hit hsz hk => wpAny_pyIter_enum he ?_
      have I2 : Inv X pins σ H1 { s1 with heap := h' } := I1.kept (t' := s1.toks) hk
      refine ⟨s1.heap.objs.size + 1, [s1.heap.objs.size + 1, s1.heap.objs.size], _, _, H1, rfl, I2, turn_enum a (s1.heap.objs.size + 1) s1.heap.objs.size, ⟨⟨.none, he⟩, hit, Nat.succ_ne_self _⟩, fun b hb => ?_, q⟩
      have e' : b = s1.heap.objs.size + 1 ∨ b = s1.heap.objs.size := by simpa using hb
      have hle : s1.heap.objs.size ≤ b := by
        rcases e' with z | z
        · rw [z]; exact Nat.le_add_right _ _
        · rw [z]; exact Nat.le_refl _
      exact I1.fpOk hle (I1.hok.fresh hle)
    · obtain ⟨its, rv, p', hz⟩ := I1.tuple hq
      refine enum_begins1 (begins_tuple a its.toArray) (show s1.heap.IsTuple a its.toArray from p') fun h' he hit hsz hk => wpAny_pyIter_enum he ?_
      have I2 : Inv X pins σ H1 { s1 with heap := h' } := I1.kept (t' := s1.toks) hk
      refine ⟨s1.heap.objs.size + 1, [s1.heap.objs.size + 1, s1.heap.objs.size], _, _, H1, rfl, I2, turn_enumT a (s1.heap.objs.size + 1) s1.heap.objs.size, ⟨⟨.none, he⟩, ⟨_, hit, rfl, rfl⟩, Nat.succ_ne_self _⟩, fun b hb => ?_, q⟩
      have e' : b = s1.heap.objs.size + 1 ∨ b = s1.heap.objs.size := by simpa using hb
      have hle : s1.heap.objs.size ≤ b := by
        rcases e' with z | z
        · rw [z]; exact Nat.le_add_right _ _
        · rw [z]; exact Nat.le_refl _
      exact I1.fpOk hle (I1.hok.fresh hle)
def enumD (k : Nat) : List D → List D
  | [] => []
  | d :: ds => .tup [.int (k : Nat), d] :: enumD (k + 1) ds
theorem enumD_length : ∀ (ds : List D) (k : Nat), (enumD k ds).length = ds.length
  | [], _ => rfl
  | _ :: ds, k => congrArg (· + 1) (enumD_length ds (k + 1))
theorem enumD_get : ∀ (ds : List D) (k i : Nat) (d : D), (enumD k ds)[i]? = some d → ∃ x, ds[i]? = some x ∧ d = .tup [.int ((k + i : Nat) : Int), x]
  | [], k, i, d, h => by simp [enumD] at h
  | x :: ds, k, 0, d, h => by simp [enumD] at h; exact ⟨x, rfl, h.symm⟩
  | x :: ds, k, i + 1, d, h => by
    obtain ⟨y, h1, h2⟩ := enumD_get ds (k + 1) i d (by simpa [enumD] using h)
    exact ⟨y, by simpa using h1, by rw [h2, Nat.add_right_comm, Nat.add_assoc]⟩
def itEn (f : EF) : AF := fun ρ => bnd (f ρ) fun d => opt ((seqD d).map (enumD 0))
def onlyO (f : EF) : AF := fun ρ => bnd (f ρ) fun x => ret [x]
theorem ae_one (ha : PE X a (tE X.K f)) (hs : starEach [a] X.env = (false, eval a X.env) :: starEach [] X.env := by rfl) : PA X [a] (tAE X.K (onlyO f)) :=
  pa_weak (pa_cons ha pa_nil hs) fun σ H Q ⟨c, F, ρ, ω, d, ω', w, e, q⟩ => by
    obtain ⟨x, ω1, e1, e⟩ := bnd_some e
    obtain ⟨rfl, rfl⟩ := ret_some e
    exact ⟨c, F, ρ, ω, x, _, w, e1, fun F1 H1 v p1 r1 => q F1 H1 _ p1 (.cons r1 .nil)⟩
theorem i_enum (hm : X.mg "enumerate" = none) (ha : PE X a (tE X.K f)) (hg : Gl X "enumerate" := by rfl) (na : starEach [a] X.env = (false, eval a X.env) :: starEach [] X.env := by rfl) (hs : starEach [a] X.env = [(false, eval a X.env)] := by rfl) :
    PI X (.Tuple elts kk tpos) (.Call (.Name "enumerate" p) [a] [] pos) (tI X.K (itEn f)) :=
  pi_weak (pi_enumA hg hm (ae_one ha na) hs) fun σ H R ⟨c, F, ρ, ω, d, ω', w, e, k⟩ => by
    obtain ⟨x, ω1, e1, e⟩ := bnd_some e
    obtain ⟨e2, rfl⟩ := opt_some e
    rw [Option.map_eq_some_iff] at e2
    obtain ⟨ds, e3, rfl⟩ := e2
    refine ⟨c, F, ρ, ω, [x], ω', w, ?_, fun F1 H1 vs p1 r1 => ?_⟩
    · unfold onlyO bnd; rw [e1]; rfl
    · cases r1 with
      | cons r1 rr =>
        cases rr
        obtain ⟨a, vs, rfl, rr, h | h⟩ := r1.seq e3
        · refine ⟨a, vs, rfl, .inl ⟨sql_inj (p1.le _ _ h), k F1 H1 _ p1 fun F2 H2 ω2 s1 s2 o i => ⟨fun d hd => ?_, fun hi => ?_⟩⟩⟩
          · obtain ⟨y, h1, rfl⟩ := enumD_get ds 0 i d hd
            obtain ⟨u, g1, g2⟩ := rr.get h1
            have hq := sql_inj (K := X.K) (s2 _ _ (s1 _ _ h))
            refine ⟨⟨_, u, hq, g1⟩, fun x H3 hy => ?_⟩
            obtain ⟨T, x', rfl, hT, rfl, e1⟩ := hy
            have f1 := e1 _ hq
            rw [g1] at f1
            cases f1
            refine ⟨_, Post.alloc s2 o hT, .tup (.inl (.inl upd_same)) (.cons ?_ (.cons ((g2.mono s1).mono (same_new (same_none s2 hT))) .nil))⟩
            rw [Nat.zero_add]; exact .int _
          · rw [enumD_length] at hi
            exact ⟨_, sql_inj (s2 _ _ (s1 _ _ h)), by rw [rr.length]; exact hi⟩
        · refine ⟨a, vs, rfl, .inr ⟨same_sqt p1.le h, k F1 H1 _ p1 fun F2 H2 ω2 s1 s2 o i => ⟨fun d hd => ?_, fun hi => ?_⟩⟩⟩
          · obtain ⟨y, h1, rfl⟩ := enumD_get ds 0 i d hd
            obtain ⟨u, g1, g2⟩ := rr.get h1
            have hq := same_sqt s2 (same_sqt s1 h)
            refine ⟨⟨_, u, hq, g1⟩, fun x H3 hy => ?_⟩
            obtain ⟨T, x', rfl, hT, rfl, e1⟩ := hy
            have f1 := e1 _ hq
            rw [g1] at f1
            cases f1
            refine ⟨_, Post.alloc s2 o hT, .tup (.inl (.inl upd_same)) (.cons ?_ (.cons ((g2.mono s1).mono (same_new (same_none s2 hT))) .nil))⟩
            rw [Nat.zero_add]; exact .int _
          · rw [enumD_length] at hi
            exact ⟨_, same_sqt s2 (same_sqt s1 h), by rw [rr.length]; exact hi⟩
end
end FL
end
section
/-! FL: draws, the law's end. -/
namespace FL
open PySem PySem.Spec PyProof.Rows L2

/-! ### draws -/
def dropZ : List Int → List Int
  | [] => []
  | x :: r => if x = 0 then dropZ r else x :: r
def drawF (ω : Ora) (m : Int) : Int × Ora := match dropZ ω.1 with
  | v :: r => (v % m, (v / m :: r, ω.2))
  | [] => ((ω.2 * 48271 + 12345) % 2147483647 / 64 % m, ([], (ω.2 * 48271 + 12345) % 2147483647))
def drawM : List D → M D := fun ds => match ds with
  | [.tok, .int m] => fun ω => if (decide (0 < m) && decide (m.natAbs < 2 ^ 8000)) = true then some (.int (drawF ω m).1, (drawF ω m).2) else none
  | _ => fun _ => none
theorem drawM_some {ds : List D} {ω ω' : Ora} {d : D} (h : drawM ds ω = some (d, ω')) : ∃ m, ds = [.tok, .int m] ∧ 0 < m ∧ m.natAbs < 2 ^ 8000 ∧ d = .int (drawF ω m).1 ∧ ω' = (drawF ω m).2 := by
  unfold drawM at h
  split at h
  · split at h
    · rename_i m hm
      simp only [Bool.and_eq_true, decide_eq_true_eq] at hm
      cases h
      exact ⟨m, rfl, hm.1, hm.2, rfl, rfl⟩
    · cases h
  · cases h
theorem drawF_range (ω : Ora) {m : Int} (h : 0 < m) : 0 ≤ (drawF ω m).1 ∧ (drawF ω m).1 < m := by
  unfold drawF
  split
  · exact ⟨Int.emod_nonneg _ (by omega), Int.emod_lt_of_pos _ h⟩
  · exact ⟨Int.emod_nonneg _ (by omega), Int.emod_lt_of_pos _ h⟩

/-! ### total correctness over all draws -/
def Tr {α : Type} (m : M α) (P : α → Prop) : Prop := ∀ ω, ∃ a ω', m ω = some (a, ω') ∧ P a
theorem Tr.ret {α : Type} {P : α → Prop} {a : α} (h : P a) : Tr (FL.ret a) P := fun ω => ⟨a, ω, rfl, h⟩
theorem Tr.opt {α : Type} {P : α → Prop} {o : Option α} {a : α} (e : o = some a) (h : P a) : Tr (FL.opt o) P := fun ω => ⟨a, ω, by rw [e]; rfl, h⟩
theorem Tr.bnd {α β : Type} {P : β → Prop} {m : M α} {k : α → M β} {R : α → Prop} (h : Tr m R) (h2 : ∀ a, R a → Tr (k a) P) : Tr (FL.bnd m k) P := fun ω => by
  obtain ⟨a, ω1, e1, r⟩ := h ω
  obtain ⟨b, ω2, e2, p⟩ := h2 a r ω1
  exact ⟨b, ω2, by unfold FL.bnd; rw [e1]; exact e2, p⟩
theorem Tr.mono {α : Type} {m : M α} {P R : α → Prop} (h : Tr m P) (i : ∀ a, P a → R a) : Tr m R := fun ω => let ⟨a, ω', e, p⟩ := h ω; ⟨a, ω', e, i a p⟩
theorem Tr.draw {m : Int} {P : D → Prop} (h0 : 0 < m) (h1 : m.natAbs < 2 ^ 8000) (h : ∀ r : Int, 0 ≤ r → r < m → P (.int r)) : Tr (drawM [.tok, .int m]) P := fun ω => by
  refine ⟨_, (drawF ω m).2, ?_, h (drawF ω m).1 (drawF_range ω h0).1 (drawF_range ω h0).2⟩
  show (if _ then _ else _) = _
  rw [if_pos (by simp [h0, h1])]
theorem Tr.of_eq {α : Type} {m m' : M α} {P : α → Prop} (e : ∀ ω, m ω = m' ω) (h : Tr m' P) : Tr m P := fun ω => by rw [e ω]; exact h ω

/-! ### the law -/
def spState (K : PySem.W.Frag) : Sp := fun vs H Q _ => ∃ (a : Addr) (ns : List Int), vs = [.ref a] ∧ SqL K H a (ns.map V.int) ∧ ns.length ≤ 63 ∧
  ∀ H' s c (ω : Ora), s ≠ c → H' s = some (.lst [.ref c, .int ω.2]) → H' c = some (.lst (ω.1.map V.int)) → Q (.ref s) H'
def spLaw (K : PySem.W.Frag) : Sp := fun vs H Q _ => ∃ (a : Addr) (ns : List Int), vs = [.ref a] ∧ SqL K H a (ns.map V.int) ∧ ns.length ≤ 63 ∧ ∀ H', Q (.bl true) H'
def isTrue' : Out → Prop
  | .rt false (.bl true) => True
  | _ => False
theorem law_run {K : PySem.W.Frag} {s : SF} {n : Nat} (hs : Tr (s (.un :: .d .tok :: List.replicate n .un)) isTrue') {v0 : Option V} {rest : L2.St} (hr : rest.length = n) {a c : Addr} {ω : Ora} {H : Hp} {Q : VK} {nx : L2.St → Hp → Prop} (hne : a ≠ c) (ha : H a = some (.lst [.ref c, .int ω.2])) (hc : H c = some (.lst (ω.1.map V.int)))
    (hq : ∀ H', Q (.bl true) H') : tS K s { nx := nx, rt := Q } (v0 :: some (.ref a) :: rest) H := by
  obtain ⟨o, ω', e, ho⟩ := hs ω
  refine ⟨⟨some (a, c), fun _ => none, fun _ => none⟩, fun _ => none, _, ω, o, ω', ⟨⟨.refl _, fun _ _ => rfl, (fun _ _ z => nomatch z), (fun _ _ z => nomatch z), fun p hp => ?_⟩, ?_, fun i x hx => ?_, fun i x hx => ?_, fun i j x y _ hx _ => ?_⟩, e, ?_⟩
  · cases hp
    exact ⟨hne, rfl, rfl, ha, hc⟩
  · simp [hr]
  · cases i with
    | zero => cases hx
    | succ i =>
      cases i with
      | zero => cases hx; exact ⟨_, rfl, .tok rfl⟩
      | succ i =>
        have h1 : nth (List.replicate n SV.un) i = .d x := hx
        rw [nth_rep] at h1
        cases h1
  · cases i with
    | zero => cases hx
    | succ i =>
      cases i with
      | zero => cases hx
      | succ i =>
        have h1 : nth (List.replicate n SV.un) i = .o x := hx
        rw [nth_rep] at h1
        cases h1
  · cases i with
    | zero => cases hx
    | succ i =>
      cases i with
      | zero => cases hx
      | succ i =>
        have h1 : nth (List.replicate n SV.un) i = .o x := hx
        rw [nth_rep] at h1
        cases h1
  · cases o with
    | rt b d =>
      cases b with
      | false =>
        cases d with
        | bl k =>
          cases k with
          | true => intro F' H' v p r; cases r; exact hq H'
          | false => exact ho.elim
        | _ => exact ho.elim
      | true => exact ho.elim
    | _ => exact ho.elim
/-! the readings of the two defs of every law -/
section
variable {K : PySem.W.Frag} {H : Hp}
theorem dropZ_cons0 (r : List Int) : dropZ (0 :: r) = dropZ r := by simp [dropZ]
theorem dropZ_ne {x : Int} (r : List Int) (h : x ≠ 0) : dropZ (x :: r) = x :: r := by simp [dropZ, h]
end
end FL
end
section
/-! FL: in, pairs of names, unpacking. -/
namespace FL
open PySem PySem.Spec PyProof.Rows L2

theorem hu65 {k : Nat} {A : Around} (r : Room k A) : A.units + 65 < cLine := by have := r.un; omega
abbrev rInA (K : PySem.W.Frag) : R2 := fun x y H Q => rInD K x y H Q ∨ rIn K false x y H Q
abbrev rNotInA (K : PySem.W.Frag) : R2 := fun x y H Q => rNotInD K x y H Q ∨ rIn K true x y H Q
theorem op_inA {X : Cx} (hu : X.A.units + 65 < cLine) : OpR X (compareOp .In) (rInA X.K) := (op_inD hu).or op_in_seq
theorem op_notInA {X : Cx} (hu : X.A.units + 65 < cLine) : OpR X (compareOp .NotIn) (rNotInA X.K) := (op_notInD hu).or op_notIn_seq
def dInA (a b : D) : Option D := match b with
  | .tup _ => dInT a b
  | _ => dIn a b
def dNotInA (a b : D) : Option D := match b with
  | .tup _ => dNotInT a b
  | _ => dNotIn a b
theorem inA_pure {K : PySem.W.Frag} : Pure2 K (rInA K) dInA := by
  intro q F H ω x y a b d Q hs ho hx hy e k
  unfold dInA at e
  split at e
  · exact .inr (inT_pure q F H ω x y a _ d Q hs ho hx hy e k)
  · exact .inl (in_pure q F H ω x y a b d Q hs ho hx hy e k)
theorem notInA_pure {K : PySem.W.Frag} : Pure2 K (rNotInA K) dNotInA := by
  intro q F H ω x y a b d Q hs ho hx hy e k
  unfold dNotInA at e
  split at e
  · exact .inr (notInT_pure q F H ω x y a _ d Q hs ho hx hy e k)
  · exact .inl (notIn_pure q F H ω x y a b d Q hs ho hx hy e k)
def dAdd0 : D → D → Option D
  | .int i, .int j => some (.int (i + j))
  | _, _ => none
theorem add0_pure {K : PySem.W.Frag} : Pure2 K (rI0 fun i j => .int (i + j)) dAdd0 := by
  intro q F H ω x y a b d Q hs ho hx hy e k
  cases a <;> cases b <;> simp only [dAdd0, reduceCtorEq] at e
  cases e
  cases hx.int
  cases hy.int
  exact ⟨_, _, rfl, rfl, k F H _ (.mk0 hs ho) (.int _)⟩
/-! lengths that targets take -/
theorem gsLenN {g : GFs} {b : GF} {n : Nat} (h : ∀ ds ρ ρ', g ds ρ = some ρ' → ds.length = n) : ∀ ds ρ ρ', gsC b g ds ρ = some ρ' → ds.length = n + 1 := fun ds ρ ρ' e => by
  cases ds with
  | nil => cases e
  | cons d ds =>
    simp only [gsC, Option.bind_eq_some_iff] at e
    obtain ⟨ρ1, _, e2⟩ := e
    rw [List.length_cons, h ds ρ1 ρ' e2]
theorem gsLen0 : ∀ ds ρ ρ', gsN ds ρ = some ρ' → ds.length = 0 := fun ds ρ ρ' e => by
  cases ds with
  | nil => rfl
  | cons d ds => cases e
theorem gsLen1 {a : GF} : ∀ ds ρ ρ', gsC a gsN ds ρ = some ρ' → ds.length = 1 := gsLenN gsLen0
theorem gsLen2 {a b : GF} : ∀ ds ρ ρ', gsC a (gsC b gsN) ds ρ = some ρ' → ds.length = 2 := gsLenN gsLen1
theorem gsLen3 {a b c : GF} : ∀ ds ρ ρ', gsC a (gsC b (gsC c gsN)) ds ρ = some ρ' → ds.length = 3 := gsLenN gsLen2
theorem gsLen4 {a b c d : GF} : ∀ ds ρ ρ', gsC a (gsC b (gsC c (gsC d gsN))) ds ρ = some ρ' → ds.length = 4 := gsLenN gsLen3
section
variable {X : Cx} {e tg : Expr} {f g : EF} {is : List Nat} {b : GF} {pos : Pos}
/-- target = e, a tuple unpacked -/
def asgS (f : EF) (b : GF) : SF := fun ρ => bnd (f ρ) fun d => bnd (opt (b d ρ)) fun ρ' => ret (.nx ρ')
theorem s_asg (he : PE X e (tE X.K f)) (hg : PG X tg (tG X.K is b)) (hs : swapsWithSole [tg] e pos.line X.env = pure false := by rfl) (hw : swappedStores [tg] e X.env = pure none := by rfl)
    (h1 : (assignEach [tg] X.env).map (·.2) = [assign tg X.env] := by rfl) : PS X (.Assign [tg] e pos) (tS X.K (asgS f b)) := ps_weak (ps_asg he hg hs hw h1) fun D σ H ⟨c, F, ρ, ω, o, ω', w, e, k⟩ => by
  obtain ⟨d, ω1, e1, e⟩ := bnd_some e
  obtain ⟨ρ', ω2, e2, e⟩ := bnd_some e
  obtain ⟨rfl, rfl⟩ := ret_some e
  obtain ⟨e3, rfl⟩ := opt_some e2
  exact ⟨c, F, ρ, ω, d, _, w, e1, fun F1 H1 v p1 r1 => ⟨c, F1, ρ, _, d, ρ', w.ext p1, r1, e3, fun σ' w' _ _ => k F1 H1 σ' w'⟩⟩
/-- a, b = e1, e2: plain local names -/
def parS (i j : Nat) (f g : EF) : SF := fun ρ => bnd (f ρ) fun x => bnd (g ρ) fun y => ret (.nx (sset (sset ρ i (.d x)) j (.d y)))
variable {x y : Str} {e1 e2 : Expr} {px py pt pt2 : Pos} {kt k2 : Nat}
theorem s_par (i j : Nat) (hN : X.N.Nodup) (hij : i ≠ j) (h1 : PE X e1 (tE X.K f)) (h2 : PE X e2 (tE X.K g)) (hi : X.N[i]? = some x := by rfl) (hj : X.N[j]? = some y := by rfl)
    (hx : X.env.scope.names.lookup x = some .local := by rfl) (hy : X.env.scope.names.lookup y = some .local := by rfl) (hc : X.calm = true := by rfl)
    (hw : swappedStores [.Tuple [.Name x px, .Name y py] kt pt] (.Tuple [e1, e2] k2 pt2) X.env = pure (some [x, y]) := by rfl)
    (hs : swapsWithSole [.Tuple [.Name x px, .Name y py] kt pt] (.Tuple [e1, e2] k2 pt2) pos.line X.env = pure false := by rfl)
    (na : starEach [e1, e2] X.env = (false, eval e1 X.env) :: starEach [e2] X.env := by rfl) (nb : starEach [e2] X.env = (false, eval e2 X.env) :: starEach [] X.env := by rfl) :
    PS X (.Assign [.Tuple [.Name x px, .Name y py] kt pt] (.Tuple [e1, e2] k2 pt2) pos) (tS X.K (parS i j f g)) :=
  ps_weak (ps_par hc hN hi hj hij hx hy (pa_cons h1 (pa_cons h2 pa_nil nb) na) hw hs) fun D σ H ⟨c, F, ρ, ω, o, ω', w, e, k⟩ => by
    obtain ⟨x1, ω1, g1, e⟩ := bnd_some e
    obtain ⟨y1, ω2, g2, e⟩ := bnd_some e
    obtain ⟨rfl, rfl⟩ := ret_some e
    exact ⟨c, F, ρ, ω, x1, ω1, w, g1, fun F1 H1 v p1 r1 => ⟨c, F1, ρ, ω1, y1, _, w.ext p1, g2, fun F2 H2 u p2 r2 => ⟨v, u, rfl, k F2 H2 _ ((((w.ext p1).ext p2).set_d (r1.mono p2.le0) i).set_d r2 j)⟩⟩⟩
/-- both new lists -/
def parO (i j : Nat) (f g : EF) : SF := fun ρ => bnd (f ρ) fun x => bnd (g ρ) fun y => ret (.nx (sset (sset ρ i (.o x)) j (.o y)))
theorem s_parO (i j : Nat) (hN : X.N.Nodup) (hij : i ≠ j) (h1 : PE X e1 (tF X.K f)) (h2 : PE X e2 (tF X.K g)) (hi : X.N[i]? = some x := by rfl) (hj : X.N[j]? = some y := by rfl)
    (hx : X.env.scope.names.lookup x = some .local := by rfl) (hy : X.env.scope.names.lookup y = some .local := by rfl) (hc : X.calm = true := by rfl)
    (hw : swappedStores [.Tuple [.Name x px, .Name y py] kt pt] (.Tuple [e1, e2] k2 pt2) X.env = pure (some [x, y]) := by rfl)
    (hs : swapsWithSole [.Tuple [.Name x px, .Name y py] kt pt] (.Tuple [e1, e2] k2 pt2) pos.line X.env = pure false := by rfl)
    (na : starEach [e1, e2] X.env = (false, eval e1 X.env) :: starEach [e2] X.env := by rfl) (nb : starEach [e2] X.env = (false, eval e2 X.env) :: starEach [] X.env := by rfl) :
    PS X (.Assign [.Tuple [.Name x px, .Name y py] kt pt] (.Tuple [e1, e2] k2 pt2) pos) (tS X.K (parO i j f g)) :=
  ps_weak (ps_par hc hN hi hj hij hx hy (pa_cons h1 (pa_cons h2 pa_nil nb) na) hw hs) fun D σ H ⟨c, F, ρ, ω, o, ω', w, e, k⟩ => by
    obtain ⟨x1, ω1, g1, e⟩ := bnd_some e
    obtain ⟨y1, ω2, g2, e⟩ := bnd_some e
    obtain ⟨rfl, rfl⟩ := ret_some e
    refine ⟨c, F, ρ, ω, x1, ω1, w, g1, fun F1 H1 p p1 np fp rp => ⟨c, F1, ρ, ω1, y1, _, w.ext p1, g2, fun F2 H2 t p2 nt ft rt => ⟨.ref p, .ref t, rfl, k F2 H2 _ ?_⟩⟩⟩
    have qp := qfree_none w.post.ora np
    have qt := qfree_none (w.ext p1).post.ora nt
    have w1 := w.ext p1
    have w2 := w1.ext p2
    have hpt : p ≠ t := fun z => by rw [← z] at nt; exact rp.there nt
    have fp2 : F2 p = none := by rw [p2.new p rp.there]; exact fp
    have op : Own X.K c F2 H2 p x1 := ⟨fp2, w.h0_none np, qp, rp.mono p2.le0 fun o h => p2.kept p o h qp⟩
    have ot : Own X.K c F2 H2 t y1 := ⟨ft, w1.h0_none nt, qt, rt⟩
    refine (w2.set_o op i fun j' y' _ hy' => ?_).set_o ot j fun j' y' hj' hy' => ?_
    · exact w.fresh_ne np j' y' hy'
    · rw [nth_sset] at hy'
      by_cases hji : j' = i
      · subst hji
        have hl : j' < σ.length := by
          rw [w.len]
          by_cases hl : j' < ρ.length
          · exact hl
          · rw [if_pos rfl, if_neg hl] at hy'; cases hy'
        rw [List.getElem?_set_self hl]
        exact fun z => hpt (V.ref.inj (Option.some.inj (Option.some.inj z)))
      · rw [if_neg hji] at hy'
        rw [List.getElem?_set_ne (Ne.symm hji)]
        exact w1.fresh_ne nt j' y' hy'
end
end FL
end
section
/-! FL: sorted of ints, of rows of ints. -/
namespace FL
open PySem PySem.Spec PyProof.Rows L2

/-! ### the order of rows -/
def leR : List Int → List Int → Bool
  | [], _ => true
  | _ :: _, [] => false
  | x :: xs, y :: ys => if x = y then leR xs ys else decide (x < y)
theorem leR_iff : ∀ xs ys : List Int, leR xs ys = decide (xs ≤ ys)
  | [], ys => by simp [leR]
  | x :: xs, [] => by simp [leR]
  | x :: xs, y :: ys => by
    unfold leR
    rw [leR_iff xs ys]
    by_cases h : x = y
    · subst h; simp [List.cons_le_cons_iff]
    · rw [if_neg h]; simp [List.cons_le_cons_iff, h]
def insR (x : List Int) : List (List Int) → List (List Int)
  | [] => [x]
  | y :: r => if leR x y = true then x :: y :: r else y :: insR x r
def srtR : List (List Int) → List (List Int)
  | [] => []
  | x :: r => insR x (srtR r)
theorem insR_perm (x : List Int) : ∀ l, (insR x l).Perm (x :: l)
  | [] => .refl _
  | y :: r => by
    unfold insR
    split
    · exact .refl _
    · exact (List.Perm.cons y (insR_perm x r)).trans (List.Perm.swap x y r)
theorem srtR_perm : ∀ l, (srtR l).Perm l
  | [] => .refl _
  | x :: r => (insR_perm x (srtR r)).trans (.cons x (srtR_perm r))
theorem insR_sorted (x : List Int) : ∀ l : List (List Int), l.Pairwise (· ≤ ·) → (insR x l).Pairwise (· ≤ ·)
  | [], _ => List.pairwise_singleton _ _
  | y :: r, h => by
    unfold insR
    rw [List.pairwise_cons] at h
    split
    · rename_i hxy
      rw [leR_iff, decide_eq_true_eq] at hxy
      rw [List.pairwise_cons]
      refine ⟨fun z hz => ?_, List.pairwise_cons.mpr h⟩
      rcases List.mem_cons.mp hz with rfl | hz
      · exact hxy
      · exact List.le_trans hxy (h.1 z hz)
    · rename_i hxy
      rw [leR_iff, decide_eq_true_eq] at hxy
      rw [List.pairwise_cons]
      refine ⟨fun z hz => ?_, insR_sorted x r h.2⟩
      rcases List.mem_cons.mp ((insR_perm x r).mem_iff.mp hz) with rfl | hz
      · exact (List.le_total _ _).resolve_left hxy
      · exact h.1 z hz
theorem srtR_sorted : ∀ l : List (List Int), (srtR l).Pairwise (· ≤ ·)
  | [] => .nil
  | x :: r => insR_sorted x _ (srtR_sorted r)
theorem rows_uniq {l m : List (List Int)} (h : l.Perm m) (h1 : l.Pairwise (· ≤ ·)) (h2 : m.Pairwise (· ≤ ·)) : l = m :=
  h.eq_of_pairwise (fun a b _ _ x y => List.le_antisymm x y) h1 h2
theorem mergeR (l : List (List Int)) : l.mergeSort (fun p q => decide (p ≤ q)) = srtR l := by
  refine rows_uniq ((List.mergeSort_perm l _).trans (srtR_perm l).symm) ?_ (srtR_sorted l)
  have := List.pairwise_mergeSort (le := fun p q : List Int => decide (p ≤ q)) (fun a b c h1 h2 => by
    rw [decide_eq_true_eq] at *; exact List.le_trans h1 h2) (fun a b => by
    simp only [Bool.or_eq_true, decide_eq_true_eq]; exact List.le_total a b) l
  exact this.imp fun h => by simpa using h

/-! ### sorted(x), x a list or a tuple -/
section
variable {prog : Program} {w : World} {A : Around} {E : Value → Shared → Prop} {s : Shared}
theorem collect_tuple {l : Addr} {vs : List Value} {Q : List Value → Shared → Prop} (hl : s.heap.IsTuple l vs.toArray)
    (h : Q vs { s with heap := (s.heap.push (seqObj "list" #[] 0)).update s.heap.objs.size (Obj.mapSeq (· ++ vs.toArray)) }) (hsz : vs.length ≤ sizeLine := by size_fits) :
    wpAny (model prog w) A (collect (.ref l)) Q E s := by
  obtain ⟨o, ho, hc, n, hd⟩ := id hl
  unfold collect
  refine wpAny_bind (wpAny_runValue (codeAny_builtin entry_proto_collect' ?_))
  show wpAny _ _ (do again (.builtin "list.__iadd__" ⟨[← newList [], .ref l], []⟩)) _ _ s
  refine wpAny_bind (wpAny_newList (wpAny_pure ⟨Code.quiet_builtin _ (by decide +kernel), codeAny_builtin entry_list_iadd' ?_⟩))
  show wpAny _ _ (Builtin.List.listExtendWith (.ref s.heap.objs.size) (.ref l) (.ref s.heap.objs.size)) _ _ { s with heap := s.heap.push (seqObj "list" #[] 0) }
  unfold Builtin.List.listExtendWith
  have ho' : (s.heap.push (seqObj "list" #[] 0)).get? l = some o := Heap.get?_push_of_some _ ho
  refine wpAny_bind (wpAny_typeOf (T := "tuple") ⟨o, ho', hc⟩ ?_)
  rw [if_pos (show (Builtin.List.listSameRef (Value.ref s.heap.objs.size) (Value.ref l) || Value.type "tuple" == Value.type "list" || Value.type "tuple" == Value.type "tuple") = true by
    rw [show (Value.type "tuple" == Value.type "tuple") = true by decide +kernel, Bool.or_true])]
  refine wpAny_bind (listItems_at ho' hd ?_)
  refine wpAny_bind (listItems_at (xs := #[]) (n := 0) (Heap.get?_push_size _ rfl) rfl ?_)
  rw [if_neg (by simp)]
  refine wpAny_bind (listUpdate_at (xs := #[]) (n := 0) (Heap.get?_push_size _ rfl) rfl ?_ (Nat.zero_le _) (by show (#[] ++ vs.toArray).size ≤ sizeLine + 1; simp only [Array.size_append, List.size_toArray, List.length_nil]; omega))
  refine wpAny_pure ?_
  show wpAny (model prog w) A (do
      let o ← load s.heap.objs.size
      match o.data with
      | .seq xs _ => pure xs.toList
      | _ => unsupported "internal:collect") Q E { s with heap := (s.heap.push (seqObj "list" #[] 0)).update s.heap.objs.size (Obj.mapSeq (· ++ vs.toArray)) }
  refine wpAny_bind (wpAny_load (get?_update_seq (Heap.get?_push_size _ rfl) _) ?_)
  show wpAny _ _ (pure ((#[] : Array Value) ++ vs.toArray).toList) Q E _
  rw [show ((#[] : Array Value) ++ vs.toArray).toList = vs by simp]
  exact wpAny_pure h
end
end FL
namespace SrtO
open PySem PySem.Spec PyProof.Rows L2
section
variable {prog : Program} {w : World} {A : Around} {E : Value → Shared → Prop} {s : Shared}
theorem sorted_ordT {l : Addr} {vs : List Value} {ltv : Value → Value → Bool} {Q : Value → Shared → Prop} (O : Swo ltv) (hl : s.heap.IsTuple l vs.toArray) (hz : vs.length ≤ sizeLine)
    (hS : 2 ≤ vs.length → ∀ (h₁ : Heap) (a : Addr), h₁.get? a = some (seqObj "list" vs.toArray 0) → (∀ b o, s.heap.get? b = some o → b ≠ a ∧ h₁.get? b = some o) → SortableO prog w A.in1.in1 { s with heap := h₁ } a vs ltv)
    (h : ∀ out : List Value, Srtd ltv out → Stb ltv out vs → Q (.ref (s.heap.objs.size + 1)) { s with heap := sortedAll s.heap vs out.toArray }) :
    wpAny (model prog w) A (call (.builtin "sorted") [.ref l]) Q E s := by
  refine Calls.call_function_entry kind_sorted plain_sorted entry_sorted (args_sorted1 _) ?_
  unfold Builtin.«sorted»
  refine wpAny_bind (m := checkCount "sorted" 1 1 _) (wpAny_pure ?_)
  refine wpAny_bind (FL.collect_tuple hl ?_ hz)
  refine wpAny_bind (wpAny_newList ?_ hz)
  have hsz : ((s.heap.push (seqObj "list" #[] 0)).update s.heap.objs.size (Obj.mapSeq (· ++ vs.toArray))).objs.size = s.heap.objs.size + 1 := by
    rw [Heap.size_update, size_push']
  have hoL : (((s.heap.push (seqObj "list" #[] 0)).update s.heap.objs.size (Obj.mapSeq (· ++ vs.toArray))).push (seqObj "list" vs.toArray 0)).get? (s.heap.objs.size + 1) = some (seqObj "list" vs.toArray 0) := by
    rw [← hsz]; exact Heap.get?_push_size _ rfl
  have keep : ∀ b o, s.heap.get? b = some o → b ≠ s.heap.objs.size + 1 ∧ (((s.heap.push (seqObj "list" #[] 0)).update s.heap.objs.size (Obj.mapSeq (· ++ vs.toArray))).push (seqObj "list" vs.toArray 0)).get? b = some o := fun b o q => by
    have hlt : b < s.heap.objs.size := Heap.lt_size q
    refine ⟨Nat.ne_of_lt (Nat.lt_succ_of_lt hlt), Heap.get?_push_of_some _ ?_⟩
    rw [Heap.get?_update_ne _ _ _ _ (Nat.ne_of_lt hlt)]
    exact Heap.get?_push_of_some _ q
  show wpAny _ _ _ _ _ { s with heap := ((s.heap.push (seqObj "list" #[] 0)).update s.heap.objs.size (Obj.mapSeq (· ++ vs.toArray))).push (seqObj "list" vs.toArray 0) }
  rw [hsz]
  refine wpAny_bind (wpAny_holding (wpAny_call_entry slot_list_sort ⟨_, hoL, rfl⟩ entry_list_sort (list_sort_ord O hoL hz (fun h2 => hS h2 _ _ hoL keep) fun out hs hb => ⟨_, rfl, ?_⟩) (args_list_sort _)))
  exact wpAny_pure ⟨_, rfl, h out hs hb⟩
end
end SrtO
namespace FL
open PySem PySem.Spec PyProof.Rows L2
section
variable {X : Cx}
abbrev rSortedIA (K : PySem.W.Frag) : List V → Hp → VK → Prop := fun vs H Q => ∃ (a : Addr) (ns : List Int), vs = [V.ref a] ∧ (SqL K H a (ns.map V.int) ∨ SqT K H a (ns.map V.int)) ∧
  ∀ (ns' : List Int) (p : Addr), ns'.Perm ns → ns'.Pairwise (· ≤ ·) → H p = none → Q (.ref p) (upd H p (.lst (ns'.map V.int)))
theorem cr_sortedIA : CallR X (.builtin "sorted") (rSortedIA X.K) := by
  intro pins s σ H vs us Q I r h
  obtain ⟨a, ns, rfl, hs | hs, q⟩ := h
  · exact cr_sortedI pins s σ H _ us Q I r ⟨a, ns, rfl, hs, q⟩
  · obtain ⟨its, rv, hl, hz⟩ := I.tuple hs
    rw [Vals.ref1 r]
    have hi := rv.ints
    refine SrtO.sorted_ordT SrtO.swo_int (show s.heap.IsTuple a its.toArray from hl) (by rw [← rv.length]; exact hz) (fun h2 h₁ a' _ _ => SrtO.ints_sortable hi h2) fun out h1 h2 => ?_
    obtain ⟨k1, k2, k3⟩ := SrtO.ints_out hi h1 h2
    obtain ⟨ep, he'⟩ := PyProof.Rows.sortedAll_at s.heap its out.toArray
    have hlen : ((out.map SrtO.iv).map V.int).length ≤ sizeLine := by
      rw [List.length_map, k2.length_eq]
      rw [List.length_map] at hz
      exact hz
    exact ⟨.ref _, upd H (s.heap.objs.size + 1) (.lst ((out.map SrtO.iv).map V.int)), I.laid (t' := s.toks) (fun _ _ => PyProof.Rows.sortedAll_old) (Nat.le_succ _) ⟨hlen, out, ep, vals_of_ints k1, he'⟩, rfl, q _ _ k2 k3 (I.hok.fresh (Nat.le_succ _))⟩
/-- rows of ints, none empty -/
def RowV (K : PySem.W.Frag) (H : Hp) (x : V) (b : List Int) : Prop := ∃ t, x = V.ref t ∧ SqT K H t (b.map V.int)
abbrev rSortedRw (K : PySem.W.Frag) : List V → Hp → VK → Prop := fun vs H Q => ∃ (a : Addr) (xs : List V) (bs : List (List Int)) (S : V → List Int → Prop), vs = [V.ref a] ∧ SqL K H a xs ∧ PySem.W.EachIs (fun x b => RowV K H x b ∧ S x b) xs bs ∧ (∀ b ∈ bs, b ≠ []) ∧
  ∀ (ys : List V) (p : Addr), PySem.W.EachIs (fun x b => RowV K H x b ∧ S x b) ys (srtR bs) → H p = none → Q (.ref p) (upd H p (.lst ys))
theorem intsData : ∀ {ns : List Int} {us : List Value} (h : Heap), Vals (ns.map V.int) us → ∃ as, ReadsAll h us (ns.map PyData.int) as
  | [], us, h, r => by cases r; exact ⟨_, .nil⟩
  | n :: ns, us, h, r => by
    cases r with
    | cons r1 r2 =>
      obtain ⟨t, rfl⟩ := r1
      obtain ⟨as, q⟩ := intsData h r2
      exact ⟨_, .cons (.int n t) q⟩
theorem rowReads {pins : List (Addr × Obj)} {σ : L2.St} {H : Hp} {s : Shared} {x : V} {u : Value} {b : List Int} (I : Inv X pins σ H s) (h : RowV X.K H x b) (r : RelV x u) : ∃ as, Reads s.heap u (.tuple (b.map .int)) as := by
  obtain ⟨t, rfl, hq⟩ := h
  cases r
  obtain ⟨its, rv, ⟨o, ho, hc, n, hd⟩, _⟩ := I.tuple hq
  obtain ⟨as, q⟩ := intsData s.heap rv
  exact ⟨_, .tuple ho hc hd q⟩
theorem each_rel {R : V → List Int → Prop} : ∀ {xs : List V} {us : List Value} {bs : List (List Int)}, Vals xs us → PySem.W.EachIs R xs bs → PySem.W.EachIs (fun u b => ∃ x, RelV x u ∧ R x b) us bs
  | _, _, _, .nil, .nil => .nil
  | _, _, _, .cons r rr, .cons h hh => .cons ⟨_, r, h⟩ (each_rel rr hh)
theorem each_back {R : V → List Int → Prop} : ∀ {us : List Value} {bs : List (List Int)}, PySem.W.EachIs (fun u b => ∃ x, RelV x u ∧ R x b) us bs → ∃ xs, Vals xs us ∧ PySem.W.EachIs R xs bs
  | _, _, .nil => ⟨[], .nil, .nil⟩
  | _, _, .cons ⟨x, r, h⟩ hh => let ⟨xs, a, b⟩ := each_back hh; ⟨x :: xs, .cons r a, .cons h b⟩
theorem alikeI : ∀ xs ys : List Int, PySem.W.alikeAll (xs.map PyData.int) (ys.map PyData.int) = true
  | [], _ => by simp [PySem.W.alikeAll]
  | _ :: _, [] => by simp [PySem.W.alikeAll]
  | x :: xs, y :: ys => by
    rw [List.map_cons, List.map_cons, PySem.W.alikeAll, alikeI xs ys]; rfl
theorem dataLe_tups : PySem.W.dataLe false (fun b : List Int => PyData.tuple (b.map .int)) = fun p q => decide (p ≤ q) := by
  funext p q
  exact congrFun (congrFun (PySem.W.dataLe_rows (β := List Int) fun b => b) p) q
theorem cr_sortedRw (hu : X.A.units + 64 < cLine) : CallR X (.builtin "sorted") (rSortedRw X.K) := by
  intro pins s σ H vs us Q I r h
  obtain ⟨a, xs, bs, S, rfl, hs, he, hne, q⟩ := h
  obtain ⟨its, rv, hl, hz⟩ := I.list hs
  rw [Vals.ref1 r]
  have e1 := each_rel rv he
  have hlen : its.length = bs.length := e1.length
  have hlx := rv.length
  refine PySem.W.sorted_data (enc := fun b => .tuple (b.map .int)) (R := fun u b => ∃ x, RelV x u ∧ (RowV X.K H x b ∧ S x b)) hl.isList e1 (e1.mono fun u b ⟨x, rx, hx⟩ => rowReads I hx.1 rx)
    (fun d hd d' hd' => ?_) (.inl fun d hd => ?_) (by omega) (fun b hb => ?_) (fun out hout ho => ?_)
  · obtain ⟨b, _, rfl⟩ := List.mem_map.mp hd
    obtain ⟨b', _, rfl⟩ := List.mem_map.mp hd'
    show PySem.W.alikeAll _ _ = true
    exact alikeI b b'
  · obtain ⟨b, hb, rfl⟩ := List.mem_map.mp hd
    cases b with
    | nil => exact absurd rfl (hne [] hb)
    | cons x r => exact ⟨_, _, rfl⟩
  · have hd : (PyData.tuple (b.map .int)).depth = 1 := by
      rw [PyData.depth, PySem.W.depth_ints]
    rw [hd]
    omega
  · rw [dataLe_tups, mergeR] at ho
    obtain ⟨ys, hv, hy⟩ := each_back ho
    obtain ⟨ep, he'⟩ := PyProof.Rows.sortedAll_at s.heap its out.toArray
    have hyl := hv.length
    exact ⟨.ref _, upd H (s.heap.objs.size + 1) (.lst ys), I.laid (t' := s.toks) (fun _ _ => PyProof.Rows.sortedAll_old) (Nat.le_succ _) ⟨by omega, out, ep, hv, he'⟩, rfl, q _ _ hy (I.hok.fresh (Nat.le_succ _))⟩
abbrev rSortedE (K : PySem.W.Frag) : List V → Hp → VK → Prop := fun vs H Q => ∃ (a : Addr) (xs : List V), vs = [V.ref a] ∧ SqL K H a xs ∧ xs.length < 2 ∧ ∀ (p : Addr), H p = none → Q (.ref p) (upd H p (.lst xs))
theorem swoF : SrtO.Swo (fun _ _ : Value => false) := ⟨(fun _ _ h => by cases h), (fun _ _ _ _ _ => rfl)⟩
theorem shortPerm {α : Type} {l m : List α} (h : l.Perm m) (hl : m.length < 2) : l = m := by
  cases m with
  | nil => exact List.Perm.eq_nil h
  | cons x r => cases r with
    | nil => exact List.perm_singleton.mp h
    | cons y r => exact absurd hl (by simp only [List.length_cons]; omega)
theorem cr_sortedE : CallR X (.builtin "sorted") (rSortedE X.K) := by
  intro pins s σ H vs us Q I r h
  obtain ⟨a, xs, rfl, hs, hlt, q⟩ := h
  obtain ⟨its, rv, hl, hz⟩ := I.list hs
  rw [Vals.ref1 r]
  have hlx := rv.length
  refine SrtO.sorted_ord (ltv := fun _ _ => false) swoF hl.isList (by rw [← hlx]; exact hz) (fun h2 => absurd h2 (by omega)) fun out h1 h2 => ?_
  obtain ⟨ep, he'⟩ := PyProof.Rows.sortedAll_at s.heap its out.toArray
  have hout : out = its := shortPerm h2.1 (by omega)
  subst hout
  exact ⟨.ref _, upd H (s.heap.objs.size + 1) (.lst xs), I.laid (t' := s.toks) (fun _ _ => PyProof.Rows.sortedAll_old) (Nat.le_succ _) ⟨hz, out, ep, rv, he'⟩, rfl, q _ (I.hok.fresh (Nat.le_succ _))⟩
end
/-- rows behind data -/
def rowsOf : List D → Option (List (List Int))
  | [] => some []
  | .tup ds :: r => (intsOf ds).bind fun x => (rowsOf r).map (x :: ·)
  | _ :: _ => none
def rowD (b : List Int) : D := .tup (b.map .int)
theorem rowsOf_map : ∀ bs : List (List Int), rowsOf (bs.map rowD) = some bs
  | [] => rfl
  | b :: bs => by
    simp only [List.map_cons, rowD, rowsOf, intsOf_map, Option.bind_some]
    rw [show rowsOf (bs.map rowD) = some bs from rowsOf_map bs]; rfl
theorem rowsOf_eq : ∀ {ds : List D} {bs : List (List Int)}, rowsOf ds = some bs → ds = bs.map rowD
  | [], bs, h => by simp only [rowsOf, Option.some.injEq] at h; subst h; rfl
  | .tup xs :: r, bs, h => by
    simp only [rowsOf, Option.bind_eq_some_iff, Option.map_eq_some_iff] at h
    obtain ⟨x, h1, rs, h2, rfl⟩ := h
    rw [List.map_cons, ← rowsOf_eq h2, intsOf_eq h1]; rfl
  | .non :: _, bs, h | .bl _ :: _, bs, h | .str _ :: _, bs, h | .int _ :: _, bs, h | .lst _ :: _, bs, h | .dic _ :: _, bs, h | .tok :: _, bs, h => by simp [rowsOf] at h
theorem reps_rows {K : PySem.W.Frag} {q : Qa} {F H : Hp} (hs : Same F H) : ∀ {bs : List (List Int)} {vs : List V}, Reps K q F vs (bs.map rowD) → PySem.W.EachIs (fun x b => RowV K H x b ∧ Rep K q F x (rowD b)) vs bs
  | [], vs, h => by cases h; exact .nil
  | b :: bs, vs, h => by
    cases h with
    | cons h1 h2 =>
      refine .cons ⟨?_, h1⟩ (reps_rows hs h2)
      cases h1 with
      | tup hq r => cases r.ints; exact ⟨_, rfl, same_sqt hs hq⟩
abbrev rSortA (K : PySem.W.Frag) : List V → Hp → VK → Prop := fun xs H Q => rSortedIA K xs H Q ∨ (rSortedRw K xs H Q ∨ rSortedE K xs H Q)
theorem cr_sortA {X : Cx} (hu : X.A.units + 64 < cLine) : CallR X (.builtin "sorted") (rSortA X.K) := cr_sortedIA.or ((cr_sortedRw hu).or cr_sortedE)
def aSortA : List D → Option D
  | [.lst ds] => if ds.length < 2 then some (.lst ds) else match intsOf ds with
    | some ns => some (.lst ((srtI ns).map .int))
    | none => match rowsOf ds with
      | some bs => if (bs.all fun b => !b.isEmpty) = true then some (.lst ((srtR bs).map rowD)) else none
      | none => none
  | [.tup ds] => (intsOf ds).map fun ns => .lst ((srtI ns).map .int)
  | _ => none
theorem rowV_same {K : PySem.W.Frag} {q : Qa} {F H : Hp} (hs : Same F H) {x : V} {b : List Int} (h : RowV K H x b) : Rep K q H x (rowD b) := by
  obtain ⟨t, rfl, hq⟩ := h
  exact .tup hq (reps_ints b)
theorem each_reps {K : PySem.W.Frag} {q : Qa} {F : Hp} {f : List Int → D} : ∀ {xs : List V} {bs : List (List Int)}, PySem.W.EachIs (fun x b => Rep K q F x (f b)) xs bs → Reps K q F xs (bs.map f)
  | _, _, .nil => .nil
  | _, _, .cons h t => .cons h (each_reps t)
end FL
end
section
/-! FL: sorted, tuple * int, reversed copies. -/
namespace FL
open PySem PySem.Spec PyProof.Rows L2
section
variable {K : PySem.W.Frag}
theorem each_left {R S : V → List Int → Prop} : ∀ {xs : List V} {bs : List (List Int)}, PySem.W.EachIs (fun x b => R x b ∧ S x b) xs bs → PySem.W.EachIs R xs bs
  | _, _, .nil => .nil
  | _, _, .cons h t => .cons h.1 (each_left t)
theorem each_right {R S : V → List Int → Prop} : ∀ {xs : List V} {bs : List (List Int)}, PySem.W.EachIs (fun x b => R x b ∧ S x b) xs bs → PySem.W.EachIs S xs bs
  | _, _, .nil => .nil
  | _, _, .cons h t => .cons h.2 (each_right t)
theorem sortA_pureF : PureAF K (rSortA K) aSortA := by
  intro q F H ω xs a d Q hs ho hx e k
  unfold aSortA at e
  split at e
  · rename_i ds
    obtain ⟨v, rfl, hv⟩ := hx.one
    obtain ⟨p, vs, rfl, h1, r⟩ := hv.lst hs
    have hl := r.length
    split at e
    · cases e
      exact .inr (.inr ⟨p, vs, rfl, .inl (.inl h1), by omega, fun l hl => k F _ l (Post.fresh hs ho hl) hl (same_none hs hl) ⟨_, upd_same, r⟩⟩)
    · split at e
      · rename_i ns e1
        cases e
        cases intsOf_eq e1
        cases r.ints
        refine .inl ⟨p, ns, rfl, .inl (.inl (.inl h1)), fun ns' l hp hpw hl => ?_⟩
        rw [sorted_uniq (hp.trans (srtI_perm ns).symm) hpw (srtI_sorted ns)]
        exact k F _ l (Post.fresh hs ho hl) hl (same_none hs hl) ⟨_, upd_same, reps_ints _⟩
      · split at e
        · rename_i bs e2
          split at e
          · rename_i hb
            cases e
            cases rowsOf_eq e2
            refine .inr (.inl ⟨p, vs, bs, fun x b => Rep K q F x (rowD b), rfl, .inl (.inl h1), reps_rows hs r, fun b hb' => ?_, fun ys l he hl => ?_⟩)
            · have := List.all_eq_true.mp hb b hb'
              intro z; subst z; cases this
            · exact k F _ l (Post.fresh hs ho hl) hl (same_none hs hl) ⟨_, upd_same, each_reps (each_right he)⟩
          · cases e
        · cases e
  · rw [Option.map_eq_some_iff] at e
    obtain ⟨ns, e1, rfl⟩ := e
    obtain ⟨v, rfl, hv⟩ := hx.one
    cases intsOf_eq e1
    obtain ⟨p, vs, rfl, h1, r⟩ := hv.tup hs
    cases r.ints
    refine .inl ⟨p, ns, rfl, .inr h1, fun ns' l hp hpw hl => ?_⟩
    rw [sorted_uniq (hp.trans (srtI_perm ns).symm) hpw (srtI_sorted ns)]
    exact k F _ l (Post.fresh hs ho hl) hl (same_none hs hl) ⟨_, upd_same, reps_ints _⟩
  · cases e
end
end FL
end
section
namespace FL
open PySem PySem.Spec PyProof.Rows L2
theorem iteB {A B : Prop} {b : Bool} (h1 : b = true → A) (h2 : b = false → B) : if b = true then A else B := by
  cases b
  · exact iteF (h2 rfl)
  · exact iteT (h1 rfl)
theorem ixN0 {x : Int} {r : List Int} : ixN ((x :: r).map V.int).length 0 = some 0 := by
  unfold ixN
  simp
end FL
end
section
/-! FL: reasoning about meanings in plain mathematics. -/
namespace FL
open PySem PySem.Spec PyProof.Rows L2
section
variable {α β : Type}
theorem bnd_r (a : α) (k : α → M β) : bnd (ret a) k = k a := Eq.symm rfl
theorem opt_s (a : α) : opt (some a) = ret a := Eq.symm rfl
theorem ret_at (a : α) (ω : Ora) : (ret a) ω = some (a, ω) := rfl
theorem bnd_at {m : M α} {k : α → M β} {ω ω1 : Ora} {a : α} (e : m ω = some (a, ω1)) : bnd m k ω = k a ω1 := by unfold bnd; rw [e]
theorem tr_eqr {P : α → Prop} {m : M α} {a : α} (e : m = FL.ret a) (h : P a) : Tr m P := by rw [e]; exact Tr.ret h
theorem tr_seq {a b : SF} {ρ : Env} {P : Out → Prop} (h : Tr (a ρ) (fun o => ∃ ρ', o = .nx ρ' ∧ Tr (b ρ') P)) : Tr (seqS a b ρ) P :=
  Tr.bnd h fun o ⟨ρ', e, q⟩ => by subst e; exact q
theorem tr_seqRt {a b : SF} {ρ : Env} {P : Out → Prop} (h : Tr (a ρ) (fun o => (∃ ρ', o = .nx ρ' ∧ Tr (b ρ') P) ∨ (∃ fr d, o = .rt fr d ∧ P o))) : Tr (seqS a b ρ) P :=
  Tr.bnd h fun o q => by
    rcases q with ⟨ρ', e, q⟩ | ⟨fr, d, e, q⟩
    · subst e; exact q
    · subst e; exact Tr.ret q
theorem tr_setD {i : Nat} {f : EF} {ρ : Env} {P : Out → Prop} (h : Tr (f ρ) (fun d => P (.nx (sset ρ i (.d d))))) : Tr (setD i f ρ) P :=
  Tr.bnd h fun d q => Tr.ret q
theorem tr_setO {i : Nat} {f : EF} {ρ : Env} {P : Out → Prop} (h : Tr (f ρ) (fun d => P (.nx (sset ρ i (.o d))))) : Tr (setO i f ρ) P :=
  Tr.bnd h fun d q => Tr.ret q
theorem tr_ifT {t : BF} {a b : SF} {ρ : Env} {P : Out → Prop} (h : t ρ = FL.ret true) (h2 : Tr (a ρ) P) : Tr (ifS t a b ρ) P := by
  unfold ifS; rw [h]; exact h2
theorem tr_ifF {t : BF} {a b : SF} {ρ : Env} {P : Out → Prop} (h : t ρ = FL.ret false) (h2 : Tr (b ρ) P) : Tr (ifS t a b ρ) P := by
  unfold ifS; rw [h]; exact h2
/-- a loop with an invariant that tells what is left -/
theorem tr_forL {b : GF} {body : SF} {I : List D → Env → Prop} {P : Out → Prop} : ∀ {ds : List D} {ρ : Env}, I ds ρ → (∀ d r ρ, (d :: r) <:+ ds → I (d :: r) ρ → ∃ ρ1, b d ρ = some ρ1 ∧ Tr (body ρ1) (fun o => ∃ ρ', o = .nx ρ' ∧ I r ρ')) → (∀ ρ, I [] ρ → P (.nx ρ)) → Tr (forL b body ds ρ) P
  | [], ρ, hi, _, hp => Tr.ret (hp ρ hi)
  | d :: ds, ρ, hi, hs, hp => by
    obtain ⟨ρ1, e1, h1⟩ := hs d ds ρ (List.suffix_refl _) hi
    show Tr (bnd (opt (b d ρ)) _) P
    rw [e1, opt_s, bnd_r]
    refine Tr.bnd h1 fun o ⟨ρ', e, i⟩ => ?_
    subst e
    exact tr_forL i (fun d r ρ h => hs d r ρ (h.trans (List.suffix_cons _ _))) hp
theorem tr_forS {it : AF} {b : GF} {body : SF} {I : List D → Env → Prop} {P : Out → Prop} {ds : List D} {ρ : Env} (e : it ρ = FL.ret ds) (h0 : I ds ρ) (hs : ∀ d r ρ, (d :: r) <:+ ds → I (d :: r) ρ → ∃ ρ1, b d ρ = some ρ1 ∧ Tr (body ρ1) (fun o => ∃ ρ', o = .nx ρ' ∧ I r ρ')) (hp : ∀ ρ, I [] ρ → P (.nx ρ)) : Tr (forS it b body ρ) P := by
  unfold FL.forS; rw [e]; exact tr_forL h0 hs hp
/-- a while loop with a measure -/
theorem tr_whL {t : BF} {body : SF} {I : Nat → Env → Prop} {P : Out → Prop} (ht : ∀ n ρ, I n ρ → (t ρ = FL.ret false ∧ P (.nx ρ)) ∨ (t ρ = FL.ret true ∧ Tr (body ρ) (fun o => ∃ ρ' m, o = .nx ρ' ∧ m < n ∧ I m ρ'))) : ∀ (k n : Nat) (ρ : Env), n < k → I n ρ → Tr (whL t body k ρ) P
  | 0, n, ρ, hk, _ => absurd hk (Nat.not_lt_zero _)
  | k + 1, n, ρ, hk, hi => by
    unfold FL.whL
    rcases ht n ρ hi with ⟨e, p⟩ | ⟨e, p⟩
    · rw [e]; exact Tr.ret p
    · rw [e]
      show Tr (bnd (body ρ) _) P
      refine Tr.bnd p fun o ⟨ρ', m, e', hm, i⟩ => ?_
      subst e'
      exact tr_whL ht k m ρ' (by omega) i
theorem tr_whS {t : BF} {body : SF} {I : Nat → Env → Prop} {P : Out → Prop} {n : Nat} {ρ : Env} (hn : n < WF) (hi : I n ρ) (ht : ∀ n ρ, I n ρ → (t ρ = FL.ret false ∧ P (.nx ρ)) ∨ (t ρ = FL.ret true ∧ Tr (body ρ) (fun o => ∃ ρ' m, o = .nx ρ' ∧ m < n ∧ I m ρ'))) : Tr (whS t body ρ) P :=
  tr_whL ht WF n ρ hn hi
/-- a call -/
theorem tr_runS {n ar : Nat} {fr : Bool} {s : SF} {ds : List D} {P : D → Prop} (hl : ds.length = ar) (h : Tr (s (mkE ds (n - ar))) (fun o => ∃ d, outO fr o = some d ∧ P d)) : Tr (runS n ar fr s ds) P := by
  unfold FL.runS
  rw [if_pos hl]
  exact Tr.bnd h fun o ⟨d, e, p⟩ => Tr.opt e p
/-! pure loops -/
theorem lcL_pure {b : GF} {tt : BF} {el : EF} {ρ : Env} (enc : α → D) (f : α → Option D) : ∀ (l : List α), (∀ a ∈ l, ∃ ρ1, b (enc a) ρ = some ρ1 ∧ ((f a = none ∧ tt ρ1 = ret false) ∨ ∃ x, f a = some x ∧ tt ρ1 = ret true ∧ el ρ1 = ret x)) → lcL b tt el ρ (l.map enc) = ret (l.filterMap f)
  | [], _ => rfl
  | a :: l, h => by
    obtain ⟨ρ1, e1, h1⟩ := h a (by simp)
    rw [List.map_cons, lcL, e1, opt_s, bnd_r]
    have ih := lcL_pure enc f l fun a ha => h a (by simp [ha])
    rcases h1 with ⟨e2, e3⟩ | ⟨x, e2, e3, e4⟩
    · rw [e3, bnd_r, List.filterMap_cons_none e2]; exact ih
    · rw [e3, bnd_r, List.filterMap_cons_some e2]
      show bnd (el ρ1) _ = _
      rw [e4, bnd_r, ih, bnd_r]
theorem lcE_pure {it : AF} {b : GF} {tt : BF} {el : EF} {vs : List Nat} {ρ : Env} (enc : α → D) (f : α → Option D) (l : List α) (hi : it ρ = ret (l.map enc)) (hz : l.length ≤ sizeLine) (h : ∀ a ∈ l, ∃ ρ1, b (enc a) (fgt vs ρ) = some ρ1 ∧ ((f a = none ∧ tt ρ1 = ret false) ∨ ∃ x, f a = some x ∧ tt ρ1 = ret true ∧ el ρ1 = ret x)) : lcE it b tt el vs ρ = ret (.lst (l.filterMap f)) := by
  unfold lcE
  rw [hi, bnd_r, List.length_map, if_pos hz, lcL_pure enc f l h]
  rfl
/-- every element kept -/
theorem lcE_map {it : AF} {b : GF} {el : EF} {vs : List Nat} {ρ : Env} (enc : α → D) (f : α → D) (l : List α) (hi : it ρ = ret (l.map enc)) (hz : l.length ≤ sizeLine) (h : ∀ a ∈ l, ∃ ρ1, b (enc a) (fgt vs ρ) = some ρ1 ∧ el ρ1 = ret (f a)) : lcE it b yesB el vs ρ = ret (.lst (l.map f)) := by
  have := lcE_pure (tt := yesB) enc (fun a => some (f a)) l hi hz fun a ha => let ⟨ρ1, e1, e2⟩ := h a ha; ⟨ρ1, e1, .inr ⟨_, rfl, rfl, e2⟩⟩
  rw [this]
  congr 2
  simp
theorem forL_pure {b : GF} {body : SF} (enc : α → D) (g : α → Env → Env) : ∀ (l : List α) (ρ : Env) (I : List α → Env → Prop), I l ρ → (∀ a r ρ, (a :: r) <:+ l → I (a :: r) ρ → ∃ ρ1, b (enc a) ρ = some ρ1 ∧ body ρ1 = ret (.nx (g a ρ)) ∧ I r (g a ρ)) → forL b body (l.map enc) ρ = ret (.nx (l.foldl (fun ρ a => g a ρ) ρ))
  | [], ρ, I, _, _ => rfl
  | a :: l, ρ, I, hi, h => by
    obtain ⟨ρ1, e1, e2, i⟩ := h a l ρ (List.suffix_refl _) hi
    show bnd (opt (b (enc a) ρ)) _ = _
    rw [e1, opt_s, bnd_r, e2, bnd_r]
    exact forL_pure enc g l _ I i fun a r ρ hs => h a r ρ (hs.trans (List.suffix_cons _ _))
end
/-! evaluating, from the left -/
def contS (b : SF) : Out → M Out := fun o => match o with
  | .nx ρ' => b ρ'
  | o => ret o
theorem seq_r (a b : SF) (ρ : Env) : seqS a b ρ = bnd (a ρ) (contS b) := Eq.symm rfl
theorem cont_nx (b : SF) (ρ : Env) : contS b (.nx ρ) = b ρ := Eq.symm rfl
theorem cont_rt (b : SF) (o : Bool) (d : D) : contS b (.rt o d) = ret (.rt o d) := Eq.symm rfl
theorem cont_bk (b : SF) (ρ : Env) : contS b (.bk ρ) = ret (.bk ρ) := Eq.symm rfl
theorem cont_ct (b : SF) (ρ : Env) : contS b (.ct ρ) = ret (.ct ρ) := Eq.symm rfl
def selS (a b : SF) (ρ : Env) (x : Bool) : M Out := bif x then a ρ else b ρ
theorem if_r (t : BF) (a b : SF) (ρ : Env) : ifS t a b ρ = bnd (t ρ) (selS a b ρ) := Eq.symm rfl
theorem sel_t (a b : SF) (ρ : Env) : selS a b ρ true = a ρ := Eq.symm rfl
theorem sel_f (a b : SF) (ρ : Env) : selS a b ρ false = b ρ := Eq.symm rfl
def selE (f g : EF) (ρ : Env) (x : Bool) : M D := bif x then f ρ else g ρ
theorem ife_r (t : BF) (f g : EF) (ρ : Env) : ifE t f g ρ = bnd (t ρ) (selE f g ρ) := Eq.symm rfl
theorem sele_t (a b : EF) (ρ : Env) : selE a b ρ true = a ρ := Eq.symm rfl
theorem sele_f (a b : EF) (ρ : Env) : selE a b ρ false = b ρ := Eq.symm rfl
def selA (g : BF) (ρ : Env) (x : Bool) : M Bool := bif x then g ρ else ret false
def selO (g : BF) (ρ : Env) (x : Bool) : M Bool := bif x then ret true else g ρ
theorem and_r (f g : BF) (ρ : Env) : andB f g ρ = bnd (f ρ) (selA g ρ) := Eq.symm rfl
theorem or_r (f g : BF) (ρ : Env) : orB f g ρ = bnd (f ρ) (selO g ρ) := Eq.symm rfl
theorem sela_t (g : BF) (ρ : Env) : selA g ρ true = g ρ := Eq.symm rfl
theorem sela_f (g : BF) (ρ : Env) : selA g ρ false = ret false := Eq.symm rfl
theorem selo_t (g : BF) (ρ : Env) : selO g ρ true = ret true := Eq.symm rfl
theorem selo_f (g : BF) (ρ : Env) : selO g ρ false = g ρ := Eq.symm rfl
def outM (fr : Bool) (o : Out) : M D := opt (outO fr o)
theorem run_r (n ar : Nat) (fr : Bool) (s : SF) (ds : List D) (h : ds.length = ar) : runS n ar fr s ds = bnd (s (mkE ds (n - ar))) (outM fr) := by unfold runS; rw [if_pos h]; rfl
theorem out_rt (o : Bool) (d : D) : outM false (.rt o d) = ret d := Eq.symm rfl
theorem out_rtO (d : D) : outM true (.rt true d) = ret d := Eq.symm rfl
theorem out_nx (ρ : Env) : outM false (.nx ρ) = ret .non := Eq.symm rfl
theorem eLst_0 (ρ : Env) : eLst aN ρ = ret (.lst []) := by
  unfold eLst aN; rw [bnd_r]; simp only [List.length_nil, Nat.zero_le, if_true]; rfl
theorem eLst_1 (f : EF) (ρ : Env) : eLst (aC f aN) ρ = bnd (f ρ) fun x => ret (.lst [x]) := by
  funext ω
  unfold eLst aC aN bnd ret
  cases f ρ ω with
  | none => rfl
  | some p => show opt (if [p.1].length ≤ sizeLine then _ else _) _ = _; rw [if_pos (by rw [sizeLine_eq]; simp)]; rfl
theorem eLst_2 (f g : EF) (ρ : Env) : eLst (aC f (aC g aN)) ρ = bnd (f ρ) fun x => bnd (g ρ) fun y => ret (.lst [x, y]) := by
  funext ω
  unfold eLst aC aN bnd ret
  cases f ρ ω with
  | none => rfl
  | some p =>
    cases h : g ρ p.2 with
    | none => simp only [h]
    | some p' => simp only [h]; show opt (if [p.1, p'.1].length ≤ sizeLine then _ else _) _ = _; rw [if_pos (by rw [sizeLine_eq]; simp)]; rfl
theorem eLst_3 (f g k : EF) (ρ : Env) : eLst (aC f (aC g (aC k aN))) ρ = bnd (f ρ) fun x => bnd (g ρ) fun y => bnd (k ρ) fun z => ret (.lst [x, y, z]) := by
  funext ω
  unfold eLst aC aN bnd ret
  cases f ρ ω with
  | none => rfl
  | some p =>
    cases h : g ρ p.2 with
    | none => simp only [h]
    | some p' =>
      cases h2 : k ρ p'.2 with
      | none => simp only [h, h2]
      | some p'' => simp only [h, h2]; show opt (if [p.1, p'.1, p''.1].length ≤ sizeLine then _ else _) _ = _; rw [if_pos (by rw [sizeLine_eq]; simp)]; rfl
theorem eTup_0 (ρ : Env) : eTup aN ρ = ret (.tup []) := by
  unfold eTup aN; rw [bnd_r]; simp only [List.length_nil, Nat.zero_le, if_true]; rfl
theorem eTup_1 (f : EF) (ρ : Env) : eTup (aC f aN) ρ = bnd (f ρ) fun x => ret (.tup [x]) := by
  funext ω
  unfold eTup aC aN bnd ret
  cases f ρ ω with
  | none => rfl
  | some p => show opt (if [p.1].length ≤ sizeLine then _ else _) _ = _; rw [if_pos (by rw [sizeLine_eq]; simp)]; rfl
theorem eTup_2 (f g : EF) (ρ : Env) : eTup (aC f (aC g aN)) ρ = bnd (f ρ) fun x => bnd (g ρ) fun y => ret (.tup [x, y]) := by
  funext ω
  unfold eTup aC aN bnd ret
  cases f ρ ω with
  | none => rfl
  | some p =>
    cases h : g ρ p.2 with
    | none => simp only [h]
    | some p' => simp only [h]; show opt (if [p.1, p'.1].length ≤ sizeLine then _ else _) _ = _; rw [if_pos (by rw [sizeLine_eq]; simp)]; rfl
theorem eTup_3 (f g k : EF) (ρ : Env) : eTup (aC f (aC g (aC k aN))) ρ = bnd (f ρ) fun x => bnd (g ρ) fun y => bnd (k ρ) fun z => ret (.tup [x, y, z]) := by
  funext ω
  unfold eTup aC aN bnd ret
  cases f ρ ω with
  | none => rfl
  | some p =>
    cases h : g ρ p.2 with
    | none => simp only [h]
    | some p' =>
      cases h2 : k ρ p'.2 with
      | none => simp only [h, h2]
      | some p'' => simp only [h, h2]; show opt (if [p.1, p'.1, p''.1].length ≤ sizeLine then _ else _) _ = _; rw [if_pos (by rw [sizeLine_eq]; simp)]; rfl
/-! tuples of ints -/
def T (p : List Int) : D := .tup (p.map .int)
theorem seqD_T (p : List Int) : seqD (T p) = some (p.map .int) := Eq.symm rfl
theorem seqD_tup (p : List D) : seqD (.tup p) = some p := Eq.symm rfl
theorem seqD_lst (p : List D) : seqD (.lst p) = some p := Eq.symm rfl
theorem isNonD_non : isNonD .non = true := Eq.symm rfl
theorem isNonD_bl (b : Bool) : isNonD (.bl b) = false := Eq.symm rfl
theorem isNonD_int (i : Int) : isNonD (.int i) = false := Eq.symm rfl
theorem isNonD_str (x : Str) : isNonD (.str x) = false := Eq.symm rfl
theorem isNonD_tup (x : List D) : isNonD (.tup x) = false := Eq.symm rfl
theorem isNonD_lst (x : List D) : isNonD (.lst x) = false := Eq.symm rfl
theorem isNonD_T (x : List Int) : isNonD (T x) = false := Eq.symm rfl
theorem bnd_assoc {α β γ : Type} (m : M α) (k : α → M β) (l : β → M γ) : bnd (bnd m k) l = bnd m fun x => bnd (k x) l := by
  funext ω
  unfold bnd
  cases m ω with
  | none => rfl
  | some p => rfl
theorem tr_draw {β : Type} {m : Int} {k : D → M β} {P : β → Prop} (h0 : 0 < m) (h1 : m < 1000000) (h : ∀ v : Int, 0 ≤ v → v < m → Tr (k (.int v)) P) : Tr (bnd (drawM [.tok, .int m]) k) P :=
  Tr.bnd (R := fun d => ∃ v : Int, d = .int v ∧ 0 ≤ v ∧ v < m) (Tr.draw h0 (Nat.lt_of_lt_of_le (by omega : m.natAbs < 2 ^ 20) (Nat.pow_le_pow_right (by decide) (by decide))) fun v h1 h2 => ⟨v, rfl, h1, h2⟩) fun d ⟨v, e, h1, h2⟩ => by subst e; exact h v h1 h2
theorem tr_seq' {a b : SF} {ρ : Env} {P : Out → Prop} (R : Env → Prop) (h : Tr (a ρ) (fun o => ∃ ρ', o = .nx ρ' ∧ R ρ')) (h2 : ∀ ρ', R ρ' → Tr (b ρ') P) : Tr (seqS a b ρ) P :=
  tr_seq (h.mono fun o ⟨ρ', e, r⟩ => ⟨ρ', e, h2 ρ' r⟩)
theorem appO_ok {ds : List D} {d : D} (h : ds.length < 16777216) : appO (.o (.lst ds)) d = some (.lst (ds ++ [d])) := by
  show (if ds.length < sizeLine then some (D.lst (ds ++ [d])) else none) = _
  rw [if_pos (by rw [sizeLine_eq]; exact h)]
theorem aSum_T (p : List Int) : aSum [T p] = some (.int p.sum) := by
  show (intsD (T p)).map _ = _
  unfold intsD
  rw [seqD_T, Option.bind_some, intsOf_map]; rfl
theorem fm_filter {α : Type} (c : α → Bool) (g : α → D) : ∀ l : List α, (l.filterMap fun q => if c q = true then some (g q) else none) = (l.filter c).map g
  | [] => rfl
  | q :: l => by
    by_cases h : c q = true
    · rw [List.filterMap_cons_some (b := g q) (by simp only [h, if_true]), List.filter_cons_of_pos h, List.map_cons, fm_filter c g l]
    · rw [List.filterMap_cons_none (by simp only [h, if_false, Bool.false_eq_true]), List.filter_cons_of_neg h, fm_filter c g l]
theorem upC_down : ∀ (t : Nat) (lo : Int), lo = t → upC lo (-1) t = ((List.range t).map fun i : Nat => D.int (t - i))
  | 0, _, _ => rfl
  | t + 1, lo, h => by
    subst h
    rw [upC, upC_down t _ (by omega), List.range_succ_eq_map, List.map_cons, List.map_map]
    congr 1
    apply List.map_congr_left
    intro a _
    simp only [Function.comp]
    congr 1
    omega
theorem atI_last {α : Type} (q : List α) (z : α) : atI (q ++ [z]) (-1) = some z := by
  have hl : (q ++ [z]).length = q.length + 1 := by simp
  unfold atI ixN
  rw [hl, if_neg (by decide), if_pos (by omega), Option.bind_some, show ((-1 : Int) + ((q.length + 1 : Nat) : Int)).toNat = q.length by omega]
  simp
def loopS (b : GF) (body : SF) (ds : List D) : Out → M Out := fun o => match o with
  | .nx ρ' => forL b body ds ρ'
  | .ct ρ' => forL b body ds ρ'
  | .bk ρ' => ret (.nx ρ')
  | .rt o d => ret (.rt o d)
theorem forL_nil (b : GF) (body : SF) (ρ : Env) : forL b body [] ρ = ret (.nx ρ) := Eq.symm rfl
theorem forL_cons (b : GF) (body : SF) (d : D) (ds : List D) (ρ : Env) : forL b body (d :: ds) ρ = bnd (opt (b d ρ)) fun ρ1 => bnd (body ρ1) (loopS b body ds) := Eq.symm rfl
theorem loop_nx (b : GF) (body : SF) (ds : List D) (ρ : Env) : loopS b body ds (.nx ρ) = forL b body ds ρ := Eq.symm rfl
theorem loop_ct (b : GF) (body : SF) (ds : List D) (ρ : Env) : loopS b body ds (.ct ρ) = forL b body ds ρ := Eq.symm rfl
theorem loop_bk (b : GF) (body : SF) (ds : List D) (ρ : Env) : loopS b body ds (.bk ρ) = ret (.nx ρ) := Eq.symm rfl
theorem loop_rt (b : GF) (body : SF) (ds : List D) (o : Bool) (d : D) : loopS b body ds (.rt o d) = ret (.rt o d) := Eq.symm rfl
theorem okdT (n : Nat) (p : List Int) : okd (n + 1) (T p) = true := by
  simp [okd, T, List.all_map, List.all_eq_true]
theorem toPysI : ∀ p : List Int, toPys (p.map .int) = p.map PyData.int
  | [] => rfl
  | i :: p => by rw [List.map_cons, toPys, toPysI p]; rfl
end FL
end
section
set_option maxHeartbeats 1000000
/-! FL: equality, law_eq. -/
namespace FL
open PySem PySem.Spec PyProof.Rows L2
theorem eqD_refl {n : Nat} {d : D} (h : okd n d = true) : eqD d d = true := PySem.SeqAt.eqv_refl _ (okd_py n d h).1
theorem dEq_self {d : D} (h : okd 60 d = true) : dEq d d = some (.bl true) := by
  unfold dEq
  rw [h, eqD_refl h]; rfl
theorem dEq_int (i j : Int) : dEq (.int i) (.int j) = some (.bl (decide (i = j))) := by
  show some (D.bl (eqD _ _)) = _
  unfold eqD
  rw [toPy, toPy, PyData.eqv]
  congr 2
theorem dNe_int (i j : Int) : dNe (.int i) (.int j) = some (.bl (!decide (i = j))) := by
  show some (D.bl (!eqD _ _)) = _
  unfold eqD
  rw [toPy, toPy, PyData.eqv]
  congr 2
theorem eqvAll_ints : ∀ p q : List Int, PyData.eqvAll (p.map PyData.int) (q.map PyData.int) = decide (p = q)
  | [], [] => by rw [List.map_nil, PyData.eqvAll]; rfl
  | [], _ :: _ => by rw [List.map_nil, List.map_cons, PyData.eqvAll]; rfl
  | _ :: _, [] => by rw [List.map_nil, List.map_cons, PyData.eqvAll]; rfl
  | x :: xs, y :: ys => by
    rw [List.map_cons, List.map_cons, PyData.eqvAll, eqvAll_ints xs ys, PyData.eqv]
    simp [List.cons.injEq, Bool.decide_and]
    rfl
theorem eqD_T (p q : List Int) : eqD (T p) (T q) = decide (p = q) := by
  unfold eqD T
  rw [toPy, toPy, PyData.eqv, toPysI, toPysI, eqvAll_ints]
theorem dEq_T (p q : List Int) : dEq (T p) (T q) = some (.bl (decide (p = q))) := by
  unfold dEq
  rw [okdT 59, okdT 59, eqD_T]; rfl
theorem dNe_T (p q : List Int) : dNe (T p) (T q) = some (.bl (!decide (p = q))) := by
  unfold dNe
  rw [okdT 59, okdT 59, eqD_T]; rfl
theorem upI_eq : ∀ (n : Nat) (lo : Int), upI lo n = (List.range n).map fun k : Nat => D.int (lo + k)
  | 0, _ => rfl
  | n + 1, lo => by
    rw [upI, upI_eq n, List.range_succ_eq_map, List.map_cons, List.map_map]
    congr 1
    · simp
    · apply List.map_congr_left
      intro a _
      simp only [Function.comp]
      congr 1
      omega
theorem atI_lt {α : Type} {xs : List α} {k : Nat} (h : k < xs.length) : atI xs (k : Int) = some xs[k] := atI_nat (List.getElem?_eq_getElem h)
theorem fmn {α β : Type} : ∀ l : List α, List.filterMap (fun _ => (none : Option β)) l = []
  | [] => rfl
  | _ :: l => by rw [List.filterMap_cons_none rfl]; exact fmn l
/-- data that can be held against one another -/
def gd : Nat → D → Bool
  | _, .non => true
  | _, .bl _ => true
  | _, .int _ => true
  | _, .str x => PyData.strOk x
  | n + 1, .tup ds => ds.all (gd n) && decide (ds.length ≤ sizeLine)
  | n + 1, .lst ds => ds.all (gd n) && decide (ds.length ≤ sizeLine)
  | _, _ => false
theorem gd_okd : ∀ (n : Nat) (d : D), gd n d = true → okd n d = true
  | 0, d, h => by cases d <;> simp_all [gd, okd]
  | n + 1, d, h => by
    cases d <;> simp_all [gd, okd]
    all_goals exact fun x hx => gd_okd n x (h.1 x hx)
theorem okd_le : ∀ (n : Nat) (d : D), okd n d = true → okd (n + 1) d = true
  | 0, d, h => by cases d <;> simp_all [okd]
  | n + 1, d, h => by
    cases d <;> simp_all [okd]
    all_goals exact fun x hx => by simpa [okd] using okd_le n x (h x hx)
theorem okd_mono {n m : Nat} {d : D} (h : okd n d = true) (hm : n ≤ m) : okd m d = true := by
  induction hm with
  | refl => exact h
  | step _ ih => exact okd_le _ _ ih
def lawEqM : Nat → List D → M D
  | 0 => fun _ _ => none
  | k + 1 => runS 3 2 false (seqS (ifS (orB (truB (b1 (isiD "list") (vw 1))) (truB (b1 (isiD "tuple") (vw 1))))
  (seqS (ifS (orB (isB (b2 dNe (b1 (isiD "list") (vw 0)) (b1 (isiD "list") (vw 1)))) (isB (b2 dNe (b1 (isiD "tuple") (vw 0)) (b1 (isiD "tuple") (vw 1)))))
  (seqS (retS (cst (.bl false)))
  (nilS []))
  (nilS []))
  (seqS (ifS (isB (b2 dNe (bA aLen (aC (vw 0) aN)) (bA aLen (aC (vw 1) aN))))
  (seqS (retS (cst (.bl false)))
  (nilS []))
  (nilS []))
  (seqS (retS (b2 dEq (lcE (itR1 (bA aLen (aC (vw 1) aN))) (gN 2) (notB (truB (callE (lawEqM k) (aC (b2 dIx (vw 0) (vw 2)) (aC (b2 dIx (vw 1) (vw 2)) aN))))) (vr 2) [2]) (eLst aN)))
  (nilS []))))
  (nilS []))
  (seqS (ifS (isB (b2 dIsN (vw 1) (cst .non)))
  (seqS (retS (b2 dIsN (vw 0) (cst .non)))
  (nilS []))
  (nilS []))
  (seqS (ifS (truB (b1 (isiD "str") (vw 1)))
  (seqS (retS (andV (b1 (isiD "str") (vw 0)) (b2 dEq (vw 0) (vw 1))))
  (nilS []))
  (nilS []))
  (seqS (ifS (truB (b1 (isiD "bool") (vw 1)))
  (seqS (retS (andV (b1 (isiD "bool") (vw 0)) (b2 dEq (vw 0) (vw 1))))
  (nilS []))
  (nilS []))
  (seqS (retS (andV (b1 (isiD "int") (vw 0)) (andV (notV (b1 (isiD "bool") (vw 0))) (b2 dEq (vw 0) (vw 1)))))
  (nilS []))))))
theorem isi_list_non  : isiD "list" .non = some (.bl false) := Eq.symm (by kernel_rfl)
theorem isi_list_bl (b : Bool) : isiD "list" (.bl b) = some (.bl false) := Eq.symm (by kernel_rfl)
theorem isi_list_int (i : Int) : isiD "list" (.int i) = some (.bl false) := Eq.symm (by kernel_rfl)
theorem isi_list_str (x : Str) : isiD "list" (.str x) = some (.bl false) := Eq.symm (by kernel_rfl)
theorem isi_list_tup (ds : List D) : isiD "list" (.tup ds) = some (.bl false) := Eq.symm (by kernel_rfl)
theorem isi_list_lst (ds : List D) : isiD "list" (.lst ds) = some (.bl true) := Eq.symm (by kernel_rfl)
theorem isi_tuple_non  : isiD "tuple" .non = some (.bl false) := Eq.symm (by kernel_rfl)
theorem isi_tuple_bl (b : Bool) : isiD "tuple" (.bl b) = some (.bl false) := Eq.symm (by kernel_rfl)
theorem isi_tuple_int (i : Int) : isiD "tuple" (.int i) = some (.bl false) := Eq.symm (by kernel_rfl)
theorem isi_tuple_str (x : Str) : isiD "tuple" (.str x) = some (.bl false) := Eq.symm (by kernel_rfl)
theorem isi_tuple_tup (ds : List D) : isiD "tuple" (.tup ds) = some (.bl true) := Eq.symm (by kernel_rfl)
theorem isi_tuple_lst (ds : List D) : isiD "tuple" (.lst ds) = some (.bl false) := Eq.symm (by kernel_rfl)
theorem isi_str_non  : isiD "str" .non = some (.bl false) := Eq.symm (by kernel_rfl)
theorem isi_str_bl (b : Bool) : isiD "str" (.bl b) = some (.bl false) := Eq.symm (by kernel_rfl)
theorem isi_str_int (i : Int) : isiD "str" (.int i) = some (.bl false) := Eq.symm (by kernel_rfl)
theorem isi_str_str (x : Str) : isiD "str" (.str x) = some (.bl true) := Eq.symm (by kernel_rfl)
theorem isi_str_tup (ds : List D) : isiD "str" (.tup ds) = some (.bl false) := Eq.symm (by kernel_rfl)
theorem isi_str_lst (ds : List D) : isiD "str" (.lst ds) = some (.bl false) := Eq.symm (by kernel_rfl)
theorem isi_bool_non  : isiD "bool" .non = some (.bl false) := Eq.symm (by kernel_rfl)
theorem isi_bool_bl (b : Bool) : isiD "bool" (.bl b) = some (.bl true) := Eq.symm (by kernel_rfl)
theorem isi_bool_int (i : Int) : isiD "bool" (.int i) = some (.bl false) := Eq.symm (by kernel_rfl)
theorem isi_bool_str (x : Str) : isiD "bool" (.str x) = some (.bl false) := Eq.symm (by kernel_rfl)
theorem isi_bool_tup (ds : List D) : isiD "bool" (.tup ds) = some (.bl false) := Eq.symm (by kernel_rfl)
theorem isi_bool_lst (ds : List D) : isiD "bool" (.lst ds) = some (.bl false) := Eq.symm (by kernel_rfl)
theorem isi_int_non  : isiD "int" .non = some (.bl false) := Eq.symm (by kernel_rfl)
theorem isi_int_bl (b : Bool) : isiD "int" (.bl b) = some (.bl true) := Eq.symm (by kernel_rfl)
theorem isi_int_int (i : Int) : isiD "int" (.int i) = some (.bl true) := Eq.symm (by kernel_rfl)
theorem isi_int_str (x : Str) : isiD "int" (.str x) = some (.bl false) := Eq.symm (by kernel_rfl)
theorem isi_int_tup (ds : List D) : isiD "int" (.tup ds) = some (.bl false) := Eq.symm (by kernel_rfl)
theorem isi_int_lst (ds : List D) : isiD "int" (.lst ds) = some (.bl false) := Eq.symm (by kernel_rfl)
theorem dNe_bl (a b : Bool) : dNe (.bl a) (.bl b) = some (.bl (!(a == b))) := by
  show some (D.bl (!eqD _ _)) = _
  unfold eqD
  rw [toPy, toPy, PyData.eqv]
theorem dEq_nil : dEq (.lst []) (.lst []) = some (.bl true) := rfl
theorem lawEq_sc (n : Nat) (d : D) (h : gd 0 d = true) : lawEqM (n + 1) [d, d] = ret (.bl true) := by
  have hs := dEq_self (okd_mono (gd_okd _ _ h) (by omega : 0 ≤ 60))
  cases d <;> simp only [gd, Bool.false_eq_true] at h
  · simp only [lawEqM, isi_list_non, isi_list_bl, isi_list_int, isi_list_str, isi_list_tup, isi_list_lst, isi_tuple_non, isi_tuple_bl, isi_tuple_int, isi_tuple_str, isi_tuple_tup, isi_tuple_lst, isi_str_non, isi_str_bl, isi_str_int, isi_str_str, isi_str_tup, isi_str_lst, isi_bool_non, isi_bool_bl, isi_bool_int, isi_bool_str, isi_bool_tup, isi_bool_lst, isi_int_non, isi_int_bl, isi_int_int, isi_int_str, isi_int_tup, isi_int_lst, run_r, seq_r, cont_nx, cont_rt, cont_bk, cont_ct, if_r, sel_t, sel_f, ife_r, sele_t, sele_f, and_r, or_r, sela_t, sela_f, selo_t, selo_f, out_rt, out_rtO, out_nx, setD, setO, retS, retO, retV, retN, nilS, fgt, isB, truB, truD, notB, orV, andV, notV, b1, b2, bA, aC, aN, vr, vw, cst, nth, sset, bnd_r, opt_s, cond_true, cond_false, eTup_0, eTup_1, eTup_2, eTup_3, eLst_0, eLst_1, eLst_2, eLst_3, callE, mkE, List.replicate_succ, List.replicate_zero, List.length_cons, List.length_nil, List.length_map, if_true, if_false, Nat.reduceAdd, Nat.reduceSub, Bool.false_and, Bool.and_true, Bool.true_and, Bool.and_false, Bool.not_true, Bool.not_false, Bool.true_or, Bool.or_true, Bool.false_or, Bool.or_false, reduceIte, Bool.false_eq_true, dGt, dLt, dGe, dLe, dCmp, dSub, dNeg, aLen, seqD_tup, seqD_lst, seqD_T, Option.map_some, dIsN, dNotN, isNonD_non, isNonD_bl, isNonD_int, isNonD_str, isNonD_tup, isNonD_lst, isNonD_T, forL_nil, forL_cons, loop_nx, loop_ct, loop_bk, loop_rt, frzS, frzE, appS, parS, hs]
  · simp only [lawEqM, isi_list_non, isi_list_bl, isi_list_int, isi_list_str, isi_list_tup, isi_list_lst, isi_tuple_non, isi_tuple_bl, isi_tuple_int, isi_tuple_str, isi_tuple_tup, isi_tuple_lst, isi_str_non, isi_str_bl, isi_str_int, isi_str_str, isi_str_tup, isi_str_lst, isi_bool_non, isi_bool_bl, isi_bool_int, isi_bool_str, isi_bool_tup, isi_bool_lst, isi_int_non, isi_int_bl, isi_int_int, isi_int_str, isi_int_tup, isi_int_lst, run_r, seq_r, cont_nx, cont_rt, cont_bk, cont_ct, if_r, sel_t, sel_f, ife_r, sele_t, sele_f, and_r, or_r, sela_t, sela_f, selo_t, selo_f, out_rt, out_rtO, out_nx, setD, setO, retS, retO, retV, retN, nilS, fgt, isB, truB, truD, notB, orV, andV, notV, b1, b2, bA, aC, aN, vr, vw, cst, nth, sset, bnd_r, opt_s, cond_true, cond_false, eTup_0, eTup_1, eTup_2, eTup_3, eLst_0, eLst_1, eLst_2, eLst_3, callE, mkE, List.replicate_succ, List.replicate_zero, List.length_cons, List.length_nil, List.length_map, if_true, if_false, Nat.reduceAdd, Nat.reduceSub, Bool.false_and, Bool.and_true, Bool.true_and, Bool.and_false, Bool.not_true, Bool.not_false, Bool.true_or, Bool.or_true, Bool.false_or, Bool.or_false, reduceIte, Bool.false_eq_true, dGt, dLt, dGe, dLe, dCmp, dSub, dNeg, aLen, seqD_tup, seqD_lst, seqD_T, Option.map_some, dIsN, dNotN, isNonD_non, isNonD_bl, isNonD_int, isNonD_str, isNonD_tup, isNonD_lst, isNonD_T, forL_nil, forL_cons, loop_nx, loop_ct, loop_bk, loop_rt, frzS, frzE, appS, parS, hs]
  · simp only [lawEqM, isi_list_non, isi_list_bl, isi_list_int, isi_list_str, isi_list_tup, isi_list_lst, isi_tuple_non, isi_tuple_bl, isi_tuple_int, isi_tuple_str, isi_tuple_tup, isi_tuple_lst, isi_str_non, isi_str_bl, isi_str_int, isi_str_str, isi_str_tup, isi_str_lst, isi_bool_non, isi_bool_bl, isi_bool_int, isi_bool_str, isi_bool_tup, isi_bool_lst, isi_int_non, isi_int_bl, isi_int_int, isi_int_str, isi_int_tup, isi_int_lst, run_r, seq_r, cont_nx, cont_rt, cont_bk, cont_ct, if_r, sel_t, sel_f, ife_r, sele_t, sele_f, and_r, or_r, sela_t, sela_f, selo_t, selo_f, out_rt, out_rtO, out_nx, setD, setO, retS, retO, retV, retN, nilS, fgt, isB, truB, truD, notB, orV, andV, notV, b1, b2, bA, aC, aN, vr, vw, cst, nth, sset, bnd_r, opt_s, cond_true, cond_false, eTup_0, eTup_1, eTup_2, eTup_3, eLst_0, eLst_1, eLst_2, eLst_3, callE, mkE, List.replicate_succ, List.replicate_zero, List.length_cons, List.length_nil, List.length_map, if_true, if_false, Nat.reduceAdd, Nat.reduceSub, Bool.false_and, Bool.and_true, Bool.true_and, Bool.and_false, Bool.not_true, Bool.not_false, Bool.true_or, Bool.or_true, Bool.false_or, Bool.or_false, reduceIte, Bool.false_eq_true, dGt, dLt, dGe, dLe, dCmp, dSub, dNeg, aLen, seqD_tup, seqD_lst, seqD_T, Option.map_some, dIsN, dNotN, isNonD_non, isNonD_bl, isNonD_int, isNonD_str, isNonD_tup, isNonD_lst, isNonD_T, forL_nil, forL_cons, loop_nx, loop_ct, loop_bk, loop_rt, frzS, frzE, appS, parS, hs]
  · simp only [lawEqM, isi_list_non, isi_list_bl, isi_list_int, isi_list_str, isi_list_tup, isi_list_lst, isi_tuple_non, isi_tuple_bl, isi_tuple_int, isi_tuple_str, isi_tuple_tup, isi_tuple_lst, isi_str_non, isi_str_bl, isi_str_int, isi_str_str, isi_str_tup, isi_str_lst, isi_bool_non, isi_bool_bl, isi_bool_int, isi_bool_str, isi_bool_tup, isi_bool_lst, isi_int_non, isi_int_bl, isi_int_int, isi_int_str, isi_int_tup, isi_int_lst, run_r, seq_r, cont_nx, cont_rt, cont_bk, cont_ct, if_r, sel_t, sel_f, ife_r, sele_t, sele_f, and_r, or_r, sela_t, sela_f, selo_t, selo_f, out_rt, out_rtO, out_nx, setD, setO, retS, retO, retV, retN, nilS, fgt, isB, truB, truD, notB, orV, andV, notV, b1, b2, bA, aC, aN, vr, vw, cst, nth, sset, bnd_r, opt_s, cond_true, cond_false, eTup_0, eTup_1, eTup_2, eTup_3, eLst_0, eLst_1, eLst_2, eLst_3, callE, mkE, List.replicate_succ, List.replicate_zero, List.length_cons, List.length_nil, List.length_map, if_true, if_false, Nat.reduceAdd, Nat.reduceSub, Bool.false_and, Bool.and_true, Bool.true_and, Bool.and_false, Bool.not_true, Bool.not_false, Bool.true_or, Bool.or_true, Bool.false_or, Bool.or_false, reduceIte, Bool.false_eq_true, dGt, dLt, dGe, dLe, dCmp, dSub, dNeg, aLen, seqD_tup, seqD_lst, seqD_T, Option.map_some, dIsN, dNotN, isNonD_non, isNonD_bl, isNonD_int, isNonD_str, isNonD_tup, isNonD_lst, isNonD_T, forL_nil, forL_cons, loop_nx, loop_ct, loop_bk, loop_rt, frzS, frzE, appS, parS, hs]
theorem seqc_of {n m : Nat} (ih : ∀ (d : D), gd n d = true → lawEqM m [d, d] = ret (.bl true)) (ds : List D) (ha : ds.all (gd n) = true) : ∀ k ∈ List.range ds.length, atI ds ((0 : Int) + (k : Nat)) = some (ds[k]?.getD .non) ∧ lawEqM m [ds[k]?.getD .non, ds[k]?.getD .non] = ret (.bl true) := by
  intro k hk
  have hk' := List.mem_range.mp hk
  rw [Int.zero_add, atI_lt hk', List.getElem?_eq_getElem hk', Option.getD_some]
  exact ⟨rfl, ih _ (List.all_eq_true.mp ha _ (List.getElem_mem hk'))⟩
theorem rgLen {m : Nat} (h : m ≤ sizeLine) : rgOk (m : Int) = true := by
  rw [sizeLine_eq] at h
  unfold rgOk
  rw [decide_eq_true (by omega), decide_eq_true (by omega)]; rfl
theorem lawEq_tup {n m : Nat} {ds : List D} (ih : ∀ (d : D), gd n d = true → lawEqM m [d, d] = ret (.bl true)) (h : ds.all (gd n) = true ∧ ds.length ≤ sizeLine) : lawEqM (m + 1) [.tup ds, .tup ds] = ret (.bl true) := by
  unfold lawEqM
  simp only [isi_list_non, isi_list_bl, isi_list_int, isi_list_str, isi_list_tup, isi_list_lst, isi_tuple_non, isi_tuple_bl, isi_tuple_int, isi_tuple_str, isi_tuple_tup, isi_tuple_lst, isi_str_non, isi_str_bl, isi_str_int, isi_str_str, isi_str_tup, isi_str_lst, isi_bool_non, isi_bool_bl, isi_bool_int, isi_bool_str, isi_bool_tup, isi_bool_lst, isi_int_non, isi_int_bl, isi_int_int, isi_int_str, isi_int_tup, isi_int_lst, dNe_bl, dNe_int, run_r, seq_r, cont_nx, cont_rt, cont_bk, cont_ct, if_r, sel_t, sel_f, ife_r, sele_t, sele_f, and_r, or_r, sela_t, sela_f, selo_t, selo_f, out_rt, out_rtO, out_nx, setD, setO, retS, retO, retV, retN, nilS, fgt, isB, truB, truD, notB, orV, andV, notV, b1, b2, bA, aC, aN, vr, vw, cst, nth, sset, bnd_r, opt_s, cond_true, cond_false, eTup_0, eTup_1, eTup_2, eTup_3, eLst_0, eLst_1, eLst_2, eLst_3, callE, mkE, List.replicate_succ, List.replicate_zero, List.length_cons, List.length_nil, List.length_map, if_true, if_false, Nat.reduceAdd, Nat.reduceSub, Bool.false_and, Bool.and_true, Bool.true_and, Bool.and_false, Bool.not_true, Bool.not_false, Bool.true_or, Bool.or_true, Bool.false_or, Bool.or_false, reduceIte, Bool.false_eq_true, dGt, dLt, dGe, dLe, dCmp, dSub, dNeg, aLen, seqD_tup, seqD_lst, seqD_T, Option.map_some, dIsN, dNotN, isNonD_non, isNonD_bl, isNonD_int, isNonD_str, isNonD_tup, isNonD_lst, isNonD_T, forL_nil, forL_cons, loop_nx, loop_ct, loop_bk, loop_rt, frzS, frzE, appS, parS, beq_self_eq_true, decide_true]
  rw [lcE_pure (fun k : Nat => D.int ((0 : Int) + k)) (fun _ => none) (List.range ds.length) ?_ (by rw [List.length_range]; exact h.2) fun k hk => ?_]
  · simp only [run_r, seq_r, cont_nx, cont_rt, cont_bk, cont_ct, if_r, sel_t, sel_f, ife_r, sele_t, sele_f, and_r, or_r, sela_t, sela_f, selo_t, selo_f, out_rt, out_rtO, out_nx, setD, setO, retS, retO, retV, retN, nilS, fgt, isB, truB, truD, notB, orV, andV, notV, b1, b2, bA, aC, aN, vr, vw, cst, nth, sset, bnd_r, opt_s, cond_true, cond_false, eTup_0, eTup_1, eTup_2, eTup_3, eLst_0, eLst_1, eLst_2, eLst_3, callE, mkE, List.replicate_succ, List.replicate_zero, List.length_cons, List.length_nil, List.length_map, if_true, if_false, Nat.reduceAdd, Nat.reduceSub, Bool.false_and, Bool.and_true, Bool.true_and, Bool.and_false, Bool.not_true, Bool.not_false, Bool.true_or, Bool.or_true, Bool.false_or, Bool.or_false, reduceIte, Bool.false_eq_true, dGt, dLt, dGe, dLe, dCmp, dSub, dNeg, aLen, seqD_tup, seqD_lst, seqD_T, Option.map_some, dIsN, dNotN, isNonD_non, isNonD_bl, isNonD_int, isNonD_str, isNonD_tup, isNonD_lst, isNonD_T, forL_nil, forL_cons, loop_nx, loop_ct, loop_bk, loop_rt, frzS, frzE, appS, parS, fmn, Nat.zero_le, dEq_nil]
  · have := rgLen h.2
    simp only [itR1, rg1, this, run_r, seq_r, cont_nx, cont_rt, cont_bk, cont_ct, if_r, sel_t, sel_f, ife_r, sele_t, sele_f, and_r, or_r, sela_t, sela_f, selo_t, selo_f, out_rt, out_rtO, out_nx, setD, setO, retS, retO, retV, retN, nilS, fgt, isB, truB, truD, notB, orV, andV, notV, b1, b2, bA, aC, aN, vr, vw, cst, nth, sset, bnd_r, opt_s, cond_true, cond_false, eTup_0, eTup_1, eTup_2, eTup_3, eLst_0, eLst_1, eLst_2, eLst_3, callE, mkE, List.replicate_succ, List.replicate_zero, List.length_cons, List.length_nil, List.length_map, if_true, if_false, Nat.reduceAdd, Nat.reduceSub, Bool.false_and, Bool.and_true, Bool.true_and, Bool.and_false, Bool.not_true, Bool.not_false, Bool.true_or, Bool.or_true, Bool.false_or, Bool.or_false, reduceIte, Bool.false_eq_true, dGt, dLt, dGe, dLe, dCmp, dSub, dNeg, aLen, seqD_tup, seqD_lst, seqD_T, Option.map_some, dIsN, dNotN, isNonD_non, isNonD_bl, isNonD_int, isNonD_str, isNonD_tup, isNonD_lst, isNonD_T, forL_nil, forL_cons, loop_nx, loop_ct, loop_bk, loop_rt, frzS, frzE, appS, parS, upI_eq, Int.toNat_natCast]
  · obtain ⟨e1, e2⟩ := seqc_of ih ds h.1 k hk
    refine ⟨_, rfl, .inl ⟨rfl, ?_⟩⟩
    simp only [run_r, seq_r, cont_nx, cont_rt, cont_bk, cont_ct, if_r, sel_t, sel_f, ife_r, sele_t, sele_f, and_r, or_r, sela_t, sela_f, selo_t, selo_f, out_rt, out_rtO, out_nx, setD, setO, retS, retO, retV, retN, nilS, fgt, isB, truB, truD, notB, orV, andV, notV, b1, b2, bA, aC, aN, vr, vw, cst, nth, sset, bnd_r, opt_s, cond_true, cond_false, eTup_0, eTup_1, eTup_2, eTup_3, eLst_0, eLst_1, eLst_2, eLst_3, callE, mkE, List.replicate_succ, List.replicate_zero, List.length_cons, List.length_nil, List.length_map, if_true, if_false, Nat.reduceAdd, Nat.reduceSub, Bool.false_and, Bool.and_true, Bool.true_and, Bool.and_false, Bool.not_true, Bool.not_false, Bool.true_or, Bool.or_true, Bool.false_or, Bool.or_false, reduceIte, Bool.false_eq_true, dGt, dLt, dGe, dLe, dCmp, dSub, dNeg, aLen, seqD_tup, seqD_lst, seqD_T, Option.map_some, dIsN, dNotN, isNonD_non, isNonD_bl, isNonD_int, isNonD_str, isNonD_tup, isNonD_lst, isNonD_T, forL_nil, forL_cons, loop_nx, loop_ct, loop_bk, loop_rt, frzS, frzE, appS, parS, dIx, e1, e2]
theorem lawEq_lst {n m : Nat} {ds : List D} (ih : ∀ (d : D), gd n d = true → lawEqM m [d, d] = ret (.bl true)) (h : ds.all (gd n) = true ∧ ds.length ≤ sizeLine) : lawEqM (m + 1) [.lst ds, .lst ds] = ret (.bl true) := by
  unfold lawEqM
  simp only [isi_list_non, isi_list_bl, isi_list_int, isi_list_str, isi_list_tup, isi_list_lst, isi_tuple_non, isi_tuple_bl, isi_tuple_int, isi_tuple_str, isi_tuple_tup, isi_tuple_lst, isi_str_non, isi_str_bl, isi_str_int, isi_str_str, isi_str_tup, isi_str_lst, isi_bool_non, isi_bool_bl, isi_bool_int, isi_bool_str, isi_bool_tup, isi_bool_lst, isi_int_non, isi_int_bl, isi_int_int, isi_int_str, isi_int_tup, isi_int_lst, dNe_bl, dNe_int, run_r, seq_r, cont_nx, cont_rt, cont_bk, cont_ct, if_r, sel_t, sel_f, ife_r, sele_t, sele_f, and_r, or_r, sela_t, sela_f, selo_t, selo_f, out_rt, out_rtO, out_nx, setD, setO, retS, retO, retV, retN, nilS, fgt, isB, truB, truD, notB, orV, andV, notV, b1, b2, bA, aC, aN, vr, vw, cst, nth, sset, bnd_r, opt_s, cond_true, cond_false, eTup_0, eTup_1, eTup_2, eTup_3, eLst_0, eLst_1, eLst_2, eLst_3, callE, mkE, List.replicate_succ, List.replicate_zero, List.length_cons, List.length_nil, List.length_map, if_true, if_false, Nat.reduceAdd, Nat.reduceSub, Bool.false_and, Bool.and_true, Bool.true_and, Bool.and_false, Bool.not_true, Bool.not_false, Bool.true_or, Bool.or_true, Bool.false_or, Bool.or_false, reduceIte, Bool.false_eq_true, dGt, dLt, dGe, dLe, dCmp, dSub, dNeg, aLen, seqD_tup, seqD_lst, seqD_T, Option.map_some, dIsN, dNotN, isNonD_non, isNonD_bl, isNonD_int, isNonD_str, isNonD_tup, isNonD_lst, isNonD_T, forL_nil, forL_cons, loop_nx, loop_ct, loop_bk, loop_rt, frzS, frzE, appS, parS, beq_self_eq_true, decide_true]
  rw [lcE_pure (fun k : Nat => D.int ((0 : Int) + k)) (fun _ => none) (List.range ds.length) ?_ (by rw [List.length_range]; exact h.2) fun k hk => ?_]
  · simp only [run_r, seq_r, cont_nx, cont_rt, cont_bk, cont_ct, if_r, sel_t, sel_f, ife_r, sele_t, sele_f, and_r, or_r, sela_t, sela_f, selo_t, selo_f, out_rt, out_rtO, out_nx, setD, setO, retS, retO, retV, retN, nilS, fgt, isB, truB, truD, notB, orV, andV, notV, b1, b2, bA, aC, aN, vr, vw, cst, nth, sset, bnd_r, opt_s, cond_true, cond_false, eTup_0, eTup_1, eTup_2, eTup_3, eLst_0, eLst_1, eLst_2, eLst_3, callE, mkE, List.replicate_succ, List.replicate_zero, List.length_cons, List.length_nil, List.length_map, if_true, if_false, Nat.reduceAdd, Nat.reduceSub, Bool.false_and, Bool.and_true, Bool.true_and, Bool.and_false, Bool.not_true, Bool.not_false, Bool.true_or, Bool.or_true, Bool.false_or, Bool.or_false, reduceIte, Bool.false_eq_true, dGt, dLt, dGe, dLe, dCmp, dSub, dNeg, aLen, seqD_tup, seqD_lst, seqD_T, Option.map_some, dIsN, dNotN, isNonD_non, isNonD_bl, isNonD_int, isNonD_str, isNonD_tup, isNonD_lst, isNonD_T, forL_nil, forL_cons, loop_nx, loop_ct, loop_bk, loop_rt, frzS, frzE, appS, parS, fmn, Nat.zero_le, dEq_nil]
  · have := rgLen h.2
    simp only [itR1, rg1, this, run_r, seq_r, cont_nx, cont_rt, cont_bk, cont_ct, if_r, sel_t, sel_f, ife_r, sele_t, sele_f, and_r, or_r, sela_t, sela_f, selo_t, selo_f, out_rt, out_rtO, out_nx, setD, setO, retS, retO, retV, retN, nilS, fgt, isB, truB, truD, notB, orV, andV, notV, b1, b2, bA, aC, aN, vr, vw, cst, nth, sset, bnd_r, opt_s, cond_true, cond_false, eTup_0, eTup_1, eTup_2, eTup_3, eLst_0, eLst_1, eLst_2, eLst_3, callE, mkE, List.replicate_succ, List.replicate_zero, List.length_cons, List.length_nil, List.length_map, if_true, if_false, Nat.reduceAdd, Nat.reduceSub, Bool.false_and, Bool.and_true, Bool.true_and, Bool.and_false, Bool.not_true, Bool.not_false, Bool.true_or, Bool.or_true, Bool.false_or, Bool.or_false, reduceIte, Bool.false_eq_true, dGt, dLt, dGe, dLe, dCmp, dSub, dNeg, aLen, seqD_tup, seqD_lst, seqD_T, Option.map_some, dIsN, dNotN, isNonD_non, isNonD_bl, isNonD_int, isNonD_str, isNonD_tup, isNonD_lst, isNonD_T, forL_nil, forL_cons, loop_nx, loop_ct, loop_bk, loop_rt, frzS, frzE, appS, parS, upI_eq, Int.toNat_natCast]
  · obtain ⟨e1, e2⟩ := seqc_of ih ds h.1 k hk
    refine ⟨_, rfl, .inl ⟨rfl, ?_⟩⟩
    simp only [run_r, seq_r, cont_nx, cont_rt, cont_bk, cont_ct, if_r, sel_t, sel_f, ife_r, sele_t, sele_f, and_r, or_r, sela_t, sela_f, selo_t, selo_f, out_rt, out_rtO, out_nx, setD, setO, retS, retO, retV, retN, nilS, fgt, isB, truB, truD, notB, orV, andV, notV, b1, b2, bA, aC, aN, vr, vw, cst, nth, sset, bnd_r, opt_s, cond_true, cond_false, eTup_0, eTup_1, eTup_2, eTup_3, eLst_0, eLst_1, eLst_2, eLst_3, callE, mkE, List.replicate_succ, List.replicate_zero, List.length_cons, List.length_nil, List.length_map, if_true, if_false, Nat.reduceAdd, Nat.reduceSub, Bool.false_and, Bool.and_true, Bool.true_and, Bool.and_false, Bool.not_true, Bool.not_false, Bool.true_or, Bool.or_true, Bool.false_or, Bool.or_false, reduceIte, Bool.false_eq_true, dGt, dLt, dGe, dLe, dCmp, dSub, dNeg, aLen, seqD_tup, seqD_lst, seqD_T, Option.map_some, dIsN, dNotN, isNonD_non, isNonD_bl, isNonD_int, isNonD_str, isNonD_tup, isNonD_lst, isNonD_T, forL_nil, forL_cons, loop_nx, loop_ct, loop_bk, loop_rt, frzS, frzE, appS, parS, dIx, e1, e2]
theorem lawEq_ok : ∀ (n : Nat) (d : D), gd n d = true → lawEqM (n + 1) [d, d] = ret (.bl true) := by
  intro n
  induction n with
  | zero => exact fun d h => lawEq_sc 0 d h
  | succ n ih =>
    intro d h
    cases d with
    | tup ds => exact lawEq_tup ih (by simpa [gd] using h)
    | lst ds => exact lawEq_lst ih (by simpa [gd] using h)
    | non => exact lawEq_sc _ _ rfl
    | bl b => exact lawEq_sc _ _ rfl
    | int i => exact lawEq_sc _ _ rfl
    | str x => exact lawEq_sc _ _ h
    | dic kv => cases h
    | tok => cases h
theorem gd_le : ∀ (n : Nat) (d : D), gd n d = true → gd (n + 1) d = true
  | 0, d, h => by cases d <;> simp_all [gd]
  | n + 1, d, h => by
    cases d <;> simp_all [gd]
    all_goals exact fun x hx => by simpa [gd] using gd_le n x (h.1 x hx)
theorem gd_mono {n m : Nat} {d : D} (h : gd n d = true) (hm : n ≤ m) : gd m d = true := by
  induction hm with
  | refl => exact h
  | step _ ih => exact gd_le _ _ ih
theorem lawEq60 {d : D} (h : gd 59 d = true) : lawEqM 60 [d, d] = ret (.bl true) := lawEq_ok 59 d h
theorem gdT {p : List Int} (h : p.length ≤ sizeLine) : gd 59 (T p) = true := by
  simp [gd, T, h]
end FL
end
section
set_option maxHeartbeats 4000000
/-! FL: tuple * int of all sizes; sorted by reverse. -/
namespace FL
open PySem PySem.Spec PyProof.Rows L2
theorem tup_mul_same (l : Addr) (items : Array Value) (n : Nat) (dd : Option Addr) (sl : Array (Option Value)) (x : Int) (u : Tok) (c0 : (decide (x < -(2 ^ 63)) || decide (x ≥ 2 ^ 63)) = false) (c1 : (items.isEmpty || x == 1) = true) :
    Meets (Builtin.«tuple.__mul__» ⟨[.ref l, .int x u], []⟩) (fun _ R s => s.heap.get? l = some { cls := .type "tuple", dict := dd, data := .seq items n, slots := sl } ∧ R (.ok (.ret (Value.ref l))) s) :=
  .of_wp fun prog w A R s h => by
    obtain ⟨hp, g, d, tk, os⟩ := s
    obtain ⟨hl, h⟩ := h
    have f1 := AutoSeq1.idx_int
    wp_walk using wpAny_loadPart' hl
    refine wpAny_ite_false (decide_eq_false (by rw [c0]; exact Bool.false_ne_true)) ?_
    wp_walk using wpAny_loadPart' hl
    exact ⟨_, rfl, h⟩
theorem tup_mul_zero (l : Addr) (items : Array Value) (n : Nat) (dd : Option Addr) (sl : Array (Option Value)) (x : Int) (u : Tok) (c0 : (decide (x < -(2 ^ 63)) || decide (x ≥ 2 ^ 63)) = false) (c1 : (items.isEmpty || x == 1) = false) (c2 : (decide (x ≤ 0) || items.isEmpty) = true) :
    Meets (Builtin.«tuple.__mul__» ⟨[.ref l, .int x u], []⟩) (fun _ R s => s.heap.get? l = some { cls := .type "tuple", dict := dd, data := .seq items n, slots := sl } ∧
      R (.ok (.ret (Value.ref s.heap.objs.size))) { s with heap := s.heap.push { cls := Value.type "tuple", data := Data.seq #[] }, toks := s.toks }) :=
  .of_wp fun prog w A R s h => by
    obtain ⟨hp, g, d, tk, os⟩ := s
    obtain ⟨hl, h⟩ := h
    have f1 := AutoSeq1.idx_int
    wp_walk using wpAny_loadPart' hl
    repeat (first
      | (refine wpAny_ite_false (decide_eq_false (by rw [c0]; exact Bool.false_ne_true)) ?_; wp_walk using wpAny_loadPart' hl)
      | (refine wpAny_ite_false (decide_eq_false (by rw [c1]; exact Bool.false_ne_true)) ?_; wp_walk using wpAny_loadPart' hl)
      | (refine wpAny_ite_true (decide_eq_true c2) ?_; wp_walk using wpAny_loadPart' hl))
    exact ⟨_, rfl, h⟩
def rRepT1 (K : PySem.W.Frag) : R2 := fun x y H Q => ∃ l k xs, x = .ref l ∧ y = .int k ∧ SqT K H l xs ∧ (xs = [] ∨ k = 1) ∧ -(2 ^ 63) ≤ k ∧ k < 2 ^ 63 ∧ Q (.ref l) H
def rRepT0 (K : PySem.W.Frag) : R2 := fun x y H Q => ∃ l k xs, x = .ref l ∧ y = .int k ∧ SqT K H l xs ∧ xs ≠ [] ∧ -(2 ^ 63) ≤ k ∧ k ≤ 0 ∧ ∀ p, H p = none → Q (.ref p) (upd H p (.tup []))
section
variable {X : Cx}
theorem op_repT1 : OpR X (binaryOp .Mult) (rRepT1 X.K) := by
  intro pins s σ H x y v u Q I rx ry h
  obtain ⟨l, k, xs, rfl, rfl, hT, h1, h2, h3, q⟩ := h
  cases rx
  obtain ⟨t, rfl⟩ := ry
  obtain ⟨its, r, ⟨⟨cls, dd, data, sl⟩, ho, hc, n, hd⟩, hs⟩ := I.tuple hT
  simp only at hc hd
  subst hc hd
  have c0 : (decide (k < -(2 ^ 63)) || decide (k ≥ 2 ^ 63)) = false := by
    rw [decide_eq_false (by omega), decide_eq_false (by omega)] <;> rfl
  have c1 : (its.toArray.isEmpty || k == 1) = true := by
    rcases h1 with h1 | h1
    · subst h1
      have : its = [] := List.eq_nil_of_length_eq_zero r.length.symm
      subst this; rfl
    · subst h1; simp
  refine wpAny_binaryOp_repeat_ref (T := "tuple") (U := "int") (by decide) ⟨_, ho, rfl⟩ (fun s' => typeIs_int s' k t) noFill_tuple_mul F.fills_int_mul F.slot_int_rmul repeat_tuple F.slot_int_index.lookup
    (call_meets F.slot_int_rmul (typeIs_int s k t) F.entry_int_rmul (F.args_int_rmul_2 _ _) (int_rmul_tuple k t l its.toArray n dd sl)
      ⟨ho, rfl, ⟨_, ho, rfl⟩, call_meets F.slot_tuple_mul ⟨_, ho, rfl⟩ F.entry_tuple_mul (F.args_tuple_mul_2 _ _) (tup_mul_same l its.toArray n dd sl k t c0 c1) ⟨ho, ?_⟩⟩)
  exact ⟨.ref l, H, I, rfl, q⟩
theorem op_repT0 : OpR X (binaryOp .Mult) (rRepT0 X.K) := by
  intro pins s σ H x y v u Q I rx ry h
  obtain ⟨l, k, xs, rfl, rfl, hT, hne, h2, h3, q⟩ := h
  cases rx
  obtain ⟨t, rfl⟩ := ry
  obtain ⟨its, r, ⟨⟨cls, dd, data, sl⟩, ho, hc, n, hd⟩, hs⟩ := I.tuple hT
  simp only at hc hd
  subst hc hd
  have hle : its.length = xs.length := r.length.symm
  have hn : its ≠ [] := fun e => hne (by
    rw [e] at hle
    exact List.eq_nil_of_length_eq_zero hle.symm)
  have hi : its.toArray.isEmpty = false := by
    cases its with
    | nil => exact absurd rfl hn
    | cons a b => rfl
  have c0 : (decide (k < -(2 ^ 63)) || decide (k ≥ 2 ^ 63)) = false := by
    rw [decide_eq_false (by omega), decide_eq_false (by omega)] <;> rfl
  have c1 : (its.toArray.isEmpty || k == 1) = false := by
    rw [hi, Bool.false_or]
    exact beq_eq_false_iff_ne.mpr (by omega)
  have c2 : (decide (k ≤ 0) || its.toArray.isEmpty) = true := by
    rw [decide_eq_true h3]; rfl
  refine wpAny_binaryOp_repeat_ref (T := "tuple") (U := "int") (by decide) ⟨_, ho, rfl⟩ (fun s' => typeIs_int s' k t) noFill_tuple_mul F.fills_int_mul F.slot_int_rmul repeat_tuple F.slot_int_index.lookup
    (call_meets F.slot_int_rmul (typeIs_int s k t) F.entry_int_rmul (F.args_int_rmul_2 _ _) (int_rmul_tuple k t l its.toArray n dd sl)
      ⟨ho, rfl, ⟨_, ho, rfl⟩, call_meets F.slot_tuple_mul ⟨_, ho, rfl⟩ F.entry_tuple_mul (F.args_tuple_mul_2 _ _) (tup_mul_zero l its.toArray n dd sl k t c0 c1 c2) ⟨ho, ?_⟩⟩)
  refine ⟨.ref s.heap.objs.size, _, I.laid (t' := s.toks) (o := .tup []) (fun b ob q => Heap.get?_push_of_some _ q) (Nat.le_refl _) ?_, rfl, q _ (I.hok.fresh (Nat.le_refl _))⟩
  exact ⟨Nat.zero_le _, [], .nil, IsTup.new _ _⟩
end
def dMulT : D → D → Option D
  | .tup ds, .int k => if (decide (ds.length ≤ 1000) && decide (k ≤ 1000) && decide (-(2 ^ 63) ≤ k)) = true then some (.tup (List.replicate k.toNat ds).flatten) else none
  | _, _ => none
def rMulT (K : PySem.W.Frag) : R2 := fun x y H Q => rRepT1 K x y H Q ∨ (rRepT0 K x y H Q ∨ rRepT K x y H Q)
theorem op_mulT {X : Cx} : OpR X (binaryOp .Mult) (rMulT X.K) := op_repT1.or (op_repT0.or op_repT)
theorem flat_nil {α : Type} : ∀ n : Nat, (List.replicate n ([] : List α)).flatten = []
  | 0 => rfl
  | n + 1 => by rw [List.replicate_succ, List.flatten_cons, flat_nil n]; rfl
theorem mulT_pure {K : PySem.W.Frag} : Pure2 K (rMulT K) dMulT := by
  intro q F H ω x y a b d Q hs ho hx hy e k
  cases a <;> cases b <;> simp only [dMulT, reduceCtorEq] at e
  rename_i ds i
  split at e
  · rename_i h
    simp only [Bool.and_eq_true, decide_eq_true_eq] at h
    cases e
    have hx' := hx.rep_of (fun p h => h)
    obtain ⟨p, vs, rfl, h1, r1⟩ := hx.tup hs
    cases hy.int
    have hl := r1.length
    by_cases c1 : vs = [] ∨ i = 1
    · refine .inl ⟨p, i, vs, rfl, rfl, h1, c1, by omega, by omega, k F H _ (.mk0 hs ho) ?_⟩
      rcases c1 with c1 | c1
      · subst c1
        cases r1
        rw [flat_nil]; exact hx'
      · subst c1
        show Rep K q F (.ref p) (.tup (List.replicate 1 ds).flatten)
        rw [List.replicate_one, List.flatten_cons, List.flatten_nil, List.append_nil]; exact hx'
    · by_cases c2 : i ≤ 0
      · refine .inr (.inl ⟨p, i, vs, rfl, rfl, h1, fun z => c1 (.inl z), by omega, c2, fun z hz => ?_⟩)
        have e0 : i.toNat = 0 := by omega
        rw [e0] at k
        exact k _ _ _ (Post.alloc hs ho hz) (.tup (.inl (.inl upd_same)) .nil)
      · refine .inr (.inr ⟨p, i, vs, rfl, rfl, h1, fun z => c1 (.inl z), by omega, h.1.2, by omega, fun z hz => ?_⟩)
        exact k _ _ _ (Post.alloc hs ho hz) (.tup (.inl (.inl upd_same)) ((r1.rep _).mono (same_new (same_none hs hz))))
  · cases e
end FL
end
section
set_option maxHeartbeats 4000000
/-! FL: sorted by reverse, of lists and tuples of ints. -/
namespace FL
open PySem PySem.Spec PyProof.Rows L2
section
variable {prog : Program} {w : World} {A : Around} {E : Value → Shared → Prop} {s : Shared}
theorem sorted_tupK {l : Addr} {vs : List Value} {b : Bool} {kw : List (Str × Value)} {ltv : Value → Value → Bool} {Q : Value → Shared → Prop} (hk : ∀ a, Builtin.«list.sort» ⟨[.ref a], kw⟩ = Builtin.«list.sort» ⟨[.ref a], [(Str.ofString "reverse", .bool b)]⟩)
    (ha1 : argsOk "sorted" ⟨[.ref l], kw⟩) (ha2 : ∀ a, argsOk "list.sort" ⟨[a], kw⟩) (O : SrtO.Swo ltv) (hl : s.heap.IsTuple l vs.toArray) (hz : vs.length ≤ sizeLine)
    (hS : 2 ≤ vs.length → ∀ (h₁ : Heap) (a : Addr), h₁.get? a = some (seqObj "list" vs.toArray 0) → (∀ b o, s.heap.get? b = some o → b ≠ a ∧ h₁.get? b = some o) → SrtO.SortableO prog w A.in1.in1 { s with heap := h₁ } a vs ltv)
    (h : ∀ out : List Value, SrtO.Srtd ltv out → SrtO.Stb ltv out (if b = true then vs.reverse else vs) → Q (.ref (s.heap.objs.size + 1)) { s with heap := sortedAll s.heap vs (if b = true then out.toArray.reverse else out.toArray) }) :
    wpAny (model prog w) A (call (.builtin "sorted") [.ref l] kw) Q E s := by
  refine call_function_entry_kw PyProof.Rows.kind_sorted PyProof.Rows.plain_sorted PyProof.Rows.entry_sorted ha1 ?_
  unfold Builtin.«sorted»
  refine wpAny_bind (m := checkCount "sorted" 1 1 _) (wpAny_pure ?_)
  refine wpAny_bind (FL.collect_tuple hl ?_ hz)
  refine wpAny_bind (wpAny_newList ?_ hz)
  have z1 : ((s.heap.push (seqObj "list" #[] 0)).update s.heap.objs.size (Obj.mapSeq (· ++ vs.toArray))).objs.size = s.heap.objs.size + 1 := by rw [Heap.size_update, size_push']
  have z2 : (((s.heap.push (seqObj "list" #[] 0)).update s.heap.objs.size (Obj.mapSeq (· ++ vs.toArray))).push (seqObj "list" vs.toArray 0)).get? (s.heap.objs.size + 1) = some (seqObj "list" vs.toArray 0) := by rw [← z1]; exact Heap.get?_push_size _ rfl
  have z3 : ∀ b o, s.heap.get? b = some o → b ≠ s.heap.objs.size + 1 ∧ (((s.heap.push (seqObj "list" #[] 0)).update s.heap.objs.size (Obj.mapSeq (· ++ vs.toArray))).push (seqObj "list" vs.toArray 0)).get? b = some o := fun b o q => ⟨Nat.ne_of_lt (Nat.lt_succ_of_lt (Heap.lt_size q)), Heap.get?_push_of_some _ (by rw [Heap.get?_update_ne _ _ _ _ (Nat.ne_of_lt (Heap.lt_size q))]; exact Heap.get?_push_of_some _ q)⟩
  show wpAny _ _ _ _ _ { s with heap := ((s.heap.push (seqObj "list" #[] 0)).update s.heap.objs.size (Obj.mapSeq (· ++ vs.toArray))).push (seqObj "list" vs.toArray 0) }
  rw [z1]
  refine wpAny_bind (wpAny_holding (wpAny_call_entry_kw PyProof.Rows.slot_list_sort ⟨_, z2, rfl⟩ PyProof.Rows.entry_list_sort ?_ (ha2 _)))
  rw [hk]
  exact SrtR.list_sort_ordR O z2 hz (fun h2 => hS h2 _ _ z2 z3) fun out hs hb => ⟨_, rfl, wpAny_pure ⟨_, rfl, h out hs hb⟩⟩
end
section
variable {X : Cx}
def rSortRT (K : PySem.W.Frag) : List V → List V → Hp → VK → Prop := fun vs zs H Q => ∃ (a : Addr) (ns : List Int), vs = [V.ref a] ∧ zs = [.bl true] ∧ SqT K H a (ns.map V.int) ∧
  ∀ (ns' : List Int) (p : Addr), ns'.Perm ns → OrdB true ns' → H p = none → Q (.ref p) (upd H p (.lst (ns'.map V.int)))
theorem cr_sortRT : CallRK X (.builtin "sorted") [Str.ofString "reverse"] (rSortRT X.K) := by
  intro pins s σ H vs zs us ws Q I r rz h
  obtain ⟨a, ns, rfl, rfl, hs, q⟩ := h
  obtain rfl := Vals.ref1 r
  obtain ⟨w1, rfl, e1⟩ := vals1 rz
  obtain rfl : w1 = Value.bool true := e1
  obtain ⟨its, rv, hl, hz⟩ := I.tuple hs
  have hi := rv.ints
  refine sorted_tupK (fun _ => rfl) (PyProof.Rows.args_sorted_rev _ _) (fun _ => PyProof.Rows.args_list_sort_rev _ _) SrtO.swo_int (show s.heap.IsTuple a its.toArray from hl) (by rw [← rv.length]; exact hz) (fun h2 h₁ a' _ _ => SrtO.ints_sortable hi h2) fun out h1 h2 => ?_
  obtain ⟨ns', k1, k2, k3⟩ := SrtR.ints_outR hi h1 h2
  obtain ⟨ep, he'⟩ := PyProof.Rows.sortedAll_at s.heap its (if (true : Bool) = true then out.toArray.reverse else out.toArray)
  have hlen : (ns'.map V.int).length ≤ sizeLine := by
    rw [List.length_map, k2.length_eq]
    rw [List.length_map] at hz
    exact hz
  have e0 : ((if (true : Bool) = true then out.toArray.reverse else out.toArray).toList).toArray = (if (true : Bool) = true then out.toArray.reverse else out.toArray) := by rw [Array.toArray_toList]
  exact ⟨.ref _, upd H (s.heap.objs.size + 1) (.lst (ns'.map V.int)), I.laid (t' := s.toks) (fun _ _ => PyProof.Rows.sortedAll_old) (Nat.le_succ _) ⟨hlen, _, ep, vals_of_ints k1, by rw [e0]; exact he'⟩, rfl, q _ _ k2 k3 (I.hok.fresh (Nat.le_succ _))⟩
theorem CallRK.or {f : Value} {ks : List Str} {r1 r2 : List V → List V → Hp → VK → Prop} (h1 : CallRK X f ks r1) (h2 : CallRK X f ks r2) : CallRK X f ks (fun vs zs H Q => r1 vs zs H Q ∨ r2 vs zs H Q) := by
  intro pins s σ H vs zs us ws Q I r rz h
  rcases h with h | h
  · exact h1 pins s σ H vs zs us ws Q I r rz h
  · exact h2 pins s σ H vs zs us ws Q I r rz h
def dSortR (d : D) : Option D := (intsD d).map fun ns => .lst ((srtI ns).reverse.map .int)
theorem sortedR_uniq {l m : List Int} (h : l.Perm m) (h1 : OrdB true l) : l = (srtI m).reverse := by
  have h1' : l.reverse.Pairwise (· ≤ ·) := by rw [List.pairwise_reverse]; exact h1
  rw [← sorted_uniq ((List.reverse_perm l).trans (h.trans (srtI_perm m).symm)) h1' (srtI_sorted m), List.reverse_reverse]
variable {e : Expr} {f : EF} {p pos kp p2 : Pos} {k : Nat}
theorem f_sortR (hm : X.mg "sorted" = none) (he : PE X e (tB X.K f)) (hg : Gl X "sorted" := by rfl) (hv : bootBuiltins "sorted" = some (.builtin "sorted") := by first | assumption | decide +kernel)
    (hs : starEach [e] X.env = (false, eval e X.env) :: starEach [] X.env := by rfl) (hb : backTo pos (starEach [e] X.env) = (false, eval e X.env) :: backTo pos (starEach [] X.env) := by rfl) (hpl : (backTo pos (starEach [e] X.env)).any (·.1) = false := by rfl) :
    PE X (.Call (.Name "sorted" p) [e] [⟨some "reverse", .Constant (.bool true) k p2, kp⟩] pos) (tF X.K (b1 dSortR f)) :=
  pe_weak (pe_callBK (CallRK.or cr_sortedRev cr_sortRT) hg hm hv (pa_cons he pa_nil hs) (pk_cons pe_bl pk_nil) (by decide) (by decide) hb hpl) fun σ H Q ⟨c, F, ρ, ω, d, ω', w, e, q⟩ => by
    obtain ⟨x, ω1, e1, e⟩ := bnd_some e
    obtain ⟨e4, rfl⟩ := opt_some e
    refine ⟨c, F, ρ, ω, x, _, w, e1, fun F1 H1 v p1 r1 => ?_⟩
    unfold dSortR at e4
    rw [Option.map_eq_some_iff] at e4
    obtain ⟨ns, e5, rfl⟩ := e4
    have fin : ∀ (ns' : List Int) (p : Addr), ns'.Perm ns → OrdB true ns' → H1 p = none → Q (.ref p) (upd H1 p (.lst (ns'.map V.int))) := fun ns' t h1 h2 ht => by
      rw [sortedR_uniq h1 h2]
      exact q _ _ _ (p1.trans (Post.fresh p1.le p1.ora ht)) (none_back p1 ht) (same_none p1.le ht) ⟨_, upd_same, reps_ints _⟩
    rcases intsD_some e5 with rfl | rfl
    · obtain ⟨p, vs, rfl, h1, r⟩ := r1.lst p1.le
      cases r.ints
      exact .inl ⟨p, ns, rfl, rfl, .inl (.inl h1), fin⟩
    · obtain ⟨p, vs, rfl, h1, r⟩ := r1.tup p1.le
      cases r.ints
      exact .inr ⟨p, ns, rfl, rfl, h1, fin⟩
end
end FL
end
section
set_option maxHeartbeats 1000000
/-! FL: a[i] op= e on an own list. -/
namespace FL
open PySem PySem.Spec PyProof.Rows L2
def getIO : SV → D → Option D
  | .o (.lst ds), .int j => atI ds j
  | _, _ => none
theorem getIO_some {x : SV} {k d : D} (h : getIO x k = some d) : ∃ ds j, x = .o (.lst ds) ∧ k = .int j ∧ atI ds j = some d := by
  unfold getIO at h
  split at h
  · exact ⟨_, _, rfl, rfl, h⟩
  · cases h
def augIS (i : Nat) (o : D → D → Option D) (f g : EF) : SF := fun ρ => bnd (f ρ) fun k => bnd (opt (getIO (nth ρ i) k)) fun x => bnd (g ρ) fun y => bnd (opt (o x y)) fun z => bnd (opt (setIO (nth ρ i) k z)) fun l => ret (.nx (sset ρ i (.o l)))
section
variable {X : Cx} {e : Expr} {f g : EF} {pos : Pos}
theorem pget_list : PGet X (rIxL X.K) := by
  intro pins s σ H x y v u Q I rx ry h
  obtain ⟨p, xs, i, z, rfl, rfl, hq, he, q⟩ := h
  cases rx
  obtain ⟨t, rfl⟩ := ry
  obtain ⟨its, r, pl, hz⟩ := I.list hq
  obtain ⟨j, g1, g2, g3, g4, g5⟩ := atI_get he
  obtain ⟨w', ew, rw'⟩ := r.get g2
  have hl := r.length
  have hn := line63
  by_cases h0 : 0 ≤ i
  · have hj : i.toNat = j := by
      rw [seqIndex_of h0 g5] at g1
      exact Option.some.inj g1
    exact wpAny_getItem_list pl.isList h0 (by omega) (by rw [hj]; simpa using ew) ⟨z, H, I, rw', q⟩
  · have hj : (i + (its.toArray.size : Int)).toNat = j := by
      rw [seqIndex_neg (by omega) g4] at g1
      rw [List.size_toArray, ← hl]
      exact Option.some.inj g1
    exact wpAny_getItem_list_neg pl.isList (by omega) (by rw [List.size_toArray] <;> omega) (by omega) (by rw [hj]; simpa using ew) ⟨z, H, I, rw', q⟩
theorem s_augI (i : Nat) {op : Operator} {t : TIp} {o : D → D → Option D} (hp : PIp X op t) (hr : Pure2 X.K t o) {ob ix : Expr} {p2 : Pos} (ho : PE X ob (tVar i)) (hi : PE X ix (tB X.K f)) (he : PE X e (tB X.K g))
    (ha : ∀ ov iv new, augStore ix ov iv new = (do holding [new, ov, iv] (setItem ov iv new); release [new, ov, iv] []; pure .next) := by intros; rfl) :
    PS X (.AugAssign (.Subscript ob ix p2) op e pos) (tS X.K (augIS i o f g)) := ps_weak (ps_augS ho hi pget_list he hp set_list ha) fun D σ H ⟨c, F, ρ, ω, oo, ω', w, e, k⟩ => by
  obtain ⟨kx, ω1, e1, a1⟩ := bnd_some e
  obtain ⟨x, ω2, e2, a2⟩ := bnd_some a1
  obtain ⟨e2', rfl⟩ := opt_some e2
  obtain ⟨y, ω3, e3, a3⟩ := bnd_some a2
  obtain ⟨z, ω4, e4, a4⟩ := bnd_some a3
  obtain ⟨e4', rfl⟩ := opt_some e4
  obtain ⟨l, ω5, e5, a5⟩ := bnd_some a4
  obtain ⟨e5', rfl⟩ := opt_some e5
  obtain ⟨rfl, rfl⟩ := ret_some a5
  obtain ⟨ds, j, hn, rfl, hx⟩ := getIO_some e2'
  obtain ⟨ds2, j2, n, hn2, hj2, hz, rfl⟩ := setIO_some e5'
  rw [hn] at hn2
  cases hn2
  cases hj2
  obtain ⟨p, h1, h2⟩ := w.ow i _ hn
  obtain ⟨vs, hv, r⟩ := h2.r
  refine ⟨_, h1, c, F, ρ, ω, _, _, w, e1, fun F1 H1 u p1 r1 => ?_⟩
  cases r1.int
  have hv1 : H1 p = some (.lst vs) := p1.kept _ _ hv h2.qf
  have rr := r.mono p1.le0
  have hx' : ∃ v, atI vs j = some v ∧ Rep X.K c.q F1 v x := by
    unfold atI at hx ⊢
    rw [r.length]
    cases e : ixN ds.length j with
    | none => rw [e] at hx; cases hx
    | some m =>
      rw [e] at hx
      exact rr.get hx
  obtain ⟨v, hv2, rv⟩ := hx'
  refine ⟨p, vs, j, v, rfl, rfl, SqL.of hv1, hv2, ?_⟩
  refine ⟨c, F1, ρ, _, y, _, w.ext p1, e3, fun F2 H2 u2 p2 r2 => ?_⟩
  refine hr c.q F2 H2 _ v u2 x y z _ p2.le p2.ora (.inl (rv.mono p2.le0)) r2 e4' fun F3 H3 u3 p3 r3 => ?_
  have hv3 : H3 p = some (.lst vs) := p3.kept _ _ (p2.kept _ _ hv1 h2.qf) h2.qf
  have w3 := ((w.ext p1).ext p2).ext p3
  exact ⟨p, vs, j, n, rfl, rfl, hv3, by rw [r.length]; exact hz, k F3 _ σ (w3.write hn h1 ⟨_, upd_same, (((rr.mono p2.le0).mono p3.le0).set n r3)⟩)⟩
end
end FL
end
section
set_option maxHeartbeats 1000000
/-! FL: list(range(..)), tuple(range(..)). -/
namespace FL
open PySem PySem.Spec PyProof.Rows L2
def rgL (a : Int) (n : Nat) : List Int := (List.range n).map fun k : Nat => a + k
def lr2 : D → D → Option (List Int)
  | .int i, .int j => if (rgOk i && rgOk j && decide ((j - i).toNat ≤ 16777216)) = true then some (rgL i (j - i).toNat) else none
  | _, _ => none
def lstR1 (f : EF) : EF := fun ρ => bnd (f ρ) fun d => opt ((lr2 (.int 0) d).map fun ns => .lst (ns.map .int))
def lstR2 (f g : EF) : EF := fun ρ => bnd (f ρ) fun d => bnd (g ρ) fun e => opt ((lr2 d e).map fun ns => .lst (ns.map .int))
def tupR1 (f : EF) : EF := fun ρ => bnd (f ρ) fun d => opt ((lr2 (.int 0) d).map fun ns => .tup (ns.map .int))
def tupR2 (f g : EF) : EF := fun ρ => bnd (f ρ) fun d => bnd (g ρ) fun e => opt ((lr2 d e).map fun ns => .tup (ns.map .int))
theorem lr2_some {x y : D} {ns : List Int} (h : lr2 x y = some ns) : ∃ i j, x = .int i ∧ y = .int j ∧ RgOk i j ∧ ns.map V.int = rgV i j := by
  unfold lr2 at h
  split at h
  · rename_i i j
    split at h
    · rename_i hc
      simp only [Bool.and_eq_true, decide_eq_true_eq] at hc
      obtain ⟨h1, h2⟩ := rgOk_iff hc.1.1
      obtain ⟨h3, h4⟩ := rgOk_iff hc.1.2
      cases h
      refine ⟨i, j, rfl, rfl, ⟨h1, h2, h3, h4, hc.2⟩, ?_⟩
      unfold rgL rgV
      rw [List.map_map]; rfl
    · cases h
  · cases h
section
variable {X : Cx} {a b : Expr} {f g : EF} {p pos p2 pos2 : Pos}
theorem f_listR1 (hc : X.calm = true) (hm : X.mg "list" = none) (hm2 : X.mg "range" = none) (ha : PE X a (tB X.K f)) (hg : Gl X "list" := by rfl) (hg2 : Gl X "range" := by rfl)
    (na : starEach [a] X.env = (false, eval a X.env) :: starEach [] X.env := by rfl) (nb : starEach [.Call (.Name "range" p2) [a] [] pos2] X.env = (false, eval (.Call (.Name "range" p2) [a] [] pos2) X.env) :: starEach [] X.env := by rfl) :
    PE X (.Call (.Name "list" p) [.Call (.Name "range" p2) [a] [] pos2] [] pos) (tF X.K (lstR1 f)) :=
  pe_weak (pe_listRg hc hg hm (prg_1 hg2 hm2 ha na) nb) fun σ H Q ⟨c, F, ρ, ω, d, ω', w, e, q⟩ => by
    obtain ⟨x, ω1, e1, a1⟩ := bnd_some e
    obtain ⟨e2, rfl⟩ := opt_some a1
    rw [Option.map_eq_some_iff] at e2
    obtain ⟨ns, e3, rfl⟩ := e2
    obtain ⟨i, j, hi, rfl, ok, hv⟩ := lr2_some e3
    cases hi
    refine ⟨c, F, ρ, ω, _, _, w, e1, fun F1 H1 v p1 r1 => ?_⟩
    cases r1.int
    refine ⟨j, rfl, ok, fun t ht => ?_⟩
    rw [← hv]
    exact q _ _ _ (p1.trans (Post.fresh p1.le p1.ora ht)) (none_back p1 ht) (same_none p1.le ht) ⟨_, upd_same, reps_ints _⟩
theorem f_listR2 (hc : X.calm = true) (hm : X.mg "list" = none) (hm2 : X.mg "range" = none) (ha : PE X a (tB X.K f)) (hb : PE X b (tB X.K g)) (hg : Gl X "list" := by rfl) (hg2 : Gl X "range" := by rfl)
    (na : starEach [a, b] X.env = (false, eval a X.env) :: starEach [b] X.env := by rfl) (na2 : starEach [b] X.env = (false, eval b X.env) :: starEach [] X.env := by rfl) (hp : (backTo pos2 (starEach [b] X.env)).any (·.1) = false := by rfl) (nb : starEach [.Call (.Name "range" p2) [a, b] [] pos2] X.env = (false, eval (.Call (.Name "range" p2) [a, b] [] pos2) X.env) :: starEach [] X.env := by rfl) :
    PE X (.Call (.Name "list" p) [.Call (.Name "range" p2) [a, b] [] pos2] [] pos) (tF X.K (lstR2 f g)) :=
  pe_weak (pe_listRg hc hg hm (prg_2 hg2 hm2 ha hb na na2 hp) nb) fun σ H Q ⟨c, F, ρ, ω, d, ω', w, e, q⟩ => by
    obtain ⟨x, ω1, e1, a1⟩ := bnd_some e
    obtain ⟨y, ω2, e2, a2⟩ := bnd_some a1
    obtain ⟨e4, rfl⟩ := opt_some a2
    rw [Option.map_eq_some_iff] at e4
    obtain ⟨ns, e3, rfl⟩ := e4
    obtain ⟨i, j, rfl, rfl, ok, hv⟩ := lr2_some e3
    refine ⟨c, F, ρ, ω, _, _, w, e1, fun F1 H1 v p1 r1 => ⟨c, F1, ρ, ω1, _, _, w.ext p1, e2, fun F2 H2 u p2 r2 => ?_⟩⟩
    cases r1.int
    cases r2.int
    refine ⟨i, j, rfl, rfl, ok, fun t ht => ?_⟩
    rw [← hv]
    exact q _ _ _ ((p1.trans p2).trans (Post.fresh p2.le p2.ora ht)) (none_back (p1.trans p2) ht) (same_none p2.le ht) ⟨_, upd_same, reps_ints _⟩
theorem e_tupR1 (hc : X.calm = true) (hm : X.mg "tuple" = none) (hm2 : X.mg "range" = none) (ha : PE X a (tB X.K f)) (hg : Gl X "tuple" := by rfl) (hg2 : Gl X "range" := by rfl)
    (na : starEach [a] X.env = (false, eval a X.env) :: starEach [] X.env := by rfl) (nb : starEach [.Call (.Name "range" p2) [a] [] pos2] X.env = (false, eval (.Call (.Name "range" p2) [a] [] pos2) X.env) :: starEach [] X.env := by rfl) :
    PE X (.Call (.Name "tuple" p) [.Call (.Name "range" p2) [a] [] pos2] [] pos) (tE X.K (tupR1 f)) :=
  pe_weak (pe_tupRg hc hg hm (prg_1 hg2 hm2 ha na) nb) fun σ H Q ⟨c, F, ρ, ω, d, ω', w, e, q⟩ => by
    obtain ⟨x, ω1, e1, a1⟩ := bnd_some e
    obtain ⟨e2, rfl⟩ := opt_some a1
    rw [Option.map_eq_some_iff] at e2
    obtain ⟨ns, e3, rfl⟩ := e2
    obtain ⟨i, j, hi, rfl, ok, hv⟩ := lr2_some e3
    cases hi
    refine ⟨c, F, ρ, ω, _, _, w, e1, fun F1 H1 v p1 r1 => ?_⟩
    cases r1.int
    refine ⟨j, rfl, ok, fun t ht => ?_⟩
    rw [← hv]
    exact q _ _ _ (p1.trans (Post.alloc p1.le p1.ora ht)) (.tup (.inl (.inl upd_same)) (reps_ints _))
theorem e_tupR2 (hc : X.calm = true) (hm : X.mg "tuple" = none) (hm2 : X.mg "range" = none) (ha : PE X a (tB X.K f)) (hb : PE X b (tB X.K g)) (hg : Gl X "tuple" := by rfl) (hg2 : Gl X "range" := by rfl)
    (na : starEach [a, b] X.env = (false, eval a X.env) :: starEach [b] X.env := by rfl) (na2 : starEach [b] X.env = (false, eval b X.env) :: starEach [] X.env := by rfl) (hp : (backTo pos2 (starEach [b] X.env)).any (·.1) = false := by rfl) (nb : starEach [.Call (.Name "range" p2) [a, b] [] pos2] X.env = (false, eval (.Call (.Name "range" p2) [a, b] [] pos2) X.env) :: starEach [] X.env := by rfl) :
    PE X (.Call (.Name "tuple" p) [.Call (.Name "range" p2) [a, b] [] pos2] [] pos) (tE X.K (tupR2 f g)) :=
  pe_weak (pe_tupRg hc hg hm (prg_2 hg2 hm2 ha hb na na2 hp) nb) fun σ H Q ⟨c, F, ρ, ω, d, ω', w, e, q⟩ => by
    obtain ⟨x, ω1, e1, a1⟩ := bnd_some e
    obtain ⟨y, ω2, e2, a2⟩ := bnd_some a1
    obtain ⟨e4, rfl⟩ := opt_some a2
    rw [Option.map_eq_some_iff] at e4
    obtain ⟨ns, e3, rfl⟩ := e4
    obtain ⟨i, j, rfl, rfl, ok, hv⟩ := lr2_some e3
    refine ⟨c, F, ρ, ω, _, _, w, e1, fun F1 H1 v p1 r1 => ⟨c, F1, ρ, ω1, _, _, w.ext p1, e2, fun F2 H2 u p2 r2 => ?_⟩⟩
    cases r1.int
    cases r2.int
    refine ⟨i, j, rfl, rfl, ok, fun t ht => ?_⟩
    rw [← hv]
    exact q _ _ _ ((p1.trans p2).trans (Post.alloc p2.le p2.ora ht)) (.tup (.inl (.inl upd_same)) (reps_ints _))
end
end FL
end
section
set_option maxHeartbeats 1000000
/-! FL: list.count. -/
namespace FL
open PySem PySem.Spec PyProof.Rows L2
def dCount : D → D → Option D
  | .lst ds, .int k => (intsOf ds).map fun ns => .int (ns.count k : Nat)
  | _, _ => none
section
variable {X : Cx} {o e : Expr} {f g : EF} {apos cpos : Pos}
theorem e_count (ho : PE X o (tB X.K f)) (he : PE X e (tB X.K g)) (hs : starEach [e] X.env = (false, eval e X.env) :: starEach [] X.env := by rfl)
    (hbase : attributeBase o "count" X.env (eval o X.env) = eval o X.env := by rfl)
    (hfew : ((backTo cpos (starEach (e :: []) X.env)).all (fun x => !x.1) && (backToKw cpos (keywordEach [] X.env)).all (fun x => x.1.isSome)
      && decide ((e :: ([] : List Expr)).length + ([] : List Keyword).length + (if ([] : List Keyword).isEmpty then 0 else 1) < 30)) = true := by rfl)
    (hline : (apos.endLine == cpos.line) = true := by rfl) (hplain : (backTo cpos (starEach ([] : List Expr) X.env)).any (·.1) = false := by rfl) :
    PE X (.Call (.Attribute o "count" apos) [e] [] cpos) (tE X.K (b2 dCount f g)) :=
  pe_weak (pe_bm PySem.F.plainAttrs_list PySem.F.slot_list_count PySem.F.type_list_count mt_lcount ho (pa_cons he pa_nil hs) hbase hfew hline hs hplain) fun σ H Q ⟨c, F, ρ, ω, d, ω', w, e, q⟩ => by
    obtain ⟨x, ω1, e1, a1⟩ := bnd_some e
    obtain ⟨y, ω2, e2, a2⟩ := bnd_some a1
    obtain ⟨e4, rfl⟩ := opt_some a2
    unfold dCount at e4
    split at e4
    · rename_i ds k
      rw [Option.map_eq_some_iff] at e4
      obtain ⟨ns, e5, rfl⟩ := e4
      cases intsOf_eq e5
      refine ⟨c, F, ρ, ω, _, _, w, e1, fun F1 H1 v p1 r1 => ?_⟩
      obtain ⟨p, vs, rfl, h1, r⟩ := r1.lst p1.le
      refine ⟨.inl ⟨rfl, vs, .inl (.inl h1)⟩, c, F1, ρ, ω1, _, _, w.ext p1, e2, fun F2 H2 u p2 r2 => ?_⟩
      have r1' := r1.ext p2
      obtain ⟨p', vs', ep, h2, r'⟩ := r1'.lst p2.le
      cases ep
      cases r'.ints
      cases r2.int
      exact ⟨p, ns, k, rfl, rfl, .inl (.inl h2), q F2 H2 _ (p1.trans p2) (.int _)⟩
    · cases e4
end
end FL
end
section
set_option maxHeartbeats 2000000
/-! FL: t[::-1] of a tuple. -/
namespace FL
open PySem PySem.Spec PyProof.Rows L2
section
variable {prog : Program} {w : World} {A : Around} {E : Value → Shared → Prop} {s : Shared}
theorem fmc {α β : Type} {f g : α → Option β} : ∀ {l : List α}, (∀ a ∈ l, f a = g a) → l.filterMap f = l.filterMap g
  | [], _ => rfl
  | a :: l, h => by rw [List.filterMap_cons, List.filterMap_cons, h a (by simp), fmc fun b hb => h b (by simp [hb])]
theorem back_parts (n : Nat) : Builtin.Slice.sliceAdjust none none (-1) (n : Int) = ((n : Int) - 1, -1) ∧ Builtin.Slice.slicePlaces ((n : Int) - 1) (-1) (-1) = n := by
  constructor
  · unfold Builtin.Slice.sliceAdjust
    simp only [show ((-1 : Int) < 0) by decide, if_true]
  · unfold Builtin.Slice.slicePlaces
    rw [if_neg (by decide)]
    by_cases h : (n : Int) - 1 > -1
    · rw [if_pos h]; simp
    · rw [if_neg h]; omega
theorem back_applied {sl : Addr} {vk : Value} {n : Nat} {Q : Int × Int × Nat → Shared → Prop} (hs : s.heap.IsSliceOf sl .none .none vk) (pk : IsPart vk (some (-1))) (h : Q ((n : Int) - 1, -1, n) s) : wpAny (model prog w) A (Builtin.Slice.sliceApplied (.ref sl) (pure (n : Int))) Q E s := by
  obtain ⟨os, hos, hcs, hds⟩ := id hs
  unfold Builtin.Slice.sliceApplied Builtin.Slice.sliceFields
  refine wpAny_bind (wpAny_bind (wpAny_field hos hds (x := .none) rfl (wpAny_bind (wpAny_field hos hds (x := .none) rfl (wpAny_bind (wpAny_field hos hds (x := vk) rfl (wpAny_pure ?_)))))))
  refine wpAny_bind (HT.slicePart_ pk ?_)
  show wpAny _ _ (if ((-1 : Int) == 0) = true then _ else _) _ _ s
  rw [if_neg (by decide)]
  refine wpAny_bind (HT.slicePart_ .none (wpAny_bind (HT.slicePart_ .none (wpAny_bind (wpAny_pure ?_)))))
  show wpAny _ _ (match Builtin.Slice.sliceAdjust none none (-1) (n : Int) with | (lo, hi) => pure (lo, (-1 : Int), Builtin.Slice.slicePlaces lo hi (-1))) _ _ s
  rw [(back_parts n).1]
  show wpAny _ _ (pure ((n : Int) - 1, (-1 : Int), Builtin.Slice.slicePlaces ((n : Int) - 1) (-1) (-1))) _ _ s
  rw [(back_parts n).2]
  exact wpAny_pure h
theorem back_pick (xs : Array Value) : ((List.range xs.size).filterMap fun (m : Nat) => xs[((xs.size : Int) - 1 + (m : Int) * (-1)).toNat]?).toArray = xs.toList.reverse.toArray := by
  congr 1
  have e : ∀ l : List Value, ((List.range l.length).filterMap fun (m : Nat) => l[((l.length : Int) - 1 + (m : Int) * (-1)).toNat]?) = l.reverse := fun l => by
    have h1 : ((List.range l.length).filterMap fun (m : Nat) => l[((l.length : Int) - 1 + (m : Int) * (-1)).toNat]?) = (List.range l.length).filterMap fun m => l.reverse[m]? := by
      apply fmc
      intro m hm
      have := List.mem_range.mp hm
      rw [List.getElem?_reverse this, show ((l.length : Int) - 1 + (m : Int) * (-1)).toNat = l.length - 1 - m by omega]
    rw [h1]
    have h2 : ∀ k : List Value, (List.range k.length).filterMap (fun m => k[m]?) = k := fun k => by
      apply List.ext_getElem?
      intro i
      have h3 : (List.range k.length).filterMap (fun m => k[m]?) = (List.range k.length).map fun m => k.getD m .none := by
        rw [← List.filterMap_eq_map]
        apply fmc
        intro m hm
        have := List.mem_range.mp hm
        simp [List.getElem?_eq_getElem this, List.getD_eq_getElem?_getD]
      rw [h3]
      by_cases hi : i < k.length
      · rw [List.getElem?_map, List.getElem?_range hi, Option.map_some, List.getD_eq_getElem?_getD, List.getElem?_eq_getElem hi]; rfl
      · rw [List.getElem?_eq_none (by simp; omega), List.getElem?_eq_none (by omega)]
    have := h2 l.reverse
    rwa [List.length_reverse] at this
  have h := e xs.toList
  simpa using h
theorem item_back {t sl : Addr} {items : Array Value} {vk : Value} {Q : Value → Shared → Prop} (ht : IsTup s.heap t items) (hs : s.heap.IsSliceOf sl .none .none vk) (pk : IsPart vk (some (-1)))
    (h : Q (.ref s.heap.objs.size) { s with heap := s.heap.push { cls := .type "tuple", data := .seq items.toList.reverse.toArray } }) (hsz : items.size ≤ sizeLine) : wpAny (model prog w) A (getItem (.ref t) (.ref sl)) Q E s := by
  have hok : sizeOk (.seq items.toList.reverse.toArray) := by show items.toList.reverse.toArray.size ≤ sizeLine; simpa using hsz
  obtain ⟨os, hos, hcs, hds⟩ := id hs
  have hTs : s.TypeIs (.ref sl) "slice" := ⟨os, hos, hcs⟩
  unfold getItem
  try with_reducible refine wpAny_holding ?_
  first | refine wpAny_bind (wpAny_pure ?_) | skip
  refine wpAny_bind (wpAny_sequenceKey ht.typeIs (by decide) (wpAny_bind (wpAny_callSpecial?_slot (name := Str.ofString "__getitem__") ht.typeIs PyProof.Rows.slot_tuple_getitem
    (wpAny_call_entry PyProof.Rows.slot_tuple_getitem ht.typeIs entry_tuple_getitem ?_ (args_tuple_getitem _ _)))))
  show wpAny _ _ (Builtin.Tuple.tupleItemsOf (.ref t) >>= _) _ _ s
  refine wpAny_bind (tupleItemsOf_ ht (wpAny_bind (wpAny_typeOf hTs ?_)))
  rw [if_pos (by decide)]
  refine wpAny_bind (back_applied (n := items.size) hs pk ?_)
  show wpAny _ _ (if ((((items.size : Int) - 1) == 0 && (-1 : Int) == 1 && items.size == items.size)) = true then _ else _) _ _ s
  rw [if_neg (by rw [show ((-1 : Int) == 1) = false from rfl, Bool.and_false, Bool.false_and]; exact Bool.false_ne_true), back_pick]
  first
    | exact wpAny_bind (m := Builtin.Tuple.tupleExact _) (wpAny_newObj_type (wpAny_pure ⟨_, rfl, wpAny_pure h⟩) hok)
    | exact wpAny_bind (m := Builtin.Tuple.tupleExact _) (wpAny_newObj_type (wpAny_bind (wpAny_pure (wpAny_pure ⟨_, rfl, wpAny_pure h⟩))) hok)
    | exact wpAny_bind (wpAny_bind (m := Builtin.Tuple.tupleExact _) (wpAny_newObj_type (wpAny_pure (wpAny_pure ⟨_, rfl, wpAny_pure h⟩)) hok))
    | exact wpAny_bind (wpAny_bind (m := Builtin.Tuple.tupleExact _) (wpAny_newObj_type (wpAny_pure ⟨_, rfl, wpAny_pure h⟩) hok))
end
section
variable {X : Cx}
def tRevT (K : PySem.W.Frag) (te : TE) : TE := fun σ H Q => te σ H fun x H1 => ∃ a xs, x = .ref a ∧ SqT K H1 a xs ∧ ∀ p, H1 p = none → Q (.ref p) (upd H1 p (.tup xs.reverse))
theorem pe_revT {e : Expr} {te : TE} {k : Nat} {p1 p2 p3 pos : Pos} (he : PE X e te) : PE X (.Subscript e (.Slice none none (some (.UnaryOp .USub (.Constant (.int 1) k p1) p2)) p3) pos) (tRevT X.K te) := by
  refine ⟨fun pins s σ H Q I h => ?_⟩
  refine Subscript_ (thn (he.run pins s σ H _ I h) fun v s1 ⟨x, H1, I1, r1, a, xs, ex, hx, q⟩ => ?_)
  subst ex
  cases r1
  have hst : PO X (some (.UnaryOp .USub (.Constant (.int 1) k p1) p2)) (tPart (tUn (rU fun i => .int (-i)) (tC (.int 1)))) := po_some (pe_un un_neg pe_int)
  refine wpAny_Slice (thn (po_none.run pins s1 σ H1 (fun o H2 => o = none ∧ H2 = H1) I1 ⟨rfl, rfl⟩) fun vl s2 ⟨l, H2, I2, pl, el, e2⟩ => ?_)
  subst el e2
  refine thn (po_none.run pins s2 σ H2 (fun o H3 => o = none ∧ H3 = H2) I2 ⟨rfl, rfl⟩) fun vu s3 ⟨u, H3, I3, pu, eu, e3⟩ => ?_
  subst eu e3
  refine thn (hst.run pins s3 σ H3 (fun o H4 => o = some (-1) ∧ H4 = H3) I3 ⟨1, rfl, -1, rfl, rfl, rfl⟩) fun vs s4 ⟨o, H4, I4, ps, eo, e4⟩ => ?_
  subst eo e4
  have I5 : Inv X pins σ H4 { s4 with heap := s4.heap.push { cls := .type "slice", data := .fields #[vl, vu, vs] } } := I4.kept (t' := s4.toks) fun b ob q => Heap.get?_push_of_some _ q
  obtain ⟨its, r, ht, hz⟩ := I5.tuple hx
  have hlen := r.length
  cases pl
  cases pu
  show wpAny (model X.prog X.w) X.A (subscriptTail e (.Slice none none (some (.UnaryOp .USub (.Constant (.int 1) k p1) p2)) p3) (.ref a) (.ref s4.heap.objs.size)) (EP X pins σ Q) X.xe { s4 with heap := s4.heap.push { cls := .type "slice", data := .fields #[.none, .none, vs] } }
  refine tail_any (ops := [.ref a, .ref s4.heap.objs.size]) ht.typeIs (PyProof.Rows.slot_tuple_getitem.lookup) ?_ (by with_unfolding_all rfl)
  refine item_back ht (Heap.IsSliceOf.new _ .none .none vs) ps ?_ (by rw [List.size_toArray]; omega)
  refine ⟨.ref _, _, I5.laid (t' := s4.toks) (o := .tup xs.reverse) (fun b ob q => Heap.get?_push_of_some _ q) (Nat.le_refl _) ?_, rfl, q _ (I5.hok.fresh (Nat.le_refl _))⟩
  exact ⟨by rw [List.length_reverse]; exact hz, _, r.reverse, IsTup.new _ _⟩
def dRevT : D → Option D
  | .tup ds => some (.tup ds.reverse)
  | _ => none
theorem e_revT {a : Expr} {f : EF} {pos : Pos} {k : Nat} {q1 q2 q3 : Pos} (ha : PE X a (tB X.K f)) : PE X (.Subscript a (.Slice none none (some (.UnaryOp .USub (.Constant (.int 1) k q1) q2)) q3) pos) (tE X.K (b1 dRevT f)) :=
  pe_weak (pe_revT ha) fun σ H Q ⟨c, F, ρ, ω, d, ω', w, e, q⟩ => by
    obtain ⟨x, ω1, e1, e⟩ := bnd_some e
    obtain ⟨e4, rfl⟩ := opt_some e
    refine ⟨c, F, ρ, ω, x, _, w, e1, fun F1 H1 v p1 r1 => ?_⟩
    cases x <;> simp only [dRevT, reduceCtorEq, Option.some.injEq] at e4
    subst e4
    have rr := r1.rep_of (fun p h => h)
    obtain ⟨p, vs, rfl, h1, r⟩ := r1.tup p1.le
    exact ⟨p, vs, rfl, h1, fun t ht => q _ _ _ (p1.trans (Post.alloc p1.le p1.ora ht)) (.tup (.inl (.inl upd_same)) (r.reverse.mono (same_new (same_none p1.le ht))))⟩
end
end FL
end
section
set_option maxHeartbeats 1000000
/-! Lb: evaluation facts, wanted again and again. -/
namespace Lb
open PySem PySem.Spec PyProof.Rows L2 FL
theorem dNe_Te (p : List Int) : dNe (T p) (.tup []) = some (.bl (!decide (p = []))) := dNe_T p []
theorem dEq_Te (p : List Int) : dEq (T p) (.tup []) = some (.bl (decide (p = []))) := dEq_T p []
theorem dIx_head (a : Int) (q : List Int) : dIx (T (a :: q)) (.int 0) = some (.int a) := by
  show atI (D.int a :: q.map .int) ((0 : Nat) : Int) = _
  exact atI_nat rfl
theorem dAdd_ii (i j : Int) : dAdd (.int i) (.int j) = some (.int (i + j)) := Eq.symm rfl
theorem dAdd_1T {x : Int} {q : List Int} (h : q.length < 1000000) : dAdd (.tup [.int x]) (T q) = some (T (x :: q)) := by
  show (if [D.int x].length + (q.map D.int).length ≤ sizeLine then _ else _) = _
  rw [if_pos (by rw [sizeLine_eq, List.length_map]; simp only [List.length_cons, List.length_nil]; omega)]
  rfl
theorem dAdd_0T {q : List Int} (h : q.length < 1000000) : dAdd (.tup []) (T q) = some (T q) := by
  show (if ([] : List D).length + (q.map D.int).length ≤ sizeLine then _ else _) = _
  rw [if_pos (by rw [sizeLine_eq, List.length_map]; simp only [List.length_nil]; omega)]
  rfl
theorem aTuple_l (ds : List D) : aTuple [.lst ds] = some (.tup ds) := Eq.symm rfl
theorem tupT (q : List Int) : (.tup (q.map .int)) = T q := Eq.symm rfl
def encO : Option (List Int) → D
  | none => .non
  | some q => T q
theorem len0 {p : List Int} : ((p.length : Int) = 0) ↔ (p = []) := by
  constructor
  · intro h; exact List.eq_nil_of_length_eq_zero (by omega)
  · rintro rfl; rfl
theorem cut1 {α : Type} (x : α) (xs : List α) : FL.cutD (x :: xs) (some 1) none = xs := by
  unfold FL.cutD
  rw [show HT.sIx (x :: xs).length 0 (some 1) = min 1 (x :: xs).length from HT.sIx_nat _ _ 1, HT.sIx_none]
  simp
theorem dAdd_ll {xs ys : List D} (h : xs.length + ys.length ≤ 16000000) : dAdd (.lst xs) (.lst ys) = some (.lst (xs ++ ys)) := by
  show (if xs.length + ys.length ≤ sizeLine then some (D.lst (xs ++ ys)) else none) = _
  rw [if_pos (by rw [sizeLine_eq]; omega)]
theorem min_int (n m : Nat) : (if (m : Int) < (n : Int) then (m : Int) else (n : Int)) = ((min n m : Nat) : Int) := by
  split <;> omega
theorem aMin_ii (i j : Int) : aMin [.int i, .int j] = some (.int (if j < i then j else i)) := Eq.symm rfl
theorem dNe_le (q : List Int) : dNe (.lst (q.map .int)) (.lst []) = some (.bl (!decide (q = []))) := by
  have h1 : okd 60 (.lst (q.map .int)) = true := by simp [okd, List.all_map, List.all_eq_true]
  unfold dNe
  rw [h1]
  show some (D.bl (!eqD _ _)) = _
  unfold eqD
  rw [toPy, toPy, PyData.eqv, toPysI]
  cases q with
  | nil => rfl
  | cons a q => rw [List.map_cons, toPys, PyData.eqvAll]; rfl
theorem tr_nx {a : SF} {ρ ρ' : FL.Env} {R : FL.Env → Prop} (e : a ρ = FL.ret (.nx ρ')) (h : R ρ') : Tr (a ρ) (fun o => ∃ ρ', o = .nx ρ' ∧ R ρ') := by rw [e]; exact Tr.ret ⟨_, rfl, h⟩
theorem rowT (b : List Int) : rowD b = T b := Eq.symm rfl
theorem rows_T (L : List (List Int)) : L.map T = L.map rowD := Eq.symm rfl
theorem aSort_T {L : List (List Int)} (h : ∀ b ∈ L, b ≠ []) : aSortA [.lst (L.map T)] = some (.lst ((srtR L).map T)) := by
  show (if (L.map T).length < 2 then _ else _) = _
  by_cases h2 : (L.map T).length < 2
  · rw [if_pos h2]
    rw [List.length_map] at h2
    match L, h2 with
    | [], _ => rfl
    | [x], _ => rfl
    | _ :: _ :: _, h2 => simp at h2; omega
  · rw [if_neg h2]
    match L, h2, h with
    | [], h2, _ => simp at h2
    | x :: L', h2, h =>
      show (match rowsOf ((x :: L').map T) with
        | some bs => if (bs.all fun b => !b.isEmpty) = true then some (D.lst ((srtR bs).map rowD)) else none
        | none => none) = _
      rw [rows_T, rowsOf_map]
      show (if ((x :: L').all fun b => !b.isEmpty) = true then some (D.lst ((srtR (x :: L')).map rowD)) else none) = _
      rw [if_pos (by
        rw [List.all_eq_true]
        intro b hb
        cases b with
        | nil => exact absurd rfl (h [] hb)
        | cons _ _ => rfl)]
      rfl
theorem srtR_perm_eq {L M : List (List Int)} (h : L.Perm M) : srtR L = srtR M :=
  rows_uniq ((srtR_perm L).trans (h.trans (srtR_perm M).symm)) (srtR_sorted L) (srtR_sorted M)
theorem okd_rows (L : List (List Int)) : okd 60 (.lst (L.map T)) = true := by
  show (L.map T).all (okd 59) = true
  rw [List.all_map, List.all_eq_true]
  intro b _
  exact okdT 58 b
theorem dNe_self {d : D} (h : okd 60 d = true) : dNe d d = some (.bl false) := by
  unfold dNe
  rw [h, eqD_refl h]; rfl
theorem dMul_ii {i j : Int} (h : -18446744073709551616 < i) (h2 : i < 18446744073709551616) : dMul (.int i) (.int j) = some (.int (i * j)) := by
  show (if mulOk i j = true then some (D.int (i * j)) else none) = _
  rw [if_pos (by unfold mulOk; rw [decide_eq_true (show -(2 ^ 64) < i by omega), decide_eq_true (show i < 2 ^ 64 by omega)]; rfl)]
theorem dDiv_2 (i : Int) : dDiv (.int i) (.int 2) = some (.int (i / 2)) := by
  show (if (decide ((0 : Int) < 2) && decide ((2 : Int).natAbs < 2 ^ 8000)) = true then some (D.int (i / 2)) else none) = _
  rw [if_pos]
  rw [decide_eq_true (Nat.lt_of_lt_of_le (by decide : (2 : Int).natAbs < 2 ^ 20) (Nat.pow_le_pow_right (by decide) (by decide)))]
  rfl
theorem dMod_2 (i : Int) : dMod (.int i) (.int 2) = some (.int (i % 2)) := rfl
theorem flat1 (n : Nat) : (List.replicate n [D.int 1]).flatten = (List.replicate n (1 : Int)).map D.int := by
  rw [List.map_replicate]
  induction n with
  | zero => rfl
  | succ n ih => rw [List.replicate_succ, List.replicate_succ, List.flatten_cons, ih]; rfl
theorem dMulT_1 {k : Int} (h1 : k ≤ 1000) (h2 : -1000000 < k) : dMulT (.tup [.int 1]) (.int k) = some (T (List.replicate k.toNat 1)) := by
  show (if (decide ([D.int 1].length ≤ 1000) && decide (k ≤ 1000) && decide (-(2 ^ 63) ≤ k)) = true then some (D.tup (List.replicate k.toNat [D.int 1]).flatten) else none) = _
  rw [if_pos (by rw [decide_eq_true h1, decide_eq_true (show -(2 ^ 63) ≤ k by omega)]; rfl), flat1]
  rfl
theorem dAdd_TT {p q : List Int} (h : p.length + q.length < 1000000) : dAdd (T p) (T q) = some (T (p ++ q)) := by
  show (if (p.map D.int).length + (q.map D.int).length ≤ sizeLine then some (D.tup (p.map D.int ++ q.map D.int)) else none) = _
  rw [if_pos (by rw [sizeLine_eq, List.length_map, List.length_map]; omega), ← List.map_append]
  rfl
theorem sel_c (ρ : FL.Env) (b : Bool) : selE (cst (.int 1)) (cst (.int 0)) ρ b = ret (.int (if b = true then 1 else 0)) := by cases b <;> rfl
theorem gdI {L : List Int} (h : L.length < 1000000) : gd 59 (.lst (L.map .int)) = true := by
  simp [gd, sizeLine_eq]; omega
def rng (a : Int) (n : Nat) : List Int := (List.range n).map fun k : Nat => a + k
theorem upI_rng (a : Int) (n : Nat) : upI a n = (rng a n).map .int := by
  rw [upI_eq, rng, List.map_map]; rfl
theorem mem_rng {a x : Int} {n : Nat} : x ∈ rng a n ↔ a ≤ x ∧ x < a + n := by
  unfold rng
  rw [List.mem_map]
  constructor
  · rintro ⟨k, hk, rfl⟩
    have := List.mem_range.mp hk
    omega
  · rintro ⟨h1, h2⟩
    exact ⟨(x - a).toNat, List.mem_range.mpr (by omega), by omega⟩
theorem rg2_rng {a b : Int} (h1 : -100000 < a) (h2 : a < 100000) (h3 : -100000 < b) (h4 : b < 100000) : rg2 (.int a) (.int b) = some ((rng a (b - a).toNat).map .int) := by
  show (if (rgOk a && rgOk b) = true then some (upI a (b - a).toNat) else none) = _
  rw [if_pos (by
    unfold rgOk
    rw [decide_eq_true (show -(2 ^ 62) ≤ a by omega), decide_eq_true (show a < 2 ^ 62 by omega), decide_eq_true (show -(2 ^ 62) ≤ b by omega), decide_eq_true (show b < 2 ^ 62 by omega)]; rfl), upI_rng]
theorem rng_len (a : Int) (n : Nat) : (rng a n).length = n := by simp [rng]
theorem dSortR_T {q : List Int} (h : q.Pairwise fun a b => b ≤ a) : dSortR (T q) = some (.lst (q.map .int)) := by
  unfold dSortR intsD
  rw [seqD_T, Option.bind_some, intsOf_map]
  show some (D.lst ((srtI q).reverse.map .int)) = _
  rw [← sortedR_uniq (List.Perm.refl q) (show OrdB true q from h)]
theorem aList_T (q : List Int) : aList [T q] = some (.lst (q.map .int)) := rfl
theorem okdI (L : List Int) : okd 60 (.lst (L.map .int)) = true := by
  simp [okd, List.all_map, List.all_eq_true]
theorem rng_cons (a : Int) (n : Nat) : rng a (n + 1) = a :: rng (a + 1) n := by
  unfold rng
  rw [List.range_succ_eq_map, List.map_cons, List.map_map]
  congr 1
  · simp
  · apply List.map_congr_left
    intro x _
    simp only [Function.comp]
    omega
def tab (n : Nat) (f : Nat → Int) : List D := (List.range n).map fun i => D.int (f i)
theorem tab_len (n : Nat) (f : Nat → Int) : (tab n f).length = n := by simp [tab]
theorem tab_get {n : Nat} {f : Nat → Int} {i : Nat} (h : i < n) : (tab n f)[i]? = some (.int (f i)) := by
  simp [tab, h]
theorem tab_ix {n : Nat} {f : Nat → Int} {v : Int} (h0 : 0 ≤ v) (h : v < n) : dIx (.lst (tab n f)) (.int v) = some (.int (f v.toNat)) := by
  obtain ⟨k, rfl⟩ : ∃ k : Nat, v = k := ⟨v.toNat, by omega⟩
  show atI (tab n f) (k : Int) = _
  rw [atI_nat (tab_get (by omega)), Int.toNat_natCast]
theorem tab_snoc (n : Nat) (f : Nat → Int) : tab n f ++ [.int (f n)] = tab (n + 1) f := by
  unfold tab
  rw [List.range_succ, List.map_append]; rfl
theorem tab_congr {n : Nat} {f g : Nat → Int} (h : ∀ i, i < n → f i = g i) : tab n f = tab n g := by
  unfold tab
  apply List.map_congr_left
  intro i hi
  rw [h i (List.mem_range.mp hi)]
theorem tab_set {n : Nat} {f : Nat → Int} {t : Nat} {v : Int} : (tab n f).set t (.int v) = tab n (fun i => if i = t then v else f i) := by
  apply List.ext_getElem?
  intro i
  rw [List.getElem?_set, tab_len]
  by_cases hi : i < n
  · rw [tab_get hi, tab_get hi]
    by_cases h : t = i
    · subst h; simp [hi]
    · rw [if_neg h, if_neg (fun z => h z.symm)]
  · have e1 : (tab n f)[i]? = none := List.getElem?_eq_none (by rw [tab_len]; omega)
    have e2 : (tab n (fun i => if i = t then v else f i))[i]? = none := List.getElem?_eq_none (by rw [tab_len]; omega)
    rw [e1, e2]
    by_cases h : t = i
    · subst h; simp [hi]
    · rw [if_neg h]
theorem tab_setIO {n : Nat} {f : Nat → Int} {t : Nat} {v : Int} (h : t < n) : setIO (.o (.lst (tab n f))) (.int (t : Int)) (.int v) = some (.lst (tab n (fun i => if i = t then v else f i))) := by
  show (ixN (tab n f).length (t : Int)).map _ = _
  rw [tab_len]
  have : ixN n (t : Int) = some t := by
    unfold ixN
    rw [if_pos (by omega), if_pos (by omega), Int.toNat_natCast]
  rw [this, Option.map_some, tab_set]
theorem dAdd0_ii (i j : Int) : dAdd0 (.int i) (.int j) = some (.int (i + j)) := Eq.symm rfl
theorem tab_map (n : Nat) (f : Nat → Int) : tab n f = ((List.range n).map f).map .int := by
  unfold tab; rw [List.map_map]; rfl
theorem rg1_nat {n : Nat} (h : n < 100000) : rg1 (.int (n : Int)) = some ((List.range n).map fun k : Nat => D.int (k : Int)) := by
  show (if rgOk (n : Int) = true then some (upI 0 (n : Int).toNat) else none) = _
  rw [if_pos (by unfold rgOk; rw [decide_eq_true (show -(2 ^ 62) ≤ (n : Int) by omega), decide_eq_true (show (n : Int) < 2 ^ 62 by omega)]; rfl), upI_eq, Int.toNat_natCast]
  congr 1
  apply List.map_congr_left
  intro k _
  rw [Int.zero_add]
theorem aAll_b (bs : List Bool) : aAll [.lst (bs.map .bl)] = some (.bl (bs.all id)) := by
  show (bolsOf (bs.map D.bl)).map _ = _
  rw [bolsOf_map]; rfl
theorem dEq_ln (q : List Int) : dEq (.lst (q.map .int)) (.lst []) = some (.bl (decide (q = []))) := by
  have h1 : okd 60 (.lst (q.map .int)) = true := by simp [okd, List.all_map, List.all_eq_true]
  unfold dEq
  rw [h1]
  show some (D.bl (eqD _ _)) = _
  unfold eqD
  rw [toPy, toPy, PyData.eqv, toPysI]
  cases q with
  | nil => rfl
  | cons a q => rw [List.map_cons, toPys, PyData.eqvAll]; rfl
theorem enum_range (f : Nat → Int) : ∀ (n s : Nat) (g : Nat → Nat), enumD s ((List.range n).map fun k => D.int (f (g k))) = (List.range n).map fun k : Nat => D.tup [.int ((s + k : Nat) : Int), .int (f (g k))]
  | 0, s, g => rfl
  | n + 1, s, g => by
    rw [List.range_succ_eq_map, List.map_cons, List.map_map, List.map_cons, List.map_map, enumD]
    refine congrArg _ ?_
    have := enum_range f n (s + 1) (fun k => g (k + 1))
    show enumD (s + 1) ((List.range n).map fun k => D.int (f (g (k + 1)))) = _
    rw [this]
    apply List.map_congr_left
    intro k _
    simp only [Function.comp]
    rw [show s + 1 + k = s + (k + 1) by omega]
theorem enum_rg (f : Nat → Int) (n : Nat) : enumD 0 ((List.range n).map fun k => D.int (f k)) = (List.range n).map fun k : Nat => D.tup [.int (k : Int), .int (f k)] := by
  have := enum_range f n 0 id
  simp only [id, Nat.zero_add] at this
  exact this
theorem enum_tab (n : Nat) (f : Nat → Int) : enumD 0 (tab n f) = (List.range n).map fun k : Nat => D.tup [.int (k : Int), .int (f k)] := enum_rg f n
theorem tab_getIO {n : Nat} {f : Nat → Int} {t : Nat} (h : t < n) : getIO (.o (.lst (tab n f))) (.int (t : Int)) = some (.int (f t)) := by
  show atI (tab n f) (t : Int) = _
  exact atI_nat (tab_get h)
theorem rep0 {n : Nat} (hn : n ≤ 1000) : dMul (.lst [.int 0]) (.int n) = some (.lst (List.replicate n (.int 0))) := by
  show (if repOk 1 (n : Int) = true then some (D.lst (List.replicate (n : Int).toNat [D.int 0]).flatten) else none) = _
  rw [if_pos (by simp only [repOk, Bool.and_eq_true, decide_eq_true_eq, sizeLine_eq]; refine ⟨⟨by omega, by omega⟩, by omega⟩), Int.toNat_natCast]
  congr 2
  induction n with
  | zero => rfl
  | succ n ih => rw [List.replicate_succ, List.replicate_succ, List.flatten_cons, ih (by omega)]; rfl
theorem dMul_j {i j : Int} (h : -18446744073709551616 < j) (h2 : j < 18446744073709551616) : dMul (.int i) (.int j) = some (.int (i * j)) := by
  show (if mulOk i j = true then some (D.int (i * j)) else none) = _
  rw [if_pos (by unfold mulOk; rw [decide_eq_true (show -(2 ^ 64) < j by omega), decide_eq_true (show j < 2 ^ 64 by omega)]; simp)]
theorem fil_nil {α : Type} (c : α → Bool) : ∀ l : List α, (l.filter c).isEmpty = l.all fun x => !c x
  | [] => rfl
  | a :: l => by
    rw [List.all_cons, ← fil_nil c l]
    by_cases h : c a = true
    · rw [List.filter_cons_of_pos h, h]; rfl
    · rw [List.filter_cons_of_neg h]
      rw [Bool.not_eq_true] at h
      rw [h]; rfl
theorem dec_nil {α : Type} [DecidableEq α] (l : List α) : decide (l = []) = l.isEmpty := by cases l <;> rfl
theorem dDiv_p {i j : Int} (h : 0 < j) (h2 : j < 1000000) : dDiv (.int i) (.int j) = some (.int (i / j)) := by
  show (if (decide (0 < j) && decide (j.natAbs < 2 ^ 8000)) = true then some (D.int (i / j)) else none) = _
  rw [if_pos]
  rw [decide_eq_true h, decide_eq_true (Nat.lt_of_lt_of_le (by omega : j.natAbs < 2 ^ 20) (Nat.pow_le_pow_right (by decide) (by decide)))]
  rfl
theorem cutT (p : List Int) (lo hi : Option Int) : dSl (T p) lo hi = some (T (FL.cutD p lo hi)) := by
  show some (D.tup (FL.cutD (p.map D.int) lo hi)) = _
  unfold FL.cutD T
  rw [List.length_map, ← List.map_drop, ← List.map_take]
theorem cut_len {α : Type} (p : List α) (lo hi : Option Int) : (FL.cutD p lo hi).length ≤ p.length := by
  unfold FL.cutD
  rw [List.length_take, List.length_drop]; omega
theorem revT (p : List Int) : dRevT (T p) = some (T p.reverse) := by
  show some (D.tup (p.map D.int).reverse) = _
  rw [← List.map_reverse]; rfl
theorem five (f1 f2 f3 f4 f5 : EF) (ρ : FL.Env) {x1 x2 x3 x4 x5 : D} (h1 : f1 ρ = ret x1) (h2 : f2 ρ = ret x2) (h3 : f3 ρ = ret x3) (h4 : f4 ρ = ret x4) (h5 : f5 ρ = ret x5) : eLst (aC f1 (aC f2 (aC f3 (aC f4 (aC f5 aN))))) ρ = ret (.lst [x1, x2, x3, x4, x5]) := by
  unfold eLst
  simp only [aC, aN, h1, h2, h3, h4, h5, bnd_r]
  rw [if_pos (by rw [sizeLine_eq]; simp)]; rfl
theorem rng_snoc (a : Int) (n : Nat) : rng a (n + 1) = rng a n ++ [a + n] := by
  unfold rng
  rw [List.range_succ, List.map_append]; rfl
/-! items of tuples and lists of ints -/
def at' (p : List Int) (k : Nat) : Int := p.getD k 0
theorem ixT {p : List Int} {k : Nat} (h : k < p.length) : dIx (T p) (.int (k : Int)) = some (.int (at' p k)) := by
  show atI (p.map D.int) (k : Int) = _
  rw [atI_lt (by rw [List.length_map]; exact h)]
  unfold at'
  rw [List.getD_eq_getElem?_getD, List.getElem?_eq_getElem h]
  simp
theorem ixL {p : List Int} {k : Nat} (h : k < p.length) : dIx (.lst (p.map .int)) (.int (k : Int)) = some (.int (at' p k)) := ixT h
theorem ixD {ds : List D} {k : Nat} {d : D} (h : ds[k]? = some d) : dIx (.lst ds) (.int (k : Int)) = some d := atI_nat h
theorem ixDt {ds : List D} {k : Nat} {d : D} (h : ds[k]? = some d) : dIx (.tup ds) (.int (k : Int)) = some d := atI_nat h
theorem ixD_last (q : List D) (z : D) : dIx (.lst (q ++ [z])) (.int (-1)) = some z := FL.atI_last q z
theorem ixT_last (q : List Int) (z : Int) : dIx (T (q ++ [z])) (.int (-1)) = some (.int z) := by
  show atI ((q ++ [z]).map D.int) (-1) = _
  rw [List.map_append]; exact FL.atI_last _ _
theorem dSub_ii (i j : Int) : dSub (.int i) (.int j) = some (.int (i - j)) := Eq.symm rfl
theorem aMax_ii (i j : Int) : aMax [.int i, .int j] = some (.int (if j > i then j else i)) := Eq.symm rfl
theorem aInt_i (i : Int) : aInt [.int i] = some (.int i) := Eq.symm rfl
theorem aInt_b (b : Bool) : aInt [.bl b] = some (.int (if b = true then 1 else 0)) := Eq.symm rfl
theorem dMod_p {i j : Int} (h : 0 < j) : dMod (.int i) (.int j) = some (.int (i % j)) := by
  show (if _ then _ else _) = _
  rw [if_pos (by simp [h])]
theorem rg1_rng {n : Nat} (h : n < 100000) : rg1 (.int (n : Int)) = some ((rng 0 n).map .int) := by
  rw [rg1_nat h]
  unfold rng
  rw [List.map_map]
  congr 1
  apply List.map_congr_left
  intro k _
  simp only [Function.comp]
  rw [Int.zero_add]
theorem lr2_rng {a b : Int} (h1 : -100000 < a) (h2 : a < 100000) (h3 : -100000 < b) (h4 : b < 100000) : lr2 (.int a) (.int b) = some (rng a (b - a).toNat) := by
  show (if (rgOk a && rgOk b && decide ((b - a).toNat ≤ 16777216)) = true then some (rgL a (b - a).toNat) else none) = _
  rw [if_pos (by
    unfold rgOk
    rw [decide_eq_true (show -(2 ^ 62) ≤ a by omega), decide_eq_true (show a < 2 ^ 62 by omega), decide_eq_true (show -(2 ^ 62) ≤ b by omega), decide_eq_true (show b < 2 ^ 62 by omega), decide_eq_true (show (b - a).toNat ≤ 16777216 by omega)]; rfl)]
  rfl
theorem dCat_ll {xs ys : List D} (h : xs.length + ys.length ≤ 16000000) : dCat (.lst xs) (.lst ys) = some (.lst (xs ++ ys)) := by
  show (if xs.length + ys.length ≤ sizeLine then some (D.lst (xs ++ ys)) else none) = _
  rw [if_pos (by rw [sizeLine_eq]; omega)]
/-! tables -/
theorem tab_rep (n : Nat) : List.replicate n (D.int 0) = tab n (fun _ => 0) := by
  apply List.ext_getElem?
  intro i
  by_cases h : i < n
  · rw [tab_get h, List.getElem?_replicate, if_pos h]
  · rw [List.getElem?_eq_none (by rw [List.length_replicate]; omega), List.getElem?_eq_none (by rw [tab_len]; omega)]
theorem tab_cons (n : Nat) (f : Nat → Int) : tab (n + 1) f = .int (f 0) :: tab n (fun t => f (t + 1)) := by
  unfold tab
  rw [List.range_succ_eq_map, List.map_cons, List.map_map]; rfl
theorem tab_app (n m : Nat) (f : Nat → Int) : tab n f ++ tab m (fun t => f (n + t)) = tab (n + m) f := by
  apply List.ext_getElem?
  intro i
  rw [List.getElem?_append, tab_len]
  by_cases h : i < n
  · rw [if_pos h, tab_get h, tab_get (by omega)]
  · rw [if_neg h]
    by_cases h2 : i < n + m
    · rw [tab_get (by omega), tab_get h2]; congr 3; omega
    · rw [List.getElem?_eq_none (by rw [tab_len]; omega), List.getElem?_eq_none (by rw [tab_len]; omega)]
/-- [1] + [0] * n -/
def oneF (t : Nat) : Int := if t = 0 then 1 else 0
theorem tab_one (n : Nat) : D.int 1 :: List.replicate n (D.int 0) = tab (n + 1) oneF := by
  rw [tab_cons, tab_rep]; rfl
theorem one0 {n : Nat} (hn : n ≤ 1000000) : dAdd (.lst [.int 1]) (.lst (List.replicate n (.int 0))) = some (.lst (tab (n + 1) oneF)) := by
  rw [dAdd_ll (by rw [List.length_replicate]; simp only [List.length_cons, List.length_nil]; omega), ← tab_one]; rfl
theorem oneC {n : Nat} (hn : n ≤ 1000000) : dCat (.lst [.int 1]) (.lst (List.replicate n (.int 0))) = some (.lst (tab (n + 1) oneF)) := by
  rw [dCat_ll (by rw [List.length_replicate]; simp only [List.length_cons, List.length_nil]; omega), ← tab_one]; rfl
theorem rep0' {n : Nat} (hn : n ≤ 1000000) : dMul (.lst [.int 0]) (.int n) = some (.lst (List.replicate n (.int 0))) := by
  show (if repOk 1 (n : Int) = true then some (D.lst (List.replicate (n : Int).toNat [D.int 0]).flatten) else none) = _
  rw [if_pos (by simp only [repOk, Bool.and_eq_true, decide_eq_true_eq, sizeLine_eq]; refine ⟨⟨by omega, by omega⟩, by omega⟩), Int.toNat_natCast]
  congr 2
  induction n with
  | zero => rfl
  | succ n ih => rw [List.replicate_succ, List.replicate_succ, List.flatten_cons, ih (by omega)]; rfl
theorem repR0 {n : Nat} (hn : n ≤ 1000000) : dRep (.lst [.int 0]) (.int n) = some (.lst (List.replicate n (.int 0))) := by
  rw [← rep0' hn]; rfl
/-! loops as folds -/
theorem forFold {α σ : Type} {it : AF} {b : GF} {body : SF} {ρ0 : FL.Env} {l : List α} {enc : α → D} {E : σ → FL.Env} {step : σ → α → σ} (I : List α → σ → Prop) {s0 : σ} (hit : it ρ0 = ret (l.map enc)) (h0 : I l s0) (hE : ∀ a ∈ l, b (enc a) ρ0 = b (enc a) (E s0))
    (hs : ∀ a r s, (a :: r) <:+ l → I (a :: r) s → ∃ ρ1, b (enc a) (E s) = some ρ1 ∧ body ρ1 = ret (.nx (E (step s a))) ∧ I r (step s a)) : forS it b body ρ0 = ret (.nx (if l.isEmpty = true then ρ0 else E (l.foldl step s0))) := by
  unfold FL.forS
  rw [hit, bnd_r]
  cases l with
  | nil => rfl
  | cons a l =>
    have main : ∀ (r : List α) (s : σ), r <:+ (a :: l) → I r s → forL b body (r.map enc) (E s) = ret (.nx (E (r.foldl step s))) := by
      intro r
      induction r with
      | nil => intro s _ _; rfl
      | cons x r ih =>
        intro s h i
        obtain ⟨ρ1, e1, e2, i2⟩ := hs x r s h i
        rw [List.map_cons, forL_cons, e1, opt_s, bnd_r, e2, bnd_r, loop_nx, ih _ ((List.suffix_cons _ _).trans h) i2]; rfl
    have h1 : forL b body ((a :: l).map enc) ρ0 = forL b body ((a :: l).map enc) (E s0) := by
      rw [List.map_cons, forL_cons, forL_cons, hE a (by simp)]
    rw [h1, main _ _ (List.suffix_refl _) h0]; rfl
/-- a table changed at one place -/
def upF (h : Nat → Int) (t : Nat) (v : Int) : Nat → Int := fun x => if x = t then v else h x
def mixU (a t : Nat) (f g : Nat → Int) : Nat → Int := fun x => if a ≤ x ∧ x < t then g x else f x
theorem mixU_lo {a t x : Nat} {f g : Nat → Int} (h : x < a) : mixU a t f g x = f x := by unfold mixU; rw [if_neg (by omega)]
theorem mixU_hi {a t x : Nat} {f g : Nat → Int} (h : t ≤ x) : mixU a t f g x = f x := by unfold mixU; rw [if_neg (by omega)]
theorem mixU_in {a t x : Nat} {f g : Nat → Int} (h : a ≤ x) (h2 : x < t) : mixU a t f g x = g x := by unfold mixU; rw [if_pos ⟨h, h2⟩]
theorem mixU_step {a t : Nat} {f g : Nat → Int} (h : a ≤ t) : upF (mixU a t f g) t (g t) = mixU a (t + 1) f g := by
  funext x
  unfold upF mixU
  by_cases e : x = t
  · subst e; rw [if_pos rfl, if_pos (by omega)]
  · rw [if_neg e]
    by_cases c : a ≤ x ∧ x < t
    · rw [if_pos c, if_pos (by omega)]
    · rw [if_neg c, if_neg (by omega)]
theorem mixU_nil {a t : Nat} {f g : Nat → Int} (h : t ≤ a) : mixU a t f g = f := by
  funext x; unfold mixU; rw [if_neg (by omega)]
/-- for t in range(a, b): table[t] = val; upwards -/
theorem loopUp {a b i : Nat} {f g : Nat → Int} {E : (Nat → Int) → SV → FL.Env} {it : AF} {body : SF} {x0 : SV} (val : (Nat → Int) → Nat → Int) (hit : it (E f x0) = ret ((rng (a : Int) (b - a)).map .int))
    (hset : ∀ h x d, gN i d (E h x) = some (E h (.d d))) (hb : ∀ t h, a ≤ t → t < b → body (E h (.d (.int (t : Int)))) = ret (.nx (E (upF h t (val h t)) .un)))
    (hv : ∀ t, a ≤ t → t < b → val (mixU a t f g) t = g t) : ∃ x1, forS it (gN i) body (E f x0) = ret (.nx (E (mixU a b f g) x1)) := by
  have key := forFold (it := it) (b := gN i) (body := body) (ρ0 := E f x0) (l := rng (a : Int) (b - a)) (enc := D.int) (E := fun t : Nat => E (mixU a t f g) .un) (step := fun t _ => t + 1)
    (I := fun l t => a ≤ t ∧ l = rng (t : Int) (b - t)) (s0 := a) hit ⟨Nat.le_refl _, rfl⟩ (fun d _ => by rw [mixU_nil (Nat.le_refl _), hset, hset]) fun d r t _ ⟨h1, h2⟩ => by
      have hlt : t < b := by
        by_cases h : t < b
        · exact h
        · rw [show b - t = 0 by omega] at h2; cases h2
      rw [show b - t = (b - (t + 1)) + 1 by omega, rng_cons] at h2
      cases h2
      refine ⟨_, hset _ _ _, ?_, by omega, ?_⟩
      · rw [hb t _ h1 hlt, hv t h1 hlt, mixU_step h1]
      · rw [show ((t + 1 : Nat) : Int) = (t : Int) + 1 by omega]
  rw [key]
  by_cases hab : b ≤ a
  · rw [show b - a = 0 by omega]
    refine ⟨x0, ?_⟩
    rw [mixU_nil hab]; rfl
  · refine ⟨.un, ?_⟩
    obtain ⟨m, hm⟩ : ∃ m, b - a = m + 1 := ⟨b - a - 1, by omega⟩
    rw [hm, rng_cons]
    have fold : ∀ (l : List Int) (t : Nat), l.foldl (fun (t : Nat) _ => t + 1) t = t + l.length := by
      intro l
      induction l with
      | nil => intro t; rfl
      | cons x l ih => intro t; rw [List.foldl_cons, ih]; simp only [List.length_cons]; omega
    rw [fold]
    simp only [List.isEmpty_cons, Bool.false_eq_true, if_false, List.length_cons, rng_len]
    rw [show a + (m + 1) = b by omega]
def mixD (t b : Nat) (f g : Nat → Int) : Nat → Int := fun x => if t ≤ x ∧ x < b then g x else f x
theorem mixD_lo {t b x : Nat} {f g : Nat → Int} (h : x < t) : mixD t b f g x = f x := by unfold mixD; rw [if_neg (by omega)]
theorem mixD_step {t b : Nat} {f g : Nat → Int} (h : t < b) : upF (mixD (t + 1) b f g) t (g t) = mixD t b f g := by
  funext x
  unfold upF mixD
  by_cases e : x = t
  · subst e; rw [if_pos rfl, if_pos (by omega)]
  · rw [if_neg e]
    by_cases c : t + 1 ≤ x ∧ x < b
    · rw [if_pos c, if_pos (by omega)]
    · rw [if_neg c, if_neg (by omega)]
theorem mixD_nil {t b : Nat} {f g : Nat → Int} (h : b ≤ t) : mixD t b f g = f := by
  funext x; unfold mixD; rw [if_neg (by omega)]
/-- downwards -/
theorem loopDn {a b i : Nat} {f g : Nat → Int} {E : (Nat → Int) → SV → FL.Env} {it : AF} {body : SF} {x0 : SV} (val : (Nat → Int) → Nat → Int) (hit : it (E f x0) = ret ((rng (a : Int) (b - a)).reverse.map .int))
    (hset : ∀ h x d, gN i d (E h x) = some (E h (.d d))) (hb : ∀ t h, a ≤ t → t < b → body (E h (.d (.int (t : Int)))) = ret (.nx (E (upF h t (val h t)) .un)))
    (hv : ∀ t, a ≤ t → t < b → val (mixD (t + 1) b f g) t = g t) : ∃ x1, forS it (gN i) body (E f x0) = ret (.nx (E (mixD a b f g) x1)) := by
  have key := forFold (it := it) (b := gN i) (body := body) (ρ0 := E f x0) (l := (rng (a : Int) (b - a)).reverse) (enc := D.int) (E := fun t : Nat => E (mixD t b f g) .un) (step := fun t _ => t - 1)
    (I := fun l t => (a ≤ t ∧ t ≤ b ∨ b ≤ a ∧ t = b) ∧ l = (rng (a : Int) (t - a)).reverse) (s0 := b) hit ⟨by omega, rfl⟩ (fun d _ => by rw [mixD_nil (Nat.le_refl _), hset, hset]) fun d r t _ ⟨h1, h2⟩ => by
      have hlt : a < t := by
        by_cases h : a < t
        · exact h
        · rw [show t - a = 0 by omega] at h2; cases h2
      rw [show t - a = (t - 1 - a) + 1 by omega, rng_snoc, List.reverse_append, List.reverse_singleton, List.singleton_append] at h2
      cases h2
      have e : (a : Int) + ((t - 1 - a : Nat) : Int) = ((t - 1 : Nat) : Int) := by omega
      rw [e]
      refine ⟨_, hset _ _ _, ?_, by omega, rfl⟩
      have h3 := hv (t - 1) (by omega) (by omega)
      rw [show t - 1 + 1 = t by omega] at h3
      rw [hb (t - 1) _ (by omega) (by omega), h3]
      have h4 := mixD_step (t := t - 1) (b := b) (f := f) (g := g) (by omega)
      rw [show t - 1 + 1 = t by omega] at h4
      rw [h4]
  rw [key]
  by_cases hab : b ≤ a
  · rw [show b - a = 0 by omega]
    refine ⟨x0, ?_⟩
    rw [mixD_nil hab]; rfl
  · refine ⟨.un, ?_⟩
    have hne : ((rng (a : Int) (b - a)).reverse).isEmpty = false := by
      cases h : (rng (a : Int) (b - a)).reverse with
      | nil =>
        have := congrArg List.length h
        rw [List.length_reverse, rng_len] at this
        simp at this; omega
      | cons _ _ => rfl
    have fold : ∀ (l : List Int) (t : Nat), l.foldl (fun (t : Nat) _ => t - 1) t = t - l.length := by
      intro l
      induction l with
      | nil => intro t; rfl
      | cons x l ih => intro t; rw [List.foldl_cons, ih]; simp only [List.length_cons]; omega
    rw [hne, fold, List.length_reverse, rng_len]
    simp only [Bool.false_eq_true, if_false]
    rw [show b - (b - a) = a by omega]
/-- a comprehension over range(n) that makes a table -/
theorem lcTab {n : Nat} {it : AF} {el : EF} {vs : List Nat} {ρ : FL.Env} {b : GF} (f : Nat → Int) (enc : Nat → D) (hit : it ρ = ret ((List.range n).map enc)) (hn : n < 1000000) (h : ∀ t, t < n → ∃ ρ1, b (enc t) (fgt vs ρ) = some ρ1 ∧ el ρ1 = ret (.int (f t))) : lcE it b yesB el vs ρ = ret (.lst (tab n f)) := by
  rw [lcE_map enc (fun t => D.int (f t)) (List.range n) hit (by rw [List.length_range, sizeLine_eq]; omega) fun t ht => h t (List.mem_range.mp ht)]
  rfl
theorem leqD {m : Nat → List D → M D} (hm : ∀ k, m k = lawEqM k) {d : D} (h : gd 59 d = true) : m 60 [d, d] = ret (.bl true) := by
  rw [hm]; exact lawEq60 h
theorem gdTab (n : Nat) (hn : n < 1000000) (f : Nat → Int) : gd 59 (.lst (tab n f)) = true := by
  rw [tab_map]; exact gdI (by simp; omega)
/-- drawing one of a list -/
def pickM : List D → M D := runS 2 2 false (seqS (retS (b2 dIx (vw 1) (callE drawM (aC (vr 0) (aC (bA aLen (aC (vw 1) aN)) aN)))))
  (nilS []))
theorem pick_tr {L : List D} (h : L ≠ []) (hz : L.length < 100000) : Tr (pickM [.tok, .lst L]) (fun d => d ∈ L) := by
  unfold pickM
  refine tr_runS rfl ?_
  simp only [run_r, seq_r, cont_nx, cont_rt, cont_bk, cont_ct, if_r, sel_t, sel_f, ife_r, sele_t, sele_f, and_r, or_r, sela_t, sela_f, selo_t, selo_f, out_rt, out_rtO, out_nx, setD, setO, retS, retO, retV, retN, nilS, fgt, isB, truB, truD, notB, orV, andV, notV, b1, b2, bA, aC, aN, vr, vw, cst, nth, sset, bnd_r, opt_s, cond_true, cond_false, eTup_0, eTup_1, eTup_2, eTup_3, eLst_0, eLst_1, eLst_2, eLst_3, callE, mkE, List.replicate_succ, List.replicate_zero, List.length_cons, List.length_nil, List.length_map, if_true, if_false, Nat.reduceAdd, Nat.reduceSub, Bool.false_and, Bool.and_true, Bool.true_and, Bool.and_false, Bool.not_true, Bool.not_false, Bool.true_or, Bool.or_true, Bool.false_or, Bool.or_false, reduceIte, Bool.false_eq_true, dGt, dLt, dGe, dLe, dCmp, dSub, dNeg, aLen, seqD_tup, seqD_lst, seqD_T, Option.map_some, dIsN, dNotN, isNonD_non, isNonD_bl, isNonD_int, isNonD_str, isNonD_tup, isNonD_lst, isNonD_T, forL_nil, forL_cons, loop_nx, loop_ct, loop_bk, loop_rt, frzS, frzE, appS, parS, bnd_assoc]
  have hpos : (0 : Int) < (L.length : Int) := by
    cases L with
    | nil => exact absurd rfl h
    | cons a L => simp only [List.length_cons]; omega
  refine tr_draw hpos (by omega) fun v h1 h2 => ?_
  obtain ⟨k, rfl⟩ : ∃ k : Nat, v = k := ⟨v.toNat, by omega⟩
  have hv : k < L.length := by omega
  have e : dIx (.lst L) (.int (k : Int)) = some L[k] := atI_lt hv
  simp only [run_r, seq_r, cont_nx, cont_rt, cont_bk, cont_ct, if_r, sel_t, sel_f, ife_r, sele_t, sele_f, and_r, or_r, sela_t, sela_f, selo_t, selo_f, out_rt, out_rtO, out_nx, setD, setO, retS, retO, retV, retN, nilS, fgt, isB, truB, truD, notB, orV, andV, notV, b1, b2, bA, aC, aN, vr, vw, cst, nth, sset, bnd_r, opt_s, cond_true, cond_false, eTup_0, eTup_1, eTup_2, eTup_3, eLst_0, eLst_1, eLst_2, eLst_3, callE, mkE, List.replicate_succ, List.replicate_zero, List.length_cons, List.length_nil, List.length_map, if_true, if_false, Nat.reduceAdd, Nat.reduceSub, Bool.false_and, Bool.and_true, Bool.true_and, Bool.and_false, Bool.not_true, Bool.not_false, Bool.true_or, Bool.or_true, Bool.false_or, Bool.or_false, reduceIte, Bool.false_eq_true, dGt, dLt, dGe, dLe, dCmp, dSub, dNeg, aLen, seqD_tup, seqD_lst, seqD_T, Option.map_some, dIsN, dNotN, isNonD_non, isNonD_bl, isNonD_int, isNonD_str, isNonD_tup, isNonD_lst, isNonD_T, forL_nil, forL_cons, loop_nx, loop_ct, loop_bk, loop_rt, frzS, frzE, appS, parS, e]
  exact Tr.ret ⟨_, rfl, List.getElem_mem hv⟩
theorem loopN {a : Int} {m : Nat} {it : AF} {b : GF} {body : SF} (E : Nat → FL.Env) (hit : it (E 0) = ret ((rng a m).map .int)) (hb : ∀ i, i < m → ∃ ρ1, b (.int (a + (i : Int))) (E i) = some ρ1 ∧ body ρ1 = ret (.nx (E (i + 1)))) : forS it b body (E 0) = ret (.nx (E m)) := by
  unfold FL.forS
  rw [hit, bnd_r]
  have main : ∀ (n i : Nat), i + n = m → forL b body ((rng (a + (i : Int)) n).map .int) (E i) = ret (.nx (E m)) := by
    intro n
    induction n with
    | zero => intro i h; rw [show i = m by omega]; rfl
    | succ n ih =>
      intro i h
      obtain ⟨ρ1, e1, e2⟩ := hb i (by omega)
      rw [rng_cons, List.map_cons, forL_cons, e1, opt_s, bnd_r, e2, bnd_r, loop_nx]
      have := ih (i + 1) (by omega)
      rw [show a + ((i + 1 : Nat) : Int) = a + (i : Int) + 1 by omega] at this
      exact this
  have := main m 0 (by omega)
  rw [show a + ((0 : Nat) : Int) = a by omega] at this
  exact this
/-- with something else in the loop's slot at the start -/
theorem loopN' {a : Int} {m : Nat} {it : AF} {b : GF} {body : SF} (E : Nat → FL.Env) {ρ0 : FL.Env} (hit : it ρ0 = ret ((rng a m).map .int)) (h0 : ∀ d, b d ρ0 = b d (E 0)) (hb : ∀ i, i < m → ∃ ρ1, b (.int (a + (i : Int))) (E i) = some ρ1 ∧ body ρ1 = ret (.nx (E (i + 1)))) : forS it b body ρ0 = ret (.nx (if m = 0 then ρ0 else E m)) := by
  cases m with
  | zero => unfold FL.forS; rw [hit, bnd_r]; rfl
  | succ m =>
    have h := loopN (it := fun _ => ret ((rng a (m + 1)).map .int)) (b := b) (body := body) E rfl hb
    rw [if_neg (by omega), ← h]
    unfold FL.forS
    rw [hit, bnd_r, bnd_r, rng_cons, List.map_cons, forL_cons, forL_cons, h0]
/-! slices -/
theorem cut_to {α : Type} (xs : List α) (k : Nat) : FL.cutD xs none (some (k : Int)) = xs.take k := by
  unfold FL.cutD
  rw [HT.sIx_nat, HT.sIx_none, List.drop_zero, Nat.sub_zero]
  by_cases h : k ≤ xs.length
  · rw [show min k xs.length = k by omega]
  · rw [show min k xs.length = xs.length by omega, List.take_length, List.take_of_length_le (by omega)]
theorem cut_from {α : Type} (xs : List α) (k : Nat) : FL.cutD xs (some (k : Int)) none = xs.drop k := by
  unfold FL.cutD
  rw [HT.sIx_nat, HT.sIx_none]
  by_cases h : k ≤ xs.length
  · rw [show min k xs.length = k by omega, List.take_of_length_le (by rw [List.length_drop]; omega)]
  · rw [show min k xs.length = xs.length by omega, List.drop_of_length_le (by omega), List.drop_of_length_le (by omega), List.take_nil]
theorem cut_ft {α : Type} (xs : List α) (a b : Nat) : FL.cutD xs (some (a : Int)) (some (b : Int)) = (xs.take b).drop a := by
  unfold FL.cutD
  rw [HT.sIx_nat, HT.sIx_nat]
  apply List.ext_getElem?
  intro i
  rw [List.getElem?_take, List.getElem?_drop, List.getElem?_drop, List.getElem?_take]
  by_cases h : i < min b xs.length - min a xs.length
  · rw [if_pos h, if_pos (by omega), show min a xs.length = a by omega]
  · rw [if_neg h]
    by_cases h2 : a + i < b
    · rw [if_pos h2, List.getElem?_eq_none (by omega)]
    · rw [if_neg h2]
theorem slL_to (xs : List D) (k : Nat) : dSl (.lst xs) none (some (k : Int)) = some (.lst (xs.take k)) := by
  rw [← cut_to]; rfl
theorem slL_from (xs : List D) (k : Nat) : dSl (.lst xs) (some (k : Int)) none = some (.lst (xs.drop k)) := by
  rw [← cut_from]; rfl
theorem slT_to (p : List Int) (k : Nat) : dSl (T p) none (some (k : Int)) = some (T (p.take k)) := by rw [cutT, cut_to]
theorem slT_from (p : List Int) (k : Nat) : dSl (T p) (some (k : Int)) none = some (T (p.drop k)) := by rw [cutT, cut_from]
/-- a list grown piece by piece -/
theorem loopAcc {α β : Type} {it : AF} {b : GF} {body : SF} (E : List β → FL.Env) (l : List α) (enc : α → D) (g : α → List β) (hit : it (E []) = ret (l.map enc)) (hz : (l.flatMap g).length ≤ 1000000) (hb : ∀ a ∈ l, ∀ acc : List β, acc.length + (g a).length ≤ 1000000 → ∃ ρ1, b (enc a) (E acc) = some ρ1 ∧ body ρ1 = ret (.nx (E (acc ++ g a)))) : forS it b body (E []) = ret (.nx (E (l.flatMap g))) := by
  unfold FL.forS
  rw [hit, bnd_r]
  have main : ∀ (r : List α) (acc : List β), (∀ a ∈ r, a ∈ l) → acc.length + (r.flatMap g).length ≤ 1000000 → forL b body (r.map enc) (E acc) = ret (.nx (E (acc ++ r.flatMap g))) := by
    intro r
    induction r with
    | nil => intro acc _ _; rw [List.flatMap_nil, List.append_nil]; rfl
    | cons a r ih =>
      intro acc hm hz
      rw [List.flatMap_cons, List.length_append] at hz
      obtain ⟨ρ1, e1, e2⟩ := hb a (hm a (by simp)) acc (by omega)
      rw [List.map_cons, forL_cons, e1, opt_s, bnd_r, e2, bnd_r, loop_nx, ih _ (fun x hx => hm x (by simp [hx])) (by rw [List.length_append]; omega), List.flatMap_cons, List.append_assoc]
  have := main l [] (fun _ h => h) (by simpa using hz)
  rw [List.nil_append] at this
  exact this
theorem loopAcc' {α β : Type} {it : AF} {b : GF} {body : SF} (E : List β → FL.Env) {ρ0 : FL.Env} (l : List α) (enc : α → D) (g : α → List β) (hit : it ρ0 = ret (l.map enc)) (h0 : ∀ d, b d ρ0 = b d (E [])) (hz : (l.flatMap g).length ≤ 1000000) (hb : ∀ a ∈ l, ∀ acc : List β, acc.length + (g a).length ≤ 1000000 → ∃ ρ1, b (enc a) (E acc) = some ρ1 ∧ body ρ1 = ret (.nx (E (acc ++ g a)))) : forS it b body ρ0 = ret (.nx (if l.isEmpty = true then ρ0 else E (l.flatMap g))) := by
  cases l with
  | nil => unfold FL.forS; rw [hit, bnd_r]; rfl
  | cons a l =>
    have h := loopAcc (it := fun _ => ret ((a :: l).map enc)) (b := b) (body := body) E (a :: l) enc g rfl hz hb
    rw [if_neg (by simp), ← h]
    unfold FL.forS
    rw [hit, bnd_r, bnd_r, List.map_cons, forL_cons, forL_cons, h0]
theorem lcFil {α : Type} {it : AF} {b : GF} {tt : BF} {el : EF} {vs : List Nat} {ρ : FL.Env} (enc : α → D) (c : α → Bool) (g : α → D) (l : List α) (hi : it ρ = ret (l.map enc)) (hz : l.length ≤ 1000000) (h : ∀ a ∈ l, ∃ ρ1, b (enc a) (fgt vs ρ) = some ρ1 ∧ tt ρ1 = ret (c a) ∧ (c a = true → el ρ1 = ret (g a))) : lcE it b tt el vs ρ = ret (.lst ((l.filter c).map g)) := by
  rw [lcE_pure enc (fun a => if c a = true then some (g a) else none) l hi (by rw [sizeLine_eq]; omega) fun a ha => ?_, fm_filter]
  obtain ⟨ρ1, e1, e2, e3⟩ := h a ha
  refine ⟨ρ1, e1, ?_⟩
  by_cases hc : c a = true
  · exact .inr ⟨g a, by rw [if_pos hc], by rw [e2, hc], e3 hc⟩
  · rw [Bool.not_eq_true] at hc
    exact .inl ⟨by rw [hc]; rfl, by rw [e2, hc]⟩
theorem tr_drawN {β : Type} {m : Int} {k : D → M β} {P : β → Prop} (h0 : 0 < m) (h1 : m < 1000000) (h : ∀ v : Nat, (v : Int) < m → Tr (k (.int (v : Int))) P) : Tr (bnd (drawM [.tok, .int m]) k) P :=
  tr_draw h0 h1 fun v h2 h3 => by
    obtain ⟨n, rfl⟩ : ∃ n : Nat, v = n := ⟨v.toNat, by omega⟩
    exact h n h3
theorem gdRows (L : List (List Int)) (hL : L.length < 1000000) (h : ∀ p ∈ L, p.length < 1000000) : gd 59 (.lst (L.map T)) = true := by
  simp only [gd, Bool.and_eq_true, decide_eq_true_eq, List.length_map, sizeLine_eq, List.all_map, List.all_eq_true]
  refine ⟨fun p hp => ?_, by omega⟩
  have := h p hp
  show gd 58 (T p) = true
  simp [gd, T, sizeLine_eq]; omega
/-- five times the same -/
theorem tr_same {it : AF} {b : GF} {body : SF} {ρ : FL.Env} {n : Nat} {I : FL.Env → Prop} (hit : it ρ = ret (upI 0 n)) (h0 : I ρ) (hb : ∀ d ρ, I ρ → ∃ ρ1, b d ρ = some ρ1 ∧ Tr (body ρ1) (fun o => ∃ ρ', o = .nx ρ' ∧ I ρ')) : Tr (forS it b body ρ) (fun o => ∃ ρ', o = .nx ρ' ∧ I ρ') :=
  tr_forS (ds := upI 0 n) (I := fun _ ρ => I ρ) hit h0 (fun d _ ρ _ h => hb d ρ h) fun ρ h => ⟨ρ, rfl, h⟩
/-! while loops -/
theorem loopW {t : BF} {body : SF} (E : Nat → FL.Env) (m : Nat) (hm : m < 999999) (h : ∀ i, i < m → t (E i) = ret true ∧ body (E i) = ret (.nx (E (i + 1)))) (he : t (E m) = ret false) : whS t body (E 0) = ret (.nx (E m)) := by
  have main : ∀ (k i n : Nat), i + k = m → k < n → whL t body n (E i) = ret (.nx (E m)) := by
    intro k
    induction k with
    | zero =>
      intro i n h1 h2
      cases n with
      | zero => omega
      | succ n =>
        rw [show i = m by omega]
        show bnd (t (E m)) _ = _
        rw [he, bnd_r]; rfl
    | succ k ih =>
      intro i n h1 h2
      cases n with
      | zero => omega
      | succ n =>
        obtain ⟨e1, e2⟩ := h i (by omega)
        show bnd (t (E i)) _ = _
        rw [e1, bnd_r]
        show bnd (body (E i)) _ = _
        rw [e2, bnd_r]
        exact ih (i + 1) n (by omega) (by omega)
  exact main m 0 WF (by omega) (by show m < 1000000; omega)
/-! tuples as tables -/
theorem mapI_tab (p : List Int) : p.map D.int = tab p.length (at' p) := by
  apply List.ext_getElem?
  intro i
  by_cases h : i < p.length
  · rw [tab_get h, List.getElem?_map, List.getElem?_eq_getElem h]
    unfold at'
    rw [List.getD_eq_getElem?_getD, List.getElem?_eq_getElem h]; rfl
  · rw [List.getElem?_eq_none (by rw [List.length_map]; omega), List.getElem?_eq_none (by rw [tab_len]; omega)]
/-- the first n of f -/
def lsF (n : Nat) (f : Nat → Int) : List Int := (List.range n).map f
theorem lsF_len (n : Nat) (f : Nat → Int) : (lsF n f).length = n := by simp [lsF]
theorem lsF_tab (n : Nat) (f : Nat → Int) : (lsF n f).map D.int = tab n f := by rw [tab_map]; rfl
theorem T_tab (n : Nat) (f : Nat → Int) : T (lsF n f) = .tup (tab n f) := by unfold T; rw [lsF_tab]
theorem lsF_at {n : Nat} {f : Nat → Int} {k : Nat} (h : k < n) : at' (lsF n f) k = f k := by
  unfold at' lsF
  simp [List.getD_eq_getElem?_getD, h]
theorem lsF_congr {n : Nat} {f g : Nat → Int} (h : ∀ t, t < n → f t = g t) : lsF n f = lsF n g := by
  unfold lsF
  exact List.map_congr_left fun t ht => h t (List.mem_range.mp ht)
theorem lsF_atp (p : List Int) : lsF p.length (at' p) = p := by
  have := mapI_tab p
  rw [← lsF_tab] at this
  have h : Function.Injective D.int := fun a b e => by cases e; rfl
  exact (List.map_inj_right h).mp this.symm
theorem lsF_get {n : Nat} {f : Nat → Int} {k : Nat} (h : k < n) : (lsF n f)[k]? = some (f k) := by simp [lsF, h]
theorem ix_lsF {n : Nat} {f : Nat → Int} {k : Nat} (h : k < n) : dIx (T (lsF n f)) (.int (k : Int)) = some (.int (f k)) := by
  rw [ixT (by rw [lsF_len]; exact h), lsF_at h]
theorem enum_T (p : List Int) : enumD 0 (p.map .int) = (List.range p.length).map fun k : Nat => D.tup [.int (k : Int), .int (at' p k)] := by
  rw [mapI_tab, enum_tab]
theorem pop_tab (n : Nat) (f : Nat → Int) : popO (.o (.lst (tab (n + 1) f))) = some (.int (f n), .lst (tab n f)) := by
  rw [← tab_snoc]
  unfold popO
  simp
theorem tab_lastIx (n : Nat) (f : Nat → Int) : dIx (.lst (tab (n + 1) f)) (.int (-1)) = some (.int (f n)) := by
  rw [← tab_snoc]; exact FL.atI_last _ _
theorem tab_nilB (n : Nat) (f : Nat → Int) : (tab n f).isEmpty = decide (n = 0) := by
  cases n with
  | zero => rfl
  | succ n => rw [← tab_snoc]; simp
/-- items made from 0, 1, .. m - 1 -/
theorem loopR {m : Nat} {it : AF} {b : GF} {body : SF} (enc : Nat → D) (E : Nat → FL.Env) (hit : it (E 0) = ret ((List.range m).map enc)) (hb : ∀ i, i < m → ∃ ρ1, b (enc i) (E i) = some ρ1 ∧ body ρ1 = ret (.nx (E (i + 1)))) : forS it b body (E 0) = ret (.nx (E m)) := by
  unfold FL.forS
  rw [hit, bnd_r, List.range_eq_range']
  have main : ∀ (n i : Nat), i + n = m → forL b body ((List.range' i n).map enc) (E i) = ret (.nx (E m)) := by
    intro n
    induction n with
    | zero => intro i h; rw [show i = m by omega]; rfl
    | succ n ih =>
      intro i h
      obtain ⟨ρ1, e1, e2⟩ := hb i (by omega)
      rw [List.range'_succ, List.map_cons, forL_cons, e1, opt_s, bnd_r, e2, bnd_r, loop_nx]
      exact ih (i + 1) (by omega)
  exact main m 0 (by omega)
theorem tabT (n : Nat) (f : Nat → Int) : .tup (tab n f) = T (lsF n f) := (T_tab n f).symm

end Lb
end
section
namespace K54
open PySem PySem.Spec PyProof.Rows L2 FL
def m_lowered : List D → M D := runS 2 1 false (seqS (retS (bA aTuple (aC (lcE (itS (vr 0)) (gN 1) (isB (b2 dGt (vw 1) (cst (.int 1)))) (b2 dSub (vw 1) (cst (.int 1))) [1]) aN)))
  (nilS []))
def m_rank_of : List D → M D := runS 1 1 false (seqS (retS (ifE (isB (b2 dGt (bA aLen (aC (vw 0) aN)) (cst (.int 0)))) (b2 dSub (b2 dIx (vw 0) (cst (.int 0))) (bA aLen (aC (vw 0) aN))) (cst (.int 0))))
  (nilS []))
def m_dyson_step : List D → M D := runS 4 2 false (seqS (setD 2 (b2 dAdd (bA aLen (aC (vw 0) aN)) (vw 1)))
  (seqS (ifS (orB (isB (b2 dGt (callE m_rank_of (aC (vr 0) aN)) (b2 dAdd (vw 1) (cst (.int 1))))) (orB (isB (b2 dLt (vw 2) (cst (.int 0)))) (isB (b2 dEq (bA aLen (aC (vw 0) aN)) (cst (.int 0))))))
  (seqS (retS (cst .non))
  (nilS []))
  (nilS []))
  (seqS (setD 3 (callE m_lowered (aC (vr 0) aN)))
  (seqS (retS (ifE (isB (b2 dGt (vw 2) (cst (.int 0)))) (b2 dAdd (eTup (aC (vr 2) aN)) (vw 3)) (vr 3)))
  (nilS [])))))
def m_dyson_back : List D → M D := runS 5 2 false (seqS (setD 2 (b2 dSub (b2 dIx (vw 0) (cst (.int 0))) (vw 1)))
  (seqS (setD 3 (lcE (itS (slE dSl (vw 0) (oS (cst (.int 1))) oN)) (gN 4) yesB (b2 dAdd (vw 4) (cst (.int 1))) [4]))
  (seqS (retS (bA aTuple (aC (b2 dAdd (vw 3) (b2 dMul (eLst (aC (cst (.int 1)) aN)) (b2 dSub (vw 2) (bA aLen (aC (vw 3) aN))))) aN)))
  (nilS []))))
def m__law_eq : Nat → List D → M D
  | 0 => fun _ _ => none
  | k + 1 => runS 3 2 false (seqS (ifS (orB (truB (b1 (isiD "list") (vw 1))) (truB (b1 (isiD "tuple") (vw 1))))
  (seqS (ifS (orB (isB (b2 dNe (b1 (isiD "list") (vw 0)) (b1 (isiD "list") (vw 1)))) (isB (b2 dNe (b1 (isiD "tuple") (vw 0)) (b1 (isiD "tuple") (vw 1)))))
  (seqS (retS (cst (.bl false)))
  (nilS []))
  (nilS []))
  (seqS (ifS (isB (b2 dNe (bA aLen (aC (vw 0) aN)) (bA aLen (aC (vw 1) aN))))
  (seqS (retS (cst (.bl false)))
  (nilS []))
  (nilS []))
  (seqS (retS (b2 dEq (lcE (itR1 (bA aLen (aC (vw 1) aN))) (gN 2) (notB (truB (callE (m__law_eq k) (aC (b2 dIx (vw 0) (vw 2)) (aC (b2 dIx (vw 1) (vw 2)) aN))))) (vr 2) [2]) (eLst aN)))
  (nilS []))))
  (nilS []))
  (seqS (ifS (isB (b2 dIsN (vw 1) (cst .non)))
  (seqS (retS (b2 dIsN (vw 0) (cst .non)))
  (nilS []))
  (nilS []))
  (seqS (ifS (truB (b1 (isiD "str") (vw 1)))
  (seqS (retS (andV (b1 (isiD "str") (vw 0)) (b2 dEq (vw 0) (vw 1))))
  (nilS []))
  (nilS []))
  (seqS (ifS (truB (b1 (isiD "bool") (vw 1)))
  (seqS (retS (andV (b1 (isiD "bool") (vw 0)) (b2 dEq (vw 0) (vw 1))))
  (nilS []))
  (nilS []))
  (seqS (retS (andV (b1 (isiD "int") (vw 0)) (andV (notV (b1 (isiD "bool") (vw 0))) (b2 dEq (vw 0) (vw 1)))))
  (nilS []))))))
def m__law_partitions : Nat → List D → M D
  | 0 => fun _ _ => none
  | k + 1 => runS 5 2 false (seqS (ifS (isB (b2 dEq (vw 0) (cst (.int 0))))
  (seqS (retS (eLst (aC (eTup aN) aN)))
  (nilS []))
  (nilS []))
  (seqS (setD 2 (eLst aN))
  (seqS (forS (itR3 (bA aMin (aC (vw 0) (aC (vw 1) aN))) (cst (.int 0)) (b1 dNeg (cst (.int 1)))) (gN 3)
  (seqS (setD 2 (b2 dAdd (vw 2) (lcE (itS (callE (m__law_partitions k) (aC (b2 dSub (vw 0) (vw 3)) (aC (vr 3) aN)))) (gN 4) yesB (b2 dAdd (eTup (aC (vr 3) aN)) (vw 4)) [4])))
  (nilS [3])))
  (seqS (retS (vr 2))
  (nilS [])))))
def m__law_drawn : List D → M D := runS 5 2 false (seqS (setO 2 (eLst aN))
  (seqS (setD 3 (vr 1))
  (seqS (whS (isB (b2 dGt (vw 3) (cst (.int 0))))
  (seqS (setD 4 (b2 dAdd (cst (.int 1)) (callE drawM (aC (vr 0) (aC (bA aMin (aC (vw 3) (aC (ifE (isB (b2 dNe (vw 2) (eLst aN))) (b2 dIx (vw 2) (b1 dNeg (cst (.int 1)))) (vr 3)) aN))) aN)))))
  (seqS (appS 2 (vr 4))
  (seqS (setD 3 (b2 dSub (vw 3) (vw 4)))
  (nilS [4])))))
  (seqS (retS (bA aTuple (aC (vw 2) aN)))
  (nilS [])))))
def m__law_rank : List D → M D := runS 1 1 false (seqS (retS (ifE (isB (b2 dNe (vw 0) (eTup aN))) (b2 dSub (b2 dIx (vw 0) (cst (.int 0))) (bA aLen (aC (vw 0) aN))) (cst (.int 0))))
  (nilS []))
def m__law_step : List D → M D := runS 4 2 false (seqS (ifS (orB (isB (b2 dEq (vw 0) (eTup aN))) (orB (isB (b2 dGt (callE m__law_rank (aC (vr 0) aN)) (b2 dAdd (vw 1) (cst (.int 1))))) (isB (b2 dLt (b2 dAdd (bA aLen (aC (vw 0) aN)) (vw 1)) (cst (.int 0))))))
  (seqS (retS (cst .non))
  (nilS []))
  (nilS []))
  (seqS (setD 2 (bA aTuple (aC (lcE (itS (vr 0)) (gN 3) (isB (b2 dGt (vw 3) (cst (.int 1)))) (b2 dSub (vw 3) (cst (.int 1))) [3]) aN)))
  (seqS (retS (b2 dAdd (ifE (isB (b2 dGt (b2 dAdd (bA aLen (aC (vw 0) aN)) (vw 1)) (cst (.int 0)))) (eTup (aC (b2 dAdd (bA aLen (aC (vw 0) aN)) (vw 1)) aN)) (eTup aN)) (vw 2)))
  (nilS []))))
def m_law : SF := (seqS (asgS (eTup (aC (b2 dAdd (cst (.int 1)) (callE drawM (aC (vr 1) (aC (cst (.int 13)) aN)))) (aC (b2 dSub (callE drawM (aC (vr 1) (aC (cst (.int 17)) aN))) (cst (.int 8))) aN))) (gT (gsC (gN 2) (gsC (gN 3) gsN))))
  (seqS (setD 4 (callE (m__law_partitions 60) (aC (vr 2) (aC (vr 2) aN))))
  (seqS (setO 5 (eLst aN))
  (seqS (forS (itS (vr 4)) (gN 6)
  (seqS (setD 7 (callE m__law_step (aC (vr 6) (aC (vr 3) aN))))
  (seqS (ifS (notB (truB (callE (m__law_eq 60) (aC (callE m_dyson_step (aC (vr 6) (aC (vr 3) aN))) (aC (vr 7) aN)))))
  (seqS (retS (cst (.bl false)))
  (nilS []))
  (nilS []))
  (seqS (ifS (andB (isB (b2 dNotN (vw 7) (cst .non))) (isB (b2 dNe (vw 7) (eTup aN))))
  (seqS (appS 5 (vr 7))
  (seqS (ifS (orB (isB (b2 dLt (callE m__law_rank (aC (vr 7) aN)) (b2 dSub (vw 3) (cst (.int 1))))) (orB (isB (b2 dNe (bA aSum (aC (vw 7) aN)) (b2 dAdd (vw 2) (vw 3)))) (notB (truB (callE (m__law_eq 60) (aC (callE m_dyson_back (aC (vr 7) (aC (vr 3) aN))) (aC (vr 6) aN)))))))
  (seqS (retS (cst (.bl false)))
  (nilS []))
  (nilS []))
  (nilS [])))
  (nilS []))
  (nilS [6, 7])))))
  (seqS (ifS (isB (b2 dGt (b2 dAdd (vw 2) (vw 3)) (cst (.int 0))))
  (seqS (setD 8 (lcE (itS (callE (m__law_partitions 60) (aC (b2 dAdd (vw 2) (vw 3)) (aC (b2 dAdd (vw 2) (vw 3)) aN)))) (gN 6) (isB (b2 dGe (callE m__law_rank (aC (vr 6) aN)) (b2 dSub (vw 3) (cst (.int 1))))) (vr 6) [6]))
  (seqS (ifS (isB (b2 dNe (bA aSortA (aC (vw 5) aN)) (bA aSortA (aC (vw 8) aN))))
  (seqS (retS (cst (.bl false)))
  (nilS []))
  (nilS []))
  (nilS [8])))
  (nilS []))
  (seqS (forS (itR1 (cst (.int 5))) (gN 9)
  (seqS (asgS (eTup (aC (callE m__law_drawn (aC (vr 1) (aC (b2 dAdd (cst (.int 1)) (callE drawM (aC (vr 1) (aC (cst (.int 60)) aN)))) aN))) (aC (b2 dSub (callE drawM (aC (vr 1) (aC (cst (.int 41)) aN))) (cst (.int 20))) aN))) (gT (gsC (gN 6) (gsC (gN 3) gsN))))
  (seqS (setD 7 (callE m__law_step (aC (vr 6) (aC (vr 3) aN))))
  (seqS (ifS (notB (truB (callE (m__law_eq 60) (aC (callE m_dyson_step (aC (vr 6) (aC (vr 3) aN))) (aC (vr 7) aN)))))
  (seqS (retS (cst (.bl false)))
  (nilS []))
  (nilS []))
  (seqS (ifS (andB (isB (b2 dNotN (vw 7) (cst .non))) (andB (isB (b2 dNe (vw 7) (eTup aN))) (notB (truB (callE (m__law_eq 60) (aC (callE m_dyson_back (aC (vr 7) (aC (vr 3) aN))) (aC (vr 6) aN)))))))
  (seqS (retS (cst (.bl false)))
  (nilS []))
  (nilS []))
  (nilS [3, 6, 7, 9]))))))
  (seqS (retS (callE (m__law_eq 60) (aC (callE m_dyson_step (aC (eTup aN) (aC (cst (.int 3)) aN))) (aC (cst .non) aN))))
  (nilS []))))))))
def m_start : FL.Env := .un :: .d .tok :: List.replicate 8 .un
end K54
end
section
namespace P54
/-- parts in falling order, none above a bound -/
def IsP (m : Int) (p : List Int) : Prop := p.Pairwise (fun a b => b ≤ a) ∧ ∀ x ∈ p, 1 ≤ x ∧ x ≤ m
theorem isP_nil (m : Int) : IsP m [] := ⟨.nil, by simp⟩
theorem isP_cons {m x : Int} {q : List Int} : IsP m (x :: q) ↔ 1 ≤ x ∧ x ≤ m ∧ IsP x q := by
  unfold IsP
  rw [List.pairwise_cons]
  constructor
  · rintro ⟨⟨h1, h2⟩, h3⟩
    have hx := h3 x (by simp)
    exact ⟨hx.1, hx.2, h2, fun y hy => ⟨(h3 y (by simp [hy])).1, h1 y hy⟩⟩
  · rintro ⟨h1, h2, h3, h4⟩
    refine ⟨⟨fun y hy => (h4 y hy).2, h3⟩, fun y hy => ?_⟩
    rcases List.mem_cons.mp hy with rfl | hy
    · exact ⟨h1, h2⟩
    · have := h4 y hy; exact ⟨this.1, by omega⟩
theorem IsP.mono {m m' : Int} {p : List Int} (h : IsP m p) (e : m ≤ m') : IsP m' p := ⟨h.1, fun x hx => ⟨(h.2 x hx).1, by have := (h.2 x hx).2; omega⟩⟩
theorem IsP.sum_ge {m : Int} : ∀ {p : List Int}, IsP m p → (p.length : Int) ≤ p.sum
  | [], _ => by simp
  | x :: q, h => by
    have h' := isP_cons.mp h
    have := IsP.sum_ge h'.2.2
    simp only [List.length_cons, List.sum_cons]
    omega
theorem IsP.tail {m x : Int} {q : List Int} (h : IsP m (x :: q)) : IsP x q := (isP_cons.mp h).2.2
theorem IsP.le_sum {m : Int} : ∀ {p : List Int}, IsP m p → ∀ x ∈ p, x ≤ p.sum
  | [], _, x, hx => by simp at hx
  | y :: q, h, x, hx => by
    have h' := isP_cons.mp h
    have h3 := IsP.sum_ge h'.2.2
    rw [List.sum_cons]
    rcases List.mem_cons.mp hx with rfl | hx
    · omega
    · have := IsP.le_sum h'.2.2 x hx; omega
def downN : Nat → List Nat
  | 0 => []
  | t + 1 => (t + 1) :: downN t
theorem mem_downN : ∀ {t x : Nat}, x ∈ downN t ↔ 1 ≤ x ∧ x ≤ t
  | 0, x => by simp [downN]; omega
  | t + 1, x => by rw [downN, List.mem_cons, mem_downN]; omega
theorem downN_nodup : ∀ t : Nat, (downN t).Pairwise (fun a b => b < a)
  | 0 => .nil
  | t + 1 => by
    rw [downN, List.pairwise_cons]
    exact ⟨fun b hb => by have := mem_downN.mp hb; omega, downN_nodup t⟩
def parts : Nat → Nat → Nat → List (List Int)
  | 0, _, _ => []
  | k + 1, n, m => if n = 0 then [[]] else (downN (min n m)).flatMap fun x => (parts k (n - x) x).map ((x : Int) :: ·)
theorem mem_parts : ∀ {k n m : Nat} {p : List Int}, n < k → (p ∈ parts k n m ↔ IsP m p ∧ p.sum = n)
  | 0, n, m, p, h => absurd h (Nat.not_lt_zero _)
  | k + 1, n, m, p, h => by
    rw [parts]
    by_cases hn : n = 0
    · rw [if_pos hn]
      subst hn
      constructor
      · intro hp
        simp only [List.mem_singleton] at hp
        subst hp
        exact ⟨isP_nil _, rfl⟩
      · rintro ⟨h1, h2⟩
        have := h1.sum_ge
        cases p with
        | nil => simp
        | cons x q => simp only [List.length_cons] at this; omega
    · rw [if_neg hn, List.mem_flatMap]
      constructor
      · rintro ⟨x, hx, hp⟩
        have hx' := mem_downN.mp hx
        rw [List.mem_map] at hp
        obtain ⟨q, hq, rfl⟩ := hp
        have hq' := (mem_parts (by omega)).mp hq
        refine ⟨isP_cons.mpr ⟨by omega, by omega, hq'.1⟩, ?_⟩
        rw [List.sum_cons, hq'.2]; omega
      · rintro ⟨h1, h2⟩
        cases p with
        | nil => simp at h2; omega
        | cons x q =>
          have h' := isP_cons.mp h1
          have h3 := h'.2.2.sum_ge
          rw [List.sum_cons] at h2
          have hx : ((x.toNat : Nat) : Int) = x := by omega
          refine ⟨x.toNat, mem_downN.mpr (by omega), ?_⟩
          rw [List.mem_map]
          refine ⟨q, (mem_parts (by omega)).mpr ⟨by rw [hx]; exact h'.2.2, by omega⟩, by rw [hx]⟩
theorem parts_nodup : ∀ k n m : Nat, (parts k n m).Nodup
  | 0, n, m => .nil
  | k + 1, n, m => by
    rw [parts]
    by_cases hn : n = 0
    · rw [if_pos hn]; simp
    · rw [if_neg hn]
      unfold List.Nodup
      rw [List.pairwise_flatMap]
      refine ⟨fun x _ => ?_, (downN_nodup _).imp fun {a b} h x hx y hy => ?_⟩
      · rw [List.pairwise_map]
        exact (parts_nodup k (n - x) x).imp fun {a b} h e => h (by simpa using e)
      · rw [List.mem_map] at hx hy
        obtain ⟨q, _, rfl⟩ := hx
        obtain ⟨q', _, rfl⟩ := hy
        intro e
        have := (List.cons.inj e).1
        omega
theorem pow_sum (k n : Nat) (f : Nat → List (List Int)) (hf : ∀ x, 1 ≤ x → x ≤ n → (f x).length ≤ 2 ^ (n - x)) : ∀ t, t ≤ n → ((downN t).flatMap f).length + 2 ^ (n - t) ≤ 2 ^ n
  | 0, _ => by simp [downN]
  | t + 1, h => by
    have ih := pow_sum k n f hf t (by omega)
    have h1 := hf (t + 1) (by omega) h
    rw [downN, List.flatMap_cons, List.length_append]
    have e : 2 ^ (n - t) = 2 ^ (n - (t + 1)) + 2 ^ (n - (t + 1)) := by
      have : n - t = (n - (t + 1)) + 1 := by omega
      rw [this, Nat.pow_succ]; omega
    omega
theorem parts_len : ∀ k n m : Nat, (parts k n m).length ≤ 2 ^ n
  | 0, n, m => by simp [parts]
  | k + 1, n, m => by
    rw [parts]
    by_cases hn : n = 0
    · rw [if_pos hn]; simp [hn]
    · rw [if_neg hn]
      have := pow_sum k n (fun x => (parts k (n - x) x).map ((x : Int) :: ·)) (fun x _ _ => by rw [List.length_map]; exact parts_len k (n - x) x) (min n m) (by omega)
      exact Nat.le_trans (Nat.le_add_right _ _) this
/-! steps -/
def rank : List Int → Int
  | [] => 0
  | a :: q => a - ((q.length + 1 : Nat) : Int)
def lowO (x : Int) : Option Int := if 1 < x then some (x - 1) else none
def low (p : List Int) : List Int := p.filterMap lowO
def stepO (p : List Int) (r : Int) : Option (List Int) := if p = [] ∨ r + 1 < rank p ∨ (p.length : Int) + r < 0 then none else some ((if 0 < (p.length : Int) + r then [(p.length : Int) + r] else []) ++ low p)
def back (a : Int) (l : List Int) (r : Int) : List Int := l.map (· + 1) ++ List.replicate (a - r - l.length).toNat 1
theorem low_len (p : List Int) : (low p).length ≤ p.length := List.length_filterMap_le _ _
theorem low_ones : ∀ {p : List Int}, IsP 1 p → low p = [] ∧ p = List.replicate p.length 1
  | [], _ => ⟨rfl, rfl⟩
  | x :: q, h => by
    have h' := isP_cons.mp h
    have hx : x = 1 := by omega
    subst hx
    obtain ⟨h1, h2⟩ := low_ones h'.2.2
    refine ⟨?_, ?_⟩
    · show List.filterMap _ _ = _
      rw [List.filterMap_cons_none (by simp [lowO])]; exact h1
    · rw [List.length_cons, List.replicate_succ, ← h2]
theorem split : ∀ {m : Int} {p : List Int}, IsP m p → p = (low p).map (· + 1) ++ List.replicate (p.length - (low p).length) 1
  | m, [], _ => rfl
  | m, x :: q, h => by
    have h' := isP_cons.mp h
    by_cases hx : 1 < x
    · have e : low (x :: q) = (x - 1) :: low q := by
        show List.filterMap _ _ = _
        rw [List.filterMap_cons_some (by simp [lowO, hx]; rfl)]; rfl
      have ih := split h'.2.2
      rw [e, List.map_cons, List.cons_append, List.length_cons, List.length_cons, Nat.add_sub_add_right, ← ih]
      congr 1; omega
    · have hx : x = 1 := by omega
      subst hx
      have h1 := low_ones (isP_cons.mpr ⟨by omega, by omega, h'.2.2⟩ : IsP 1 (1 :: q))
      rw [h1.1]
      simpa using h1.2
theorem low_isP : ∀ {m : Int} {p : List Int}, IsP m p → IsP (m - 1) (low p)
  | m, [], _ => isP_nil _
  | m, x :: q, h => by
    have h' := isP_cons.mp h
    by_cases hx : 1 < x
    · have e : low (x :: q) = (x - 1) :: low q := by
        show List.filterMap _ _ = _
        rw [List.filterMap_cons_some (by simp [lowO, hx]; rfl)]; rfl
      rw [e]
      exact isP_cons.mpr ⟨by omega, by omega, low_isP h'.2.2⟩
    · have hx : x = 1 := by omega
      subst hx
      rw [(low_ones (isP_cons.mpr ⟨by omega, by omega, h'.2.2⟩ : IsP 1 (1 :: q))).1]
      exact isP_nil _
theorem map1_sum : ∀ l : List Int, (l.map (· + 1)).sum = l.sum + l.length
  | [] => rfl
  | x :: l => by simp only [List.map_cons, List.sum_cons, map1_sum l, List.length_cons]; omega
theorem rep1_sum : ∀ n : Nat, (List.replicate n (1 : Int)).sum = n
  | 0 => rfl
  | n + 1 => by rw [List.replicate_succ, List.sum_cons, rep1_sum n]; omega
theorem low_sum {m : Int} {p : List Int} (h : IsP m p) : (low p).sum + p.length = p.sum := by
  have e := congrArg List.sum (split h)
  have hl := low_len p
  rw [List.sum_append, map1_sum, rep1_sum] at e
  omega
/-- what a step gives -/
theorem stepO_some {p q : List Int} {r : Int} {m : Int} (hp : IsP m p) (h : stepO p r = some q) : q = [] ∨ ∃ a, q = a :: low p ∧ a = (p.length : Int) + r ∧ 0 < a ∧ p ≠ [] ∧ rank p ≤ r + 1 := by
  unfold stepO at h
  split at h
  · cases h
  · rename_i hc
    simp only [not_or] at hc
    simp only [Option.some.injEq] at h
    subst h
    by_cases h0 : 0 < (p.length : Int) + r
    · rw [if_pos h0]
      exact .inr ⟨_, rfl, rfl, h0, hc.1, by omega⟩
    · rw [if_neg h0]
      left
      have h1 : (p.length : Int) + r = 0 := by omega
      cases p with
      | nil => rfl
      | cons x t =>
        have h' := isP_cons.mp hp
        have h2 := hc.2.1
        simp only [rank, List.length_cons] at h2 h1
        exact (low_ones (isP_cons.mpr ⟨h'.1, by omega, h'.2.2⟩ : IsP 1 (x :: t))).1
theorem back_step {p : List Int} {r m a : Int} {l : List Int} (hp : IsP m p) (h : stepO p r = some (a :: l)) : back a l r = p := by
  rcases stepO_some hp h with h | ⟨a', h1, h2, _⟩
  · cases h
  · cases h1
    unfold back
    have e : a - r - ((low p).length : Int) = ((p.length - (low p).length : Nat) : Int) := by have := low_len p; omega
    rw [e, Int.toNat_natCast, ← split hp]
theorem step_facts {p : List Int} {r m a : Int} {l : List Int} (hp : IsP m p) (h : stepO p r = some (a :: l)) : r - 1 ≤ rank (a :: l) ∧ (a :: l).sum = p.sum + r ∧ IsP a (a :: l) := by
  rcases stepO_some hp h with h | ⟨a', h1, h2, h3, h4, h5⟩
  · cases h
  · cases h1
    have hl := low_len p
    refine ⟨?_, ?_, ?_⟩
    · simp only [rank]; omega
    · rw [List.sum_cons]; have := low_sum hp; omega
    · refine isP_cons.mpr ⟨by omega, by omega, ?_⟩
      cases p with
      | nil => exact absurd rfl h4
      | cons x t =>
        have h' := isP_cons.mp hp
        have : IsP x (x :: t) := isP_cons.mpr ⟨h'.1, by omega, h'.2.2⟩
        refine (low_isP this).mono ?_
        simp only [rank, List.length_cons] at h5 h2
        omega
theorem low_back : ∀ {m : Int} {l : List Int}, IsP m l → ∀ n : Nat, low (l.map (· + 1) ++ List.replicate n 1) = l
  | m, [], _, n => by
    show low (List.replicate n 1) = []
    induction n with
    | zero => rfl
    | succ n ih => rw [List.replicate_succ]; show List.filterMap _ _ = _; rw [List.filterMap_cons_none (by simp [lowO])]; exact ih
  | m, x :: l, h, n => by
    have h' := isP_cons.mp h
    show List.filterMap _ _ = _
    rw [List.map_cons, List.cons_append, List.filterMap_cons_some (b := x) (by simp [lowO]; omega)]
    congr 1
    exact low_back h'.2.2 n
theorem back_isP : ∀ {m : Int} {l : List Int}, 0 ≤ m → IsP m l → ∀ n : Nat, IsP (m + 1) (l.map (· + 1) ++ List.replicate n 1)
  | m, [], hm, _, n => by
    show IsP _ (List.replicate n 1)
    refine ⟨?_, fun x hx => ?_⟩
    · rw [List.pairwise_replicate]; right; omega
    · have := (List.mem_replicate.mp hx).2; omega
  | m, x :: l, hm, h, n => by
    have h' := isP_cons.mp h
    rw [List.map_cons, List.cons_append]
    exact isP_cons.mpr ⟨by omega, by omega, back_isP (by omega) h'.2.2 n⟩
theorem step_back {a r m : Int} {l : List Int} (h : IsP m (a :: l)) (hr : r - 1 ≤ rank (a :: l)) (hs : 1 ≤ (a :: l).sum - r) : stepO (back a l r) r = some (a :: l) ∧ IsP (a + 1) (back a l r) ∧ (back a l r).sum = (a :: l).sum - r := by
  have h' := isP_cons.mp h
  simp only [rank] at hr
  have hn : ((a - r - l.length).toNat : Int) = a - r - l.length := by omega
  have hsum : (back a l r).sum = (a :: l).sum - r := by
    unfold back
    rw [List.sum_append, map1_sum, rep1_sum, hn, List.sum_cons]; omega
  have hP : IsP (a + 1) (back a l r) := back_isP (by omega) h'.2.2 _
  refine ⟨?_, hP, hsum⟩
  have hlen : ((back a l r).length : Int) = a - r := by
    unfold back
    rw [List.length_append, List.length_map, List.length_replicate]; omega
  have hne : back a l r ≠ [] := fun e => by rw [e] at hsum; simp at hsum; simp only [List.sum_cons] at hs; omega
  have hrk : rank (back a l r) ≤ r + 1 := by
    cases hb : back a l r with
    | nil => exact absurd hb hne
    | cons x t =>
      have hx := (hP.2 x (by rw [hb]; simp)).2
      rw [hb] at hlen
      simp only [List.length_cons] at hlen
      simp only [rank]; omega
  unfold stepO
  rw [if_neg (by simp only [not_or]; exact ⟨hne, by omega, by omega⟩), hlen, if_pos (by omega)]
  congr 1
  show (a - r + r) :: low (back a l r) = _
  unfold back
  rw [low_back h'.2.2]
  congr 1; omega
/-- the dues that are no empty one -/
def met (every : List (List Int)) (r : Int) : List (List Int) := every.filterMap fun p => match stepO p r with
  | some (a :: l) => some (a :: l)
  | _ => none
def goal (every : List (List Int)) (r : Int) : List (List Int) := every.filter fun q => decide (r - 1 ≤ rank q)
theorem met_eq {p q : List Int} {r : Int} : (match stepO p r with | some (a :: l) => some (a :: l) | _ => none) = some q ↔ ∃ a l, q = a :: l ∧ stepO p r = some (a :: l) := by
  split
  · rename_i a l e
    rw [e]
    constructor
    · intro h; cases h; exact ⟨a, l, rfl, rfl⟩
    · rintro ⟨a', l', rfl, h⟩; cases h; rfl
  · rename_i hno
    constructor
    · intro h; cases h
    · rintro ⟨a', l', rfl, h⟩; exact absurd h (hno _ _)
theorem perm {n : Nat} {r : Int} {g : Nat} (hn : 1 ≤ n) (hn2 : n < 60) (hg : (g : Int) = n + r) (hg2 : g < 60) (hg1 : 1 ≤ g) : (met (parts 60 n n) r).Perm (goal (parts 60 g g) r) := by
  refine (List.perm_ext_iff_of_nodup ?_ ?_).mpr fun q => ?_
  · unfold List.Nodup met
    rw [List.pairwise_filterMap]
    refine (List.Pairwise.and_mem.mp (parts_nodup 60 n n)).imp fun {p p'} ⟨hp, hp', h⟩ b hb b' hb' e => ?_
    obtain ⟨a, l, rfl, h1⟩ := met_eq.mp hb
    obtain ⟨a', l', rfl, h2⟩ := met_eq.mp hb'
    cases e
    exact h ((back_step ((mem_parts (by omega)).mp hp).1 h1).symm.trans (back_step ((mem_parts (by omega)).mp hp').1 h2))
  · exact (parts_nodup 60 g g).filter _
  · unfold met goal
    rw [List.mem_filterMap, List.mem_filter]
    constructor
    · rintro ⟨p, hp, hq⟩
      obtain ⟨a, l, rfl, h1⟩ := met_eq.mp hq
      obtain ⟨hp1, hp2⟩ := (mem_parts (by omega)).mp hp
      obtain ⟨f1, f2, f3⟩ := step_facts hp1 h1
      have := f3.le_sum a (by simp)
      refine ⟨(mem_parts (by omega)).mpr ⟨f3.mono (by omega), by omega⟩, by simpa using f1⟩
    · rintro ⟨hq, hr⟩
      obtain ⟨h1, h2⟩ := (mem_parts (by omega)).mp hq
      cases q with
      | nil => simp at h2; omega
      | cons a l =>
        obtain ⟨f1, f2, f3⟩ := step_back h1 (by simpa using hr) (by omega)
        have hmx : IsP n (back a l r) := ⟨f2.1, fun x hx => ⟨(f2.2 x hx).1, by have := f2.le_sum x hx; omega⟩⟩
        exact ⟨back a l r, (mem_parts (by omega)).mpr ⟨hmx, by omega⟩, met_eq.mpr ⟨a, l, rfl, f1⟩⟩
end P54
end
section
set_option maxHeartbeats 1000000
namespace K54
open PySem PySem.Spec PyProof.Rows L2 FL P54
theorem dNe_Te (p : List Int) : dNe (T p) (.tup []) = some (.bl (!decide (p = []))) := dNe_T p []
theorem dEq_Te (p : List Int) : dEq (T p) (.tup []) = some (.bl (decide (p = []))) := dEq_T p []
theorem dIx_head (a : Int) (q : List Int) : dIx (T (a :: q)) (.int 0) = some (.int a) := by
  show atI (D.int a :: q.map .int) ((0 : Nat) : Int) = _
  exact atI_nat rfl
theorem dAdd_ii (i j : Int) : dAdd (.int i) (.int j) = some (.int (i + j)) := Eq.symm rfl
theorem dAdd_1T {x : Int} {q : List Int} (h : q.length < 1000000) : dAdd (.tup [.int x]) (T q) = some (T (x :: q)) := by
  show (if [D.int x].length + (q.map D.int).length ≤ sizeLine then _ else _) = _
  rw [if_pos (by rw [sizeLine_eq, List.length_map]; simp only [List.length_cons, List.length_nil]; omega)]
  rfl
theorem dAdd_0T {q : List Int} (h : q.length < 1000000) : dAdd (.tup []) (T q) = some (T q) := by
  show (if ([] : List D).length + (q.map D.int).length ≤ sizeLine then _ else _) = _
  rw [if_pos (by rw [sizeLine_eq, List.length_map]; simp only [List.length_nil]; omega)]
  rfl
theorem aTuple_l (ds : List D) : aTuple [.lst ds] = some (.tup ds) := Eq.symm rfl
theorem tupT (q : List Int) : (.tup (q.map .int)) = T q := Eq.symm rfl
theorem low_map (p : List Int) : (p.filterMap fun x => (lowO x).map D.int) = (low p).map .int := by
  unfold low; rw [List.map_filterMap]
theorem lcLow {p : List Int} {it : AF} {i : Nat} {ρ : FL.Env} {ρ1 : Int → FL.Env} (hi : it ρ = ret (p.map .int)) (hz : p.length < 1000000) (hg : ∀ x, gN i (.int x) (fgt [i] ρ) = some (ρ1 x)) (hv : ∀ x, nth (ρ1 x) i = .d (.int x)) :
    lcE it (gN i) (isB (b2 dGt (vw i) (cst (.int 1)))) (b2 dSub (vw i) (cst (.int 1))) [i] ρ = ret (.lst ((low p).map .int)) := by
  rw [lcE_pure D.int (fun x => (lowO x).map D.int) p hi (by rw [sizeLine_eq]; omega) fun x _ => ⟨ρ1 x, hg x, ?_⟩, low_map]
  have hw : vw i (ρ1 x) = ret (.int x) := by unfold vw; rw [hv]
  by_cases hx : 1 < x
  · refine .inr ⟨.int (x - 1), by simp [lowO, hx], ?_, ?_⟩
    · simp only [isB, b2, hw, cst, bnd_r, dGt, dCmp, opt_s, hx, decide_true]
    · simp only [b2, hw, cst, bnd_r, dSub, opt_s]
  · refine .inl ⟨by simp [lowO, hx], ?_⟩
    simp only [isB, b2, hw, cst, bnd_r, dGt, dCmp, opt_s, hx, decide_false]
theorem lowered_eq {p : List Int} (h : p.length < 1000000) : m_lowered [T p] = ret (T (low p)) := by
  unfold m_lowered
  simp only [run_r, seq_r, cont_nx, cont_rt, cont_bk, cont_ct, if_r, sel_t, sel_f, ife_r, sele_t, sele_f, and_r, or_r, sela_t, sela_f, selo_t, selo_f, out_rt, out_rtO, out_nx, setD, setO, retS, retO, retV, retN, nilS, fgt, isB, truB, truD, notB, orV, andV, notV, b1, b2, bA, aC, aN, vr, vw, cst, nth, sset, bnd_r, opt_s, cond_true, cond_false, eTup_0, eTup_1, eTup_2, eTup_3, eLst_0, eLst_1, eLst_2, eLst_3, callE, mkE, List.replicate_succ, List.replicate_zero, List.length_cons, List.length_nil, List.length_map, if_true, if_false, Nat.reduceAdd, Nat.reduceSub, Bool.false_and, Bool.and_true, Bool.true_and, Bool.and_false, Bool.not_true, Bool.not_false, Bool.true_or, Bool.or_true, Bool.false_or, Bool.or_false, reduceIte, Bool.false_eq_true, dGt, dLt, dGe, dLe, dCmp, dSub, dNeg, aLen, seqD_tup, seqD_lst, seqD_T, Option.map_some, dIsN, dNotN, isNonD_non, isNonD_bl, isNonD_int, isNonD_str, isNonD_tup, isNonD_lst, isNonD_T, forL_nil, forL_cons, loop_nx, loop_ct, loop_bk, loop_rt, frzS, frzE, appS, parS]
  rw [lcLow (p := p) (i := 1) (ρ1 := fun x => [.d (T p), .d (.int x)]) (by simp only [itS, run_r, seq_r, cont_nx, cont_rt, cont_bk, cont_ct, if_r, sel_t, sel_f, ife_r, sele_t, sele_f, and_r, or_r, sela_t, sela_f, selo_t, selo_f, out_rt, out_rtO, out_nx, setD, setO, retS, retO, retV, retN, nilS, fgt, isB, truB, truD, notB, orV, andV, notV, b1, b2, bA, aC, aN, vr, vw, cst, nth, sset, bnd_r, opt_s, cond_true, cond_false, eTup_0, eTup_1, eTup_2, eTup_3, eLst_0, eLst_1, eLst_2, eLst_3, callE, mkE, List.replicate_succ, List.replicate_zero, List.length_cons, List.length_nil, List.length_map, if_true, if_false, Nat.reduceAdd, Nat.reduceSub, Bool.false_and, Bool.and_true, Bool.true_and, Bool.and_false, Bool.not_true, Bool.not_false, Bool.true_or, Bool.or_true, Bool.false_or, Bool.or_false, reduceIte, Bool.false_eq_true, dGt, dLt, dGe, dLe, dCmp, dSub, dNeg, aLen, seqD_tup, seqD_lst, seqD_T, Option.map_some, dIsN, dNotN, isNonD_non, isNonD_bl, isNonD_int, isNonD_str, isNonD_tup, isNonD_lst, isNonD_T, forL_nil, forL_cons, loop_nx, loop_ct, loop_bk, loop_rt, frzS, frzE, appS, parS, seqD_T]) h (fun _ => rfl) (fun _ => rfl)]
  simp only [run_r, seq_r, cont_nx, cont_rt, cont_bk, cont_ct, if_r, sel_t, sel_f, ife_r, sele_t, sele_f, and_r, or_r, sela_t, sela_f, selo_t, selo_f, out_rt, out_rtO, out_nx, setD, setO, retS, retO, retV, retN, nilS, fgt, isB, truB, truD, notB, orV, andV, notV, b1, b2, bA, aC, aN, vr, vw, cst, nth, sset, bnd_r, opt_s, cond_true, cond_false, eTup_0, eTup_1, eTup_2, eTup_3, eLst_0, eLst_1, eLst_2, eLst_3, callE, mkE, List.replicate_succ, List.replicate_zero, List.length_cons, List.length_nil, List.length_map, if_true, if_false, Nat.reduceAdd, Nat.reduceSub, Bool.false_and, Bool.and_true, Bool.true_and, Bool.and_false, Bool.not_true, Bool.not_false, Bool.true_or, Bool.or_true, Bool.false_or, Bool.or_false, reduceIte, Bool.false_eq_true, dGt, dLt, dGe, dLe, dCmp, dSub, dNeg, aLen, seqD_tup, seqD_lst, seqD_T, Option.map_some, dIsN, dNotN, isNonD_non, isNonD_bl, isNonD_int, isNonD_str, isNonD_tup, isNonD_lst, isNonD_T, forL_nil, forL_cons, loop_nx, loop_ct, loop_bk, loop_rt, frzS, frzE, appS, parS, aTuple_l, tupT]
theorem rank_eq (p : List Int) : m_rank_of [T p] = ret (.int (rank p)) := by
  unfold m_rank_of
  cases p with
  | nil => simp only [run_r, seq_r, cont_nx, cont_rt, cont_bk, cont_ct, if_r, sel_t, sel_f, ife_r, sele_t, sele_f, and_r, or_r, sela_t, sela_f, selo_t, selo_f, out_rt, out_rtO, out_nx, setD, setO, retS, retO, retV, retN, nilS, fgt, isB, truB, truD, notB, orV, andV, notV, b1, b2, bA, aC, aN, vr, vw, cst, nth, sset, bnd_r, opt_s, cond_true, cond_false, eTup_0, eTup_1, eTup_2, eTup_3, eLst_0, eLst_1, eLst_2, eLst_3, callE, mkE, List.replicate_succ, List.replicate_zero, List.length_cons, List.length_nil, List.length_map, if_true, if_false, Nat.reduceAdd, Nat.reduceSub, Bool.false_and, Bool.and_true, Bool.true_and, Bool.and_false, Bool.not_true, Bool.not_false, Bool.true_or, Bool.or_true, Bool.false_or, Bool.or_false, reduceIte, Bool.false_eq_true, dGt, dLt, dGe, dLe, dCmp, dSub, dNeg, aLen, seqD_tup, seqD_lst, seqD_T, Option.map_some, dIsN, dNotN, isNonD_non, isNonD_bl, isNonD_int, isNonD_str, isNonD_tup, isNonD_lst, isNonD_T, forL_nil, forL_cons, loop_nx, loop_ct, loop_bk, loop_rt, frzS, frzE, appS, parS, seqD_T, List.map_nil]; rfl
  | cons a q =>
    have : (0 : Int) < ((q.length + 1 : Nat) : Int) := by omega
    simp only [run_r, seq_r, cont_nx, cont_rt, cont_bk, cont_ct, if_r, sel_t, sel_f, ife_r, sele_t, sele_f, and_r, or_r, sela_t, sela_f, selo_t, selo_f, out_rt, out_rtO, out_nx, setD, setO, retS, retO, retV, retN, nilS, fgt, isB, truB, truD, notB, orV, andV, notV, b1, b2, bA, aC, aN, vr, vw, cst, nth, sset, bnd_r, opt_s, cond_true, cond_false, eTup_0, eTup_1, eTup_2, eTup_3, eLst_0, eLst_1, eLst_2, eLst_3, callE, mkE, List.replicate_succ, List.replicate_zero, List.length_cons, List.length_nil, List.length_map, if_true, if_false, Nat.reduceAdd, Nat.reduceSub, Bool.false_and, Bool.and_true, Bool.true_and, Bool.and_false, Bool.not_true, Bool.not_false, Bool.true_or, Bool.or_true, Bool.false_or, Bool.or_false, reduceIte, Bool.false_eq_true, dGt, dLt, dGe, dLe, dCmp, dSub, dNeg, aLen, seqD_tup, seqD_lst, seqD_T, Option.map_some, dIsN, dNotN, isNonD_non, isNonD_bl, isNonD_int, isNonD_str, isNonD_tup, isNonD_lst, isNonD_T, forL_nil, forL_cons, loop_nx, loop_ct, loop_bk, loop_rt, frzS, frzE, appS, parS, seqD_T, dIx_head, this, decide_true, rank]
theorem lrank_eq (p : List Int) : m__law_rank [T p] = ret (.int (rank p)) := by
  unfold m__law_rank
  cases p with
  | nil => simp only [run_r, seq_r, cont_nx, cont_rt, cont_bk, cont_ct, if_r, sel_t, sel_f, ife_r, sele_t, sele_f, and_r, or_r, sela_t, sela_f, selo_t, selo_f, out_rt, out_rtO, out_nx, setD, setO, retS, retO, retV, retN, nilS, fgt, isB, truB, truD, notB, orV, andV, notV, b1, b2, bA, aC, aN, vr, vw, cst, nth, sset, bnd_r, opt_s, cond_true, cond_false, eTup_0, eTup_1, eTup_2, eTup_3, eLst_0, eLst_1, eLst_2, eLst_3, callE, mkE, List.replicate_succ, List.replicate_zero, List.length_cons, List.length_nil, List.length_map, if_true, if_false, Nat.reduceAdd, Nat.reduceSub, Bool.false_and, Bool.and_true, Bool.true_and, Bool.and_false, Bool.not_true, Bool.not_false, Bool.true_or, Bool.or_true, Bool.false_or, Bool.or_false, reduceIte, Bool.false_eq_true, dGt, dLt, dGe, dLe, dCmp, dSub, dNeg, aLen, seqD_tup, seqD_lst, seqD_T, Option.map_some, dIsN, dNotN, isNonD_non, isNonD_bl, isNonD_int, isNonD_str, isNonD_tup, isNonD_lst, isNonD_T, forL_nil, forL_cons, loop_nx, loop_ct, loop_bk, loop_rt, frzS, frzE, appS, parS, dNe_Te, decide_true]; rfl
  | cons a q =>
    simp only [run_r, seq_r, cont_nx, cont_rt, cont_bk, cont_ct, if_r, sel_t, sel_f, ife_r, sele_t, sele_f, and_r, or_r, sela_t, sela_f, selo_t, selo_f, out_rt, out_rtO, out_nx, setD, setO, retS, retO, retV, retN, nilS, fgt, isB, truB, truD, notB, orV, andV, notV, b1, b2, bA, aC, aN, vr, vw, cst, nth, sset, bnd_r, opt_s, cond_true, cond_false, eTup_0, eTup_1, eTup_2, eTup_3, eLst_0, eLst_1, eLst_2, eLst_3, callE, mkE, List.replicate_succ, List.replicate_zero, List.length_cons, List.length_nil, List.length_map, if_true, if_false, Nat.reduceAdd, Nat.reduceSub, Bool.false_and, Bool.and_true, Bool.true_and, Bool.and_false, Bool.not_true, Bool.not_false, Bool.true_or, Bool.or_true, Bool.false_or, Bool.or_false, reduceIte, Bool.false_eq_true, dGt, dLt, dGe, dLe, dCmp, dSub, dNeg, aLen, seqD_tup, seqD_lst, seqD_T, Option.map_some, dIsN, dNotN, isNonD_non, isNonD_bl, isNonD_int, isNonD_str, isNonD_tup, isNonD_lst, isNonD_T, forL_nil, forL_cons, loop_nx, loop_ct, loop_bk, loop_rt, frzS, frzE, appS, parS, seqD_T, dIx_head, dNe_Te, reduceCtorEq, decide_false, rank]
def encO : Option (List Int) → D
  | none => .non
  | some q => T q
theorem len0 {p : List Int} : ((p.length : Int) = 0) ↔ (p = []) := by
  constructor
  · intro h; exact List.eq_nil_of_length_eq_zero (by omega)
  · rintro rfl; rfl
theorem dstep_eq {p : List Int} {r : Int} (h : p.length < 999999) : m_dyson_step [T p, .int r] = ret (encO (stepO p r)) := by
  unfold m_dyson_step
  have hl := low_len p
  simp only [run_r, seq_r, cont_nx, cont_rt, cont_bk, cont_ct, if_r, sel_t, sel_f, ife_r, sele_t, sele_f, and_r, or_r, sela_t, sela_f, selo_t, selo_f, out_rt, out_rtO, out_nx, setD, setO, retS, retO, retV, retN, nilS, fgt, isB, truB, truD, notB, orV, andV, notV, b1, b2, bA, aC, aN, vr, vw, cst, nth, sset, bnd_r, opt_s, cond_true, cond_false, eTup_0, eTup_1, eTup_2, eTup_3, eLst_0, eLst_1, eLst_2, eLst_3, callE, mkE, List.replicate_succ, List.replicate_zero, List.length_cons, List.length_nil, List.length_map, if_true, if_false, Nat.reduceAdd, Nat.reduceSub, Bool.false_and, Bool.and_true, Bool.true_and, Bool.and_false, Bool.not_true, Bool.not_false, Bool.true_or, Bool.or_true, Bool.false_or, Bool.or_false, reduceIte, Bool.false_eq_true, dGt, dLt, dGe, dLe, dCmp, dSub, dNeg, aLen, seqD_tup, seqD_lst, seqD_T, Option.map_some, dIsN, dNotN, isNonD_non, isNonD_bl, isNonD_int, isNonD_str, isNonD_tup, isNonD_lst, isNonD_T, forL_nil, forL_cons, loop_nx, loop_ct, loop_bk, loop_rt, frzS, frzE, appS, parS, seqD_T, dAdd_ii, rank_eq, dEq_int]
  unfold stepO
  by_cases h1 : r + 1 < rank p
  · rw [if_pos (.inr (.inl h1))]
    simp only [run_r, seq_r, cont_nx, cont_rt, cont_bk, cont_ct, if_r, sel_t, sel_f, ife_r, sele_t, sele_f, and_r, or_r, sela_t, sela_f, selo_t, selo_f, out_rt, out_rtO, out_nx, setD, setO, retS, retO, retV, retN, nilS, fgt, isB, truB, truD, notB, orV, andV, notV, b1, b2, bA, aC, aN, vr, vw, cst, nth, sset, bnd_r, opt_s, cond_true, cond_false, eTup_0, eTup_1, eTup_2, eTup_3, eLst_0, eLst_1, eLst_2, eLst_3, callE, mkE, List.replicate_succ, List.replicate_zero, List.length_cons, List.length_nil, List.length_map, if_true, if_false, Nat.reduceAdd, Nat.reduceSub, Bool.false_and, Bool.and_true, Bool.true_and, Bool.and_false, Bool.not_true, Bool.not_false, Bool.true_or, Bool.or_true, Bool.false_or, Bool.or_false, reduceIte, Bool.false_eq_true, dGt, dLt, dGe, dLe, dCmp, dSub, dNeg, aLen, seqD_tup, seqD_lst, seqD_T, Option.map_some, dIsN, dNotN, isNonD_non, isNonD_bl, isNonD_int, isNonD_str, isNonD_tup, isNonD_lst, isNonD_T, forL_nil, forL_cons, loop_nx, loop_ct, loop_bk, loop_rt, frzS, frzE, appS, parS, h1, decide_true, encO]
  · by_cases h2 : (p.length : Int) + r < 0
    · rw [if_pos (.inr (.inr h2))]
      simp only [run_r, seq_r, cont_nx, cont_rt, cont_bk, cont_ct, if_r, sel_t, sel_f, ife_r, sele_t, sele_f, and_r, or_r, sela_t, sela_f, selo_t, selo_f, out_rt, out_rtO, out_nx, setD, setO, retS, retO, retV, retN, nilS, fgt, isB, truB, truD, notB, orV, andV, notV, b1, b2, bA, aC, aN, vr, vw, cst, nth, sset, bnd_r, opt_s, cond_true, cond_false, eTup_0, eTup_1, eTup_2, eTup_3, eLst_0, eLst_1, eLst_2, eLst_3, callE, mkE, List.replicate_succ, List.replicate_zero, List.length_cons, List.length_nil, List.length_map, if_true, if_false, Nat.reduceAdd, Nat.reduceSub, Bool.false_and, Bool.and_true, Bool.true_and, Bool.and_false, Bool.not_true, Bool.not_false, Bool.true_or, Bool.or_true, Bool.false_or, Bool.or_false, reduceIte, Bool.false_eq_true, dGt, dLt, dGe, dLe, dCmp, dSub, dNeg, aLen, seqD_tup, seqD_lst, seqD_T, Option.map_some, dIsN, dNotN, isNonD_non, isNonD_bl, isNonD_int, isNonD_str, isNonD_tup, isNonD_lst, isNonD_T, forL_nil, forL_cons, loop_nx, loop_ct, loop_bk, loop_rt, frzS, frzE, appS, parS, seqD_T, dEq_int, h1, h2, decide_true, decide_false, encO]
    · by_cases h3 : p = []
      · rw [if_pos (.inl h3)]
        simp only [run_r, seq_r, cont_nx, cont_rt, cont_bk, cont_ct, if_r, sel_t, sel_f, ife_r, sele_t, sele_f, and_r, or_r, sela_t, sela_f, selo_t, selo_f, out_rt, out_rtO, out_nx, setD, setO, retS, retO, retV, retN, nilS, fgt, isB, truB, truD, notB, orV, andV, notV, b1, b2, bA, aC, aN, vr, vw, cst, nth, sset, bnd_r, opt_s, cond_true, cond_false, eTup_0, eTup_1, eTup_2, eTup_3, eLst_0, eLst_1, eLst_2, eLst_3, callE, mkE, List.replicate_succ, List.replicate_zero, List.length_cons, List.length_nil, List.length_map, if_true, if_false, Nat.reduceAdd, Nat.reduceSub, Bool.false_and, Bool.and_true, Bool.true_and, Bool.and_false, Bool.not_true, Bool.not_false, Bool.true_or, Bool.or_true, Bool.false_or, Bool.or_false, reduceIte, Bool.false_eq_true, dGt, dLt, dGe, dLe, dCmp, dSub, dNeg, aLen, seqD_tup, seqD_lst, seqD_T, Option.map_some, dIsN, dNotN, isNonD_non, isNonD_bl, isNonD_int, isNonD_str, isNonD_tup, isNonD_lst, isNonD_T, forL_nil, forL_cons, loop_nx, loop_ct, loop_bk, loop_rt, frzS, frzE, appS, parS, seqD_T, dEq_int, h1, h2, eq_true (len0.mpr h3), decide_true, decide_false, encO]
      · rw [if_neg (by simp only [not_or]; exact ⟨h3, h1, h2⟩)]
        by_cases h4 : 0 < (p.length : Int) + r
        · simp only [run_r, seq_r, cont_nx, cont_rt, cont_bk, cont_ct, if_r, sel_t, sel_f, ife_r, sele_t, sele_f, and_r, or_r, sela_t, sela_f, selo_t, selo_f, out_rt, out_rtO, out_nx, setD, setO, retS, retO, retV, retN, nilS, fgt, isB, truB, truD, notB, orV, andV, notV, b1, b2, bA, aC, aN, vr, vw, cst, nth, sset, bnd_r, opt_s, cond_true, cond_false, eTup_0, eTup_1, eTup_2, eTup_3, eLst_0, eLst_1, eLst_2, eLst_3, callE, mkE, List.replicate_succ, List.replicate_zero, List.length_cons, List.length_nil, List.length_map, if_true, if_false, Nat.reduceAdd, Nat.reduceSub, Bool.false_and, Bool.and_true, Bool.true_and, Bool.and_false, Bool.not_true, Bool.not_false, Bool.true_or, Bool.or_true, Bool.false_or, Bool.or_false, reduceIte, Bool.false_eq_true, dGt, dLt, dGe, dLe, dCmp, dSub, dNeg, aLen, seqD_tup, seqD_lst, seqD_T, Option.map_some, dIsN, dNotN, isNonD_non, isNonD_bl, isNonD_int, isNonD_str, isNonD_tup, isNonD_lst, isNonD_T, forL_nil, forL_cons, loop_nx, loop_ct, loop_bk, loop_rt, frzS, frzE, appS, parS, seqD_T, dEq_int, h1, h2, len0, h3, h4, decide_true, decide_false, encO, lowered_eq (p := p) (by omega), dAdd_1T (q := low p) (by omega), List.cons_append, List.nil_append]
        · simp only [run_r, seq_r, cont_nx, cont_rt, cont_bk, cont_ct, if_r, sel_t, sel_f, ife_r, sele_t, sele_f, and_r, or_r, sela_t, sela_f, selo_t, selo_f, out_rt, out_rtO, out_nx, setD, setO, retS, retO, retV, retN, nilS, fgt, isB, truB, truD, notB, orV, andV, notV, b1, b2, bA, aC, aN, vr, vw, cst, nth, sset, bnd_r, opt_s, cond_true, cond_false, eTup_0, eTup_1, eTup_2, eTup_3, eLst_0, eLst_1, eLst_2, eLst_3, callE, mkE, List.replicate_succ, List.replicate_zero, List.length_cons, List.length_nil, List.length_map, if_true, if_false, Nat.reduceAdd, Nat.reduceSub, Bool.false_and, Bool.and_true, Bool.true_and, Bool.and_false, Bool.not_true, Bool.not_false, Bool.true_or, Bool.or_true, Bool.false_or, Bool.or_false, reduceIte, Bool.false_eq_true, dGt, dLt, dGe, dLe, dCmp, dSub, dNeg, aLen, seqD_tup, seqD_lst, seqD_T, Option.map_some, dIsN, dNotN, isNonD_non, isNonD_bl, isNonD_int, isNonD_str, isNonD_tup, isNonD_lst, isNonD_T, forL_nil, forL_cons, loop_nx, loop_ct, loop_bk, loop_rt, frzS, frzE, appS, parS, seqD_T, dEq_int, h1, h2, len0, h3, h4, decide_true, decide_false, encO, lowered_eq (p := p) (by omega), List.nil_append]
theorem lstep_eq {p : List Int} {r : Int} (h : p.length < 999999) : m__law_step [T p, .int r] = ret (encO (stepO p r)) := by
  unfold m__law_step
  have hl := low_len p
  simp only [run_r, seq_r, cont_nx, cont_rt, cont_bk, cont_ct, if_r, sel_t, sel_f, ife_r, sele_t, sele_f, and_r, or_r, sela_t, sela_f, selo_t, selo_f, out_rt, out_rtO, out_nx, setD, setO, retS, retO, retV, retN, nilS, fgt, isB, truB, truD, notB, orV, andV, notV, b1, b2, bA, aC, aN, vr, vw, cst, nth, sset, bnd_r, opt_s, cond_true, cond_false, eTup_0, eTup_1, eTup_2, eTup_3, eLst_0, eLst_1, eLst_2, eLst_3, callE, mkE, List.replicate_succ, List.replicate_zero, List.length_cons, List.length_nil, List.length_map, if_true, if_false, Nat.reduceAdd, Nat.reduceSub, Bool.false_and, Bool.and_true, Bool.true_and, Bool.and_false, Bool.not_true, Bool.not_false, Bool.true_or, Bool.or_true, Bool.false_or, Bool.or_false, reduceIte, Bool.false_eq_true, dGt, dLt, dGe, dLe, dCmp, dSub, dNeg, aLen, seqD_tup, seqD_lst, seqD_T, Option.map_some, dIsN, dNotN, isNonD_non, isNonD_bl, isNonD_int, isNonD_str, isNonD_tup, isNonD_lst, isNonD_T, forL_nil, forL_cons, loop_nx, loop_ct, loop_bk, loop_rt, frzS, frzE, appS, parS, seqD_T, dAdd_ii, lrank_eq, dEq_Te]
  unfold stepO
  by_cases h3 : p = []
  · rw [if_pos (.inl h3)]
    simp only [run_r, seq_r, cont_nx, cont_rt, cont_bk, cont_ct, if_r, sel_t, sel_f, ife_r, sele_t, sele_f, and_r, or_r, sela_t, sela_f, selo_t, selo_f, out_rt, out_rtO, out_nx, setD, setO, retS, retO, retV, retN, nilS, fgt, isB, truB, truD, notB, orV, andV, notV, b1, b2, bA, aC, aN, vr, vw, cst, nth, sset, bnd_r, opt_s, cond_true, cond_false, eTup_0, eTup_1, eTup_2, eTup_3, eLst_0, eLst_1, eLst_2, eLst_3, callE, mkE, List.replicate_succ, List.replicate_zero, List.length_cons, List.length_nil, List.length_map, if_true, if_false, Nat.reduceAdd, Nat.reduceSub, Bool.false_and, Bool.and_true, Bool.true_and, Bool.and_false, Bool.not_true, Bool.not_false, Bool.true_or, Bool.or_true, Bool.false_or, Bool.or_false, reduceIte, Bool.false_eq_true, dGt, dLt, dGe, dLe, dCmp, dSub, dNeg, aLen, seqD_tup, seqD_lst, seqD_T, Option.map_some, dIsN, dNotN, isNonD_non, isNonD_bl, isNonD_int, isNonD_str, isNonD_tup, isNonD_lst, isNonD_T, forL_nil, forL_cons, loop_nx, loop_ct, loop_bk, loop_rt, frzS, frzE, appS, parS, h3, decide_true, encO]
  · by_cases h1 : r + 1 < rank p
    · rw [if_pos (.inr (.inl h1))]
      simp only [run_r, seq_r, cont_nx, cont_rt, cont_bk, cont_ct, if_r, sel_t, sel_f, ife_r, sele_t, sele_f, and_r, or_r, sela_t, sela_f, selo_t, selo_f, out_rt, out_rtO, out_nx, setD, setO, retS, retO, retV, retN, nilS, fgt, isB, truB, truD, notB, orV, andV, notV, b1, b2, bA, aC, aN, vr, vw, cst, nth, sset, bnd_r, opt_s, cond_true, cond_false, eTup_0, eTup_1, eTup_2, eTup_3, eLst_0, eLst_1, eLst_2, eLst_3, callE, mkE, List.replicate_succ, List.replicate_zero, List.length_cons, List.length_nil, List.length_map, if_true, if_false, Nat.reduceAdd, Nat.reduceSub, Bool.false_and, Bool.and_true, Bool.true_and, Bool.and_false, Bool.not_true, Bool.not_false, Bool.true_or, Bool.or_true, Bool.false_or, Bool.or_false, reduceIte, Bool.false_eq_true, dGt, dLt, dGe, dLe, dCmp, dSub, dNeg, aLen, seqD_tup, seqD_lst, seqD_T, Option.map_some, dIsN, dNotN, isNonD_non, isNonD_bl, isNonD_int, isNonD_str, isNonD_tup, isNonD_lst, isNonD_T, forL_nil, forL_cons, loop_nx, loop_ct, loop_bk, loop_rt, frzS, frzE, appS, parS, h1, h3, lrank_eq, dAdd_ii, decide_true, decide_false, encO]
    · by_cases h2 : (p.length : Int) + r < 0
      · rw [if_pos (.inr (.inr h2))]
        simp only [run_r, seq_r, cont_nx, cont_rt, cont_bk, cont_ct, if_r, sel_t, sel_f, ife_r, sele_t, sele_f, and_r, or_r, sela_t, sela_f, selo_t, selo_f, out_rt, out_rtO, out_nx, setD, setO, retS, retO, retV, retN, nilS, fgt, isB, truB, truD, notB, orV, andV, notV, b1, b2, bA, aC, aN, vr, vw, cst, nth, sset, bnd_r, opt_s, cond_true, cond_false, eTup_0, eTup_1, eTup_2, eTup_3, eLst_0, eLst_1, eLst_2, eLst_3, callE, mkE, List.replicate_succ, List.replicate_zero, List.length_cons, List.length_nil, List.length_map, if_true, if_false, Nat.reduceAdd, Nat.reduceSub, Bool.false_and, Bool.and_true, Bool.true_and, Bool.and_false, Bool.not_true, Bool.not_false, Bool.true_or, Bool.or_true, Bool.false_or, Bool.or_false, reduceIte, Bool.false_eq_true, dGt, dLt, dGe, dLe, dCmp, dSub, dNeg, aLen, seqD_tup, seqD_lst, seqD_T, Option.map_some, dIsN, dNotN, isNonD_non, isNonD_bl, isNonD_int, isNonD_str, isNonD_tup, isNonD_lst, isNonD_T, forL_nil, forL_cons, loop_nx, loop_ct, loop_bk, loop_rt, frzS, frzE, appS, parS, seqD_T, dAdd_ii, lrank_eq, h1, h2, h3, decide_true, decide_false, encO]
      · rw [if_neg (by simp only [not_or]; exact ⟨h3, h1, h2⟩)]
        simp only [run_r, seq_r, cont_nx, cont_rt, cont_bk, cont_ct, if_r, sel_t, sel_f, ife_r, sele_t, sele_f, and_r, or_r, sela_t, sela_f, selo_t, selo_f, out_rt, out_rtO, out_nx, setD, setO, retS, retO, retV, retN, nilS, fgt, isB, truB, truD, notB, orV, andV, notV, b1, b2, bA, aC, aN, vr, vw, cst, nth, sset, bnd_r, opt_s, cond_true, cond_false, eTup_0, eTup_1, eTup_2, eTup_3, eLst_0, eLst_1, eLst_2, eLst_3, callE, mkE, List.replicate_succ, List.replicate_zero, List.length_cons, List.length_nil, List.length_map, if_true, if_false, Nat.reduceAdd, Nat.reduceSub, Bool.false_and, Bool.and_true, Bool.true_and, Bool.and_false, Bool.not_true, Bool.not_false, Bool.true_or, Bool.or_true, Bool.false_or, Bool.or_false, reduceIte, Bool.false_eq_true, dGt, dLt, dGe, dLe, dCmp, dSub, dNeg, aLen, seqD_tup, seqD_lst, seqD_T, Option.map_some, dIsN, dNotN, isNonD_non, isNonD_bl, isNonD_int, isNonD_str, isNonD_tup, isNonD_lst, isNonD_T, forL_nil, forL_cons, loop_nx, loop_ct, loop_bk, loop_rt, frzS, frzE, appS, parS, seqD_T, dAdd_ii, lrank_eq, h1, h2, h3, decide_true, decide_false]
        rw [lcLow (p := p) (i := 3) (ρ1 := fun x => [.d (T p), .d (.int r), .un, .d (.int x)]) (by simp only [itS, run_r, seq_r, cont_nx, cont_rt, cont_bk, cont_ct, if_r, sel_t, sel_f, ife_r, sele_t, sele_f, and_r, or_r, sela_t, sela_f, selo_t, selo_f, out_rt, out_rtO, out_nx, setD, setO, retS, retO, retV, retN, nilS, fgt, isB, truB, truD, notB, orV, andV, notV, b1, b2, bA, aC, aN, vr, vw, cst, nth, sset, bnd_r, opt_s, cond_true, cond_false, eTup_0, eTup_1, eTup_2, eTup_3, eLst_0, eLst_1, eLst_2, eLst_3, callE, mkE, List.replicate_succ, List.replicate_zero, List.length_cons, List.length_nil, List.length_map, if_true, if_false, Nat.reduceAdd, Nat.reduceSub, Bool.false_and, Bool.and_true, Bool.true_and, Bool.and_false, Bool.not_true, Bool.not_false, Bool.true_or, Bool.or_true, Bool.false_or, Bool.or_false, reduceIte, Bool.false_eq_true, dGt, dLt, dGe, dLe, dCmp, dSub, dNeg, aLen, seqD_tup, seqD_lst, seqD_T, Option.map_some, dIsN, dNotN, isNonD_non, isNonD_bl, isNonD_int, isNonD_str, isNonD_tup, isNonD_lst, isNonD_T, forL_nil, forL_cons, loop_nx, loop_ct, loop_bk, loop_rt, frzS, frzE, appS, parS, seqD_T]) (by omega) (fun _ => rfl) (fun _ => rfl)]
        by_cases h4 : 0 < (p.length : Int) + r
        · simp only [run_r, seq_r, cont_nx, cont_rt, cont_bk, cont_ct, if_r, sel_t, sel_f, ife_r, sele_t, sele_f, and_r, or_r, sela_t, sela_f, selo_t, selo_f, out_rt, out_rtO, out_nx, setD, setO, retS, retO, retV, retN, nilS, fgt, isB, truB, truD, notB, orV, andV, notV, b1, b2, bA, aC, aN, vr, vw, cst, nth, sset, bnd_r, opt_s, cond_true, cond_false, eTup_0, eTup_1, eTup_2, eTup_3, eLst_0, eLst_1, eLst_2, eLst_3, callE, mkE, List.replicate_succ, List.replicate_zero, List.length_cons, List.length_nil, List.length_map, if_true, if_false, Nat.reduceAdd, Nat.reduceSub, Bool.false_and, Bool.and_true, Bool.true_and, Bool.and_false, Bool.not_true, Bool.not_false, Bool.true_or, Bool.or_true, Bool.false_or, Bool.or_false, reduceIte, Bool.false_eq_true, dGt, dLt, dGe, dLe, dCmp, dSub, dNeg, aLen, seqD_tup, seqD_lst, seqD_T, Option.map_some, dIsN, dNotN, isNonD_non, isNonD_bl, isNonD_int, isNonD_str, isNonD_tup, isNonD_lst, isNonD_T, forL_nil, forL_cons, loop_nx, loop_ct, loop_bk, loop_rt, frzS, frzE, appS, parS, seqD_T, dAdd_ii, h4, decide_true, aTuple_l, tupT, dAdd_1T (q := low p) (by omega), encO, List.cons_append, List.nil_append]
        · simp only [run_r, seq_r, cont_nx, cont_rt, cont_bk, cont_ct, if_r, sel_t, sel_f, ife_r, sele_t, sele_f, and_r, or_r, sela_t, sela_f, selo_t, selo_f, out_rt, out_rtO, out_nx, setD, setO, retS, retO, retV, retN, nilS, fgt, isB, truB, truD, notB, orV, andV, notV, b1, b2, bA, aC, aN, vr, vw, cst, nth, sset, bnd_r, opt_s, cond_true, cond_false, eTup_0, eTup_1, eTup_2, eTup_3, eLst_0, eLst_1, eLst_2, eLst_3, callE, mkE, List.replicate_succ, List.replicate_zero, List.length_cons, List.length_nil, List.length_map, if_true, if_false, Nat.reduceAdd, Nat.reduceSub, Bool.false_and, Bool.and_true, Bool.true_and, Bool.and_false, Bool.not_true, Bool.not_false, Bool.true_or, Bool.or_true, Bool.false_or, Bool.or_false, reduceIte, Bool.false_eq_true, dGt, dLt, dGe, dLe, dCmp, dSub, dNeg, aLen, seqD_tup, seqD_lst, seqD_T, Option.map_some, dIsN, dNotN, isNonD_non, isNonD_bl, isNonD_int, isNonD_str, isNonD_tup, isNonD_lst, isNonD_T, forL_nil, forL_cons, loop_nx, loop_ct, loop_bk, loop_rt, frzS, frzE, appS, parS, seqD_T, dAdd_ii, h4, decide_false, aTuple_l, tupT, dAdd_0T (q := low p) (by omega), encO, List.nil_append]
theorem cut1 {α : Type} (x : α) (xs : List α) : FL.cutD (x :: xs) (some 1) none = xs := by
  unfold FL.cutD
  rw [show HT.sIx (x :: xs).length 0 (some 1) = min 1 (x :: xs).length from HT.sIx_nat _ _ 1, HT.sIx_none]
  simp
theorem dback_eq {a r : Int} {l : List Int} (hl : l.length < 100000) (ha : a < 100000) (hr : -100000 < r) (ha0 : -100000 < a) (hr2 : r < 100000) : m_dyson_back [T (a :: l), .int r] = ret (T (back a l r)) := by
  unfold m_dyson_back
  simp only [run_r, seq_r, cont_nx, cont_rt, cont_bk, cont_ct, if_r, sel_t, sel_f, ife_r, sele_t, sele_f, and_r, or_r, sela_t, sela_f, selo_t, selo_f, out_rt, out_rtO, out_nx, setD, setO, retS, retO, retV, retN, nilS, fgt, isB, truB, truD, notB, orV, andV, notV, b1, b2, bA, aC, aN, vr, vw, cst, nth, sset, bnd_r, opt_s, cond_true, cond_false, eTup_0, eTup_1, eTup_2, eTup_3, eLst_0, eLst_1, eLst_2, eLst_3, callE, mkE, List.replicate_succ, List.replicate_zero, List.length_cons, List.length_nil, List.length_map, if_true, if_false, Nat.reduceAdd, Nat.reduceSub, Bool.false_and, Bool.and_true, Bool.true_and, Bool.and_false, Bool.not_true, Bool.not_false, Bool.true_or, Bool.or_true, Bool.false_or, Bool.or_false, reduceIte, Bool.false_eq_true, dGt, dLt, dGe, dLe, dCmp, dSub, dNeg, aLen, seqD_tup, seqD_lst, seqD_T, Option.map_some, dIsN, dNotN, isNonD_non, isNonD_bl, isNonD_int, isNonD_str, isNonD_tup, isNonD_lst, isNonD_T, forL_nil, forL_cons, loop_nx, loop_ct, loop_bk, loop_rt, frzS, frzE, appS, parS, dIx_head]
  have hlc : ∀ ρ : FL.Env, nth ρ 0 = .d (T (a :: l)) → 4 < ρ.length → lcE (itS (slE dSl (vw 0) (oS (cst (.int 1))) oN)) (gN 4) yesB (b2 dAdd (vw 4) (cst (.int 1))) [4] ρ = ret (.lst ((l.map (· + 1)).map .int)) := fun ρ h0 h4 => by
    rw [List.map_map]
    refine lcE_map D.int (fun x => D.int (x + 1)) l ?_ (by rw [sizeLine_eq]; omega) fun x _ => ⟨_, rfl, ?_⟩
    · have hw : vw 0 ρ = ret (T (a :: l)) := by unfold vw; rw [h0]
      simp only [itS, slE, hw, oS, oN, cst, bnd_r, opt_s]
      show bnd (opt (some (D.tup (FL.cutD (D.int a :: l.map .int) (some 1) none)))) _ = _
      rw [cut1]; rfl
    · have hw : vw 4 (sset (fgt [4] ρ) 4 (.d (.int x))) = ret (.int x) := by
        unfold vw
        match ρ, h4 with
        | _ :: _ :: _ :: _ :: _ :: _, _ => rfl
      simp only [b2, hw, cst, bnd_r, dAdd_ii, opt_s]
  rw [hlc _ rfl (by simp)]
  have hrep : repOk 1 (a - r - (l.length : Int)) = true := by
    simp only [repOk, Bool.and_eq_true, decide_eq_true_eq, sizeLine_eq]
    refine ⟨⟨by omega, by omega⟩, by omega⟩
  have hadd : ∀ xs ys : List D, xs.length + ys.length ≤ 1000000 → dAdd (.lst xs) (.lst ys) = some (.lst (xs ++ ys)) := fun xs ys h => by
    show (if _ then _ else _) = _
    rw [if_pos (by rw [sizeLine_eq]; omega)]
  have hones : (List.replicate (a - r - (l.length : Int)).toNat [D.int 1]).flatten = (List.replicate (a - r - (l.length : Int)).toNat (1 : Int)).map D.int := by
    rw [List.map_replicate]
    generalize (a - r - (l.length : Int)).toNat = n
    induction n with
    | zero => rfl
    | succ n ih => rw [List.replicate_succ, List.replicate_succ, List.flatten_cons, ih]; rfl
  have hmul : dMul (.lst [.int 1]) (.int (a - r - (l.length : Int))) = some (.lst ((List.replicate (a - r - (l.length : Int)).toNat (1 : Int)).map D.int)) := by
    show (if repOk 1 _ = true then some (D.lst _) else none) = _
    rw [if_pos hrep, hones]
  simp only [run_r, seq_r, cont_nx, cont_rt, cont_bk, cont_ct, if_r, sel_t, sel_f, ife_r, sele_t, sele_f, and_r, or_r, sela_t, sela_f, selo_t, selo_f, out_rt, out_rtO, out_nx, setD, setO, retS, retO, retV, retN, nilS, fgt, isB, truB, truD, notB, orV, andV, notV, b1, b2, bA, aC, aN, vr, vw, cst, nth, sset, bnd_r, opt_s, cond_true, cond_false, eTup_0, eTup_1, eTup_2, eTup_3, eLst_0, eLst_1, eLst_2, eLst_3, callE, mkE, List.replicate_succ, List.replicate_zero, List.length_cons, List.length_nil, List.length_map, if_true, if_false, Nat.reduceAdd, Nat.reduceSub, Bool.false_and, Bool.and_true, Bool.true_and, Bool.and_false, Bool.not_true, Bool.not_false, Bool.true_or, Bool.or_true, Bool.false_or, Bool.or_false, reduceIte, Bool.false_eq_true, dGt, dLt, dGe, dLe, dCmp, dSub, dNeg, aLen, seqD_tup, seqD_lst, seqD_T, Option.map_some, dIsN, dNotN, isNonD_non, isNonD_bl, isNonD_int, isNonD_str, isNonD_tup, isNonD_lst, isNonD_T, forL_nil, forL_cons, loop_nx, loop_ct, loop_bk, loop_rt, frzS, frzE, appS, parS, hmul]
  rw [hadd _ _ (by simp only [List.length_map, List.length_replicate]; omega)]
  simp only [run_r, seq_r, cont_nx, cont_rt, cont_bk, cont_ct, if_r, sel_t, sel_f, ife_r, sele_t, sele_f, and_r, or_r, sela_t, sela_f, selo_t, selo_f, out_rt, out_rtO, out_nx, setD, setO, retS, retO, retV, retN, nilS, fgt, isB, truB, truD, notB, orV, andV, notV, b1, b2, bA, aC, aN, vr, vw, cst, nth, sset, bnd_r, opt_s, cond_true, cond_false, eTup_0, eTup_1, eTup_2, eTup_3, eLst_0, eLst_1, eLst_2, eLst_3, callE, mkE, List.replicate_succ, List.replicate_zero, List.length_cons, List.length_nil, List.length_map, if_true, if_false, Nat.reduceAdd, Nat.reduceSub, Bool.false_and, Bool.and_true, Bool.true_and, Bool.and_false, Bool.not_true, Bool.not_false, Bool.true_or, Bool.or_true, Bool.false_or, Bool.or_false, reduceIte, Bool.false_eq_true, dGt, dLt, dGe, dLe, dCmp, dSub, dNeg, aLen, seqD_tup, seqD_lst, seqD_T, Option.map_some, dIsN, dNotN, isNonD_non, isNonD_bl, isNonD_int, isNonD_str, isNonD_tup, isNonD_lst, isNonD_T, forL_nil, forL_cons, loop_nx, loop_ct, loop_bk, loop_rt, frzS, frzE, appS, parS, aTuple_l]
  rw [← List.map_append]
  rfl
theorem leq_eq : ∀ k, m__law_eq k = lawEqM k
  | 0 => rfl
  | k + 1 => by unfold m__law_eq lawEqM; rw [leq_eq k]
end K54
end
section
set_option maxHeartbeats 1000000
namespace K54
open PySem PySem.Spec PyProof.Rows L2 FL P54
/-! the partitions -/
theorem dAdd_ll {xs ys : List D} (h : xs.length + ys.length ≤ 16000000) : dAdd (.lst xs) (.lst ys) = some (.lst (xs ++ ys)) := by
  show (if xs.length + ys.length ≤ sizeLine then some (D.lst (xs ++ ys)) else none) = _
  rw [if_pos (by rw [sizeLine_eq]; omega)]
theorem rg_down : ∀ t : Fin 40, rgcOk (t.val : Int) 0 (-1) = true ∧ (Builtin.Range.rangeSize (t.val : Int) 0 (-1)).toNat = t.val := by decide +kernel
theorem upC_downN : ∀ (t : Nat) (lo : Int), lo = t → upC lo (-1) t = (downN t).map fun x : Nat => D.int x
  | 0, _, _ => rfl
  | t + 1, lo, h => by
    subst h
    rw [upC, upC_downN t _ (by omega), downN, List.map_cons]
theorem min_int (n m : Nat) : (if (m : Int) < (n : Int) then (m : Int) else (n : Int)) = ((min n m : Nat) : Int) := by
  split <;> omega
theorem rg3_down {t : Nat} (h : t < 40) : rg3 (.int (t : Int)) (.int 0) (.int (-1)) = some ((downN t).map fun x : Nat => D.int x) := by
  obtain ⟨h1, h2⟩ := rg_down ⟨t, h⟩
  show (if rgcOk (t : Int) 0 (-1) = true then some (upC (t : Int) (-1) (Builtin.Range.rangeSize (t : Int) 0 (-1)).toNat) else none) = _
  rw [if_pos h1, h2, upC_downN t _ rfl]
theorem aMin_ii (i j : Int) : aMin [.int i, .int j] = some (.int (if j < i then j else i)) := Eq.symm rfl
def pBody (k : Nat) : SF := (seqS (setD 2 (b2 dAdd (vw 2) (lcE (itS (callE (m__law_partitions k) (aC (b2 dSub (vw 0) (vw 3)) (aC (vr 3) aN)))) (gN 4) yesB (b2 dAdd (eTup (aC (vr 3) aN)) (vw 4)) [4])))
  (nilS [3]))
def ext (k n : Nat) (x : Nat) : List (List Int) := (parts k (n - x) x).map ((x : Int) :: ·)
theorem pLoop {k n m : Nat} (ih : ∀ x : Nat, 1 ≤ x → x ≤ n → m__law_partitions k [.int ((n : Int) - (x : Int)), .int x] = ret (.lst ((parts k (n - x) x).map T))) (hlen : ∀ x p, 1 ≤ x → x ≤ n → p ∈ parts k (n - x) x → p.length < 1000) :
    ∀ (xs : List Nat) (acc : List (List Int)), (∀ x ∈ xs, 1 ≤ x ∧ x ≤ n) → acc.length + (xs.flatMap (ext k n)).length ≤ 16000000 →
    forL (gN 3) (pBody k) (xs.map fun x : Nat => D.int x) [.d (.int n), .d (.int m), .d (.lst (acc.map T)), .un, .un] = ret (.nx [.d (.int n), .d (.int m), .d (.lst ((acc ++ xs.flatMap (ext k n)).map T)), .un, .un])
  | [], acc, _, _ => by simp [forL]
  | x :: xs, acc, hx, hz => by
    obtain ⟨h1, h2⟩ := hx x (by simp)
    rw [List.flatMap_cons, List.length_append] at hz
    have hz1 : (parts k (n - x) x).length = (ext k n x).length := by unfold ext; rw [List.length_map]
    rw [List.map_cons, forL_cons]
    have e1 : pBody k [.d (.int n), .d (.int m), .d (.lst (acc.map T)), .d (.int x), .un] = ret (.nx [.d (.int n), .d (.int m), .d (.lst ((acc ++ ext k n x).map T)), .un, .un]) := by
      unfold pBody
      simp only [run_r, seq_r, cont_nx, cont_rt, cont_bk, cont_ct, if_r, sel_t, sel_f, ife_r, sele_t, sele_f, and_r, or_r, sela_t, sela_f, selo_t, selo_f, out_rt, out_rtO, out_nx, setD, setO, retS, retO, retV, retN, nilS, fgt, isB, truB, truD, notB, orV, andV, notV, b1, b2, bA, aC, aN, vr, vw, cst, nth, sset, bnd_r, opt_s, cond_true, cond_false, eTup_0, eTup_1, eTup_2, eTup_3, eLst_0, eLst_1, eLst_2, eLst_3, callE, mkE, List.replicate_succ, List.replicate_zero, List.length_cons, List.length_nil, List.length_map, if_true, if_false, Nat.reduceAdd, Nat.reduceSub, Bool.false_and, Bool.and_true, Bool.true_and, Bool.and_false, Bool.not_true, Bool.not_false, Bool.true_or, Bool.or_true, Bool.false_or, Bool.or_false, reduceIte, Bool.false_eq_true, dGt, dLt, dGe, dLe, dCmp, dSub, dNeg, aLen, seqD_tup, seqD_lst, seqD_T, Option.map_some, dIsN, dNotN, isNonD_non, isNonD_bl, isNonD_int, isNonD_str, isNonD_tup, isNonD_lst, isNonD_T, forL_nil, forL_cons, loop_nx, loop_ct, loop_bk, loop_rt, frzS, frzE, appS, parS]
      rw [lcE_map T (fun p => T ((x : Int) :: p)) (parts k (n - x) x) (by simp only [itS, run_r, seq_r, cont_nx, cont_rt, cont_bk, cont_ct, if_r, sel_t, sel_f, ife_r, sele_t, sele_f, and_r, or_r, sela_t, sela_f, selo_t, selo_f, out_rt, out_rtO, out_nx, setD, setO, retS, retO, retV, retN, nilS, fgt, isB, truB, truD, notB, orV, andV, notV, b1, b2, bA, aC, aN, vr, vw, cst, nth, sset, bnd_r, opt_s, cond_true, cond_false, eTup_0, eTup_1, eTup_2, eTup_3, eLst_0, eLst_1, eLst_2, eLst_3, callE, mkE, List.replicate_succ, List.replicate_zero, List.length_cons, List.length_nil, List.length_map, if_true, if_false, Nat.reduceAdd, Nat.reduceSub, Bool.false_and, Bool.and_true, Bool.true_and, Bool.and_false, Bool.not_true, Bool.not_false, Bool.true_or, Bool.or_true, Bool.false_or, Bool.or_false, reduceIte, Bool.false_eq_true, dGt, dLt, dGe, dLe, dCmp, dSub, dNeg, aLen, seqD_tup, seqD_lst, seqD_T, Option.map_some, dIsN, dNotN, isNonD_non, isNonD_bl, isNonD_int, isNonD_str, isNonD_tup, isNonD_lst, isNonD_T, forL_nil, forL_cons, loop_nx, loop_ct, loop_bk, loop_rt, frzS, frzE, appS, parS, ih x h1 h2]) (by rw [sizeLine_eq]; omega) fun p hp => ⟨_, rfl, by
        simp only [run_r, seq_r, cont_nx, cont_rt, cont_bk, cont_ct, if_r, sel_t, sel_f, ife_r, sele_t, sele_f, and_r, or_r, sela_t, sela_f, selo_t, selo_f, out_rt, out_rtO, out_nx, setD, setO, retS, retO, retV, retN, nilS, fgt, isB, truB, truD, notB, orV, andV, notV, b1, b2, bA, aC, aN, vr, vw, cst, nth, sset, bnd_r, opt_s, cond_true, cond_false, eTup_0, eTup_1, eTup_2, eTup_3, eLst_0, eLst_1, eLst_2, eLst_3, callE, mkE, List.replicate_succ, List.replicate_zero, List.length_cons, List.length_nil, List.length_map, if_true, if_false, Nat.reduceAdd, Nat.reduceSub, Bool.false_and, Bool.and_true, Bool.true_and, Bool.and_false, Bool.not_true, Bool.not_false, Bool.true_or, Bool.or_true, Bool.false_or, Bool.or_false, reduceIte, Bool.false_eq_true, dGt, dLt, dGe, dLe, dCmp, dSub, dNeg, aLen, seqD_tup, seqD_lst, seqD_T, Option.map_some, dIsN, dNotN, isNonD_non, isNonD_bl, isNonD_int, isNonD_str, isNonD_tup, isNonD_lst, isNonD_T, forL_nil, forL_cons, loop_nx, loop_ct, loop_bk, loop_rt, frzS, frzE, appS, parS, fgt, dAdd_1T (x := (x : Int)) (q := p) (by have := hlen x p h1 h2 hp; omega)]⟩]
      simp only [run_r, seq_r, cont_nx, cont_rt, cont_bk, cont_ct, if_r, sel_t, sel_f, ife_r, sele_t, sele_f, and_r, or_r, sela_t, sela_f, selo_t, selo_f, out_rt, out_rtO, out_nx, setD, setO, retS, retO, retV, retN, nilS, fgt, isB, truB, truD, notB, orV, andV, notV, b1, b2, bA, aC, aN, vr, vw, cst, nth, sset, bnd_r, opt_s, cond_true, cond_false, eTup_0, eTup_1, eTup_2, eTup_3, eLst_0, eLst_1, eLst_2, eLst_3, callE, mkE, List.replicate_succ, List.replicate_zero, List.length_cons, List.length_nil, List.length_map, if_true, if_false, Nat.reduceAdd, Nat.reduceSub, Bool.false_and, Bool.and_true, Bool.true_and, Bool.and_false, Bool.not_true, Bool.not_false, Bool.true_or, Bool.or_true, Bool.false_or, Bool.or_false, reduceIte, Bool.false_eq_true, dGt, dLt, dGe, dLe, dCmp, dSub, dNeg, aLen, seqD_tup, seqD_lst, seqD_T, Option.map_some, dIsN, dNotN, isNonD_non, isNonD_bl, isNonD_int, isNonD_str, isNonD_tup, isNonD_lst, isNonD_T, forL_nil, forL_cons, loop_nx, loop_ct, loop_bk, loop_rt, frzS, frzE, appS, parS]
      have e2 : (parts k (n - x) x).map (fun p => T ((x : Int) :: p)) = (ext k n x).map T := by unfold ext; rw [List.map_map]; rfl
      rw [e2, dAdd_ll (by rw [List.length_map, List.length_map]; omega), ← List.map_append]
      simp only [run_r, seq_r, cont_nx, cont_rt, cont_bk, cont_ct, if_r, sel_t, sel_f, ife_r, sele_t, sele_f, and_r, or_r, sela_t, sela_f, selo_t, selo_f, out_rt, out_rtO, out_nx, setD, setO, retS, retO, retV, retN, nilS, fgt, isB, truB, truD, notB, orV, andV, notV, b1, b2, bA, aC, aN, vr, vw, cst, nth, sset, bnd_r, opt_s, cond_true, cond_false, eTup_0, eTup_1, eTup_2, eTup_3, eLst_0, eLst_1, eLst_2, eLst_3, callE, mkE, List.replicate_succ, List.replicate_zero, List.length_cons, List.length_nil, List.length_map, if_true, if_false, Nat.reduceAdd, Nat.reduceSub, Bool.false_and, Bool.and_true, Bool.true_and, Bool.and_false, Bool.not_true, Bool.not_false, Bool.true_or, Bool.or_true, Bool.false_or, Bool.or_false, reduceIte, Bool.false_eq_true, dGt, dLt, dGe, dLe, dCmp, dSub, dNeg, aLen, seqD_tup, seqD_lst, seqD_T, Option.map_some, dIsN, dNotN, isNonD_non, isNonD_bl, isNonD_int, isNonD_str, isNonD_tup, isNonD_lst, isNonD_T, forL_nil, forL_cons, loop_nx, loop_ct, loop_bk, loop_rt, frzS, frzE, appS, parS]
    rw [show gN 3 (.int x) [.d (.int n), .d (.int m), .d (.lst (acc.map T)), .un, .un] = some [.d (.int n), .d (.int m), .d (.lst (acc.map T)), .d (.int x), .un] from rfl, opt_s, bnd_r, e1, bnd_r, loop_nx]
    rw [pLoop ih hlen xs (acc ++ ext k n x) (fun y hy => hx y (by simp [hy])) (by rw [List.length_append]; omega), List.flatMap_cons, List.append_assoc]
theorem parts_eq : ∀ (k n m : Nat), n < k → n ≤ 22 → m__law_partitions k [.int n, .int m] = ret (.lst ((parts k n m).map T))
  | 0, n, m, h, _ => absurd h (Nat.not_lt_zero _)
  | k + 1, n, m, h, h22 => by
    unfold m__law_partitions
    have hd : ((n : Int) = 0) ↔ n = 0 := by omega
    by_cases hn : n = 0
    · subst hn
      simp only [run_r, seq_r, cont_nx, cont_rt, cont_bk, cont_ct, if_r, sel_t, sel_f, ife_r, sele_t, sele_f, and_r, or_r, sela_t, sela_f, selo_t, selo_f, out_rt, out_rtO, out_nx, setD, setO, retS, retO, retV, retN, nilS, fgt, isB, truB, truD, notB, orV, andV, notV, b1, b2, bA, aC, aN, vr, vw, cst, nth, sset, bnd_r, opt_s, cond_true, cond_false, eTup_0, eTup_1, eTup_2, eTup_3, eLst_0, eLst_1, eLst_2, eLst_3, callE, mkE, List.replicate_succ, List.replicate_zero, List.length_cons, List.length_nil, List.length_map, if_true, if_false, Nat.reduceAdd, Nat.reduceSub, Bool.false_and, Bool.and_true, Bool.true_and, Bool.and_false, Bool.not_true, Bool.not_false, Bool.true_or, Bool.or_true, Bool.false_or, Bool.or_false, reduceIte, Bool.false_eq_true, dGt, dLt, dGe, dLe, dCmp, dSub, dNeg, aLen, seqD_tup, seqD_lst, seqD_T, Option.map_some, dIsN, dNotN, isNonD_non, isNonD_bl, isNonD_int, isNonD_str, isNonD_tup, isNonD_lst, isNonD_T, forL_nil, forL_cons, loop_nx, loop_ct, loop_bk, loop_rt, frzS, frzE, appS, parS, dEq_int, decide_true, parts, Int.natCast_zero]
      rfl
    · simp only [run_r, seq_r, cont_nx, cont_rt, cont_bk, cont_ct, if_r, sel_t, sel_f, ife_r, sele_t, sele_f, and_r, or_r, sela_t, sela_f, selo_t, selo_f, out_rt, out_rtO, out_nx, setD, setO, retS, retO, retV, retN, nilS, fgt, isB, truB, truD, notB, orV, andV, notV, b1, b2, bA, aC, aN, vr, vw, cst, nth, sset, bnd_r, opt_s, cond_true, cond_false, eTup_0, eTup_1, eTup_2, eTup_3, eLst_0, eLst_1, eLst_2, eLst_3, callE, mkE, List.replicate_succ, List.replicate_zero, List.length_cons, List.length_nil, List.length_map, if_true, if_false, Nat.reduceAdd, Nat.reduceSub, Bool.false_and, Bool.and_true, Bool.true_and, Bool.and_false, Bool.not_true, Bool.not_false, Bool.true_or, Bool.or_true, Bool.false_or, Bool.or_false, reduceIte, Bool.false_eq_true, dGt, dLt, dGe, dLe, dCmp, dSub, dNeg, aLen, seqD_tup, seqD_lst, seqD_T, Option.map_some, dIsN, dNotN, isNonD_non, isNonD_bl, isNonD_int, isNonD_str, isNonD_tup, isNonD_lst, isNonD_T, forL_nil, forL_cons, loop_nx, loop_ct, loop_bk, loop_rt, frzS, frzE, appS, parS, dEq_int, hd, hn, decide_false]
      have e0 : forS (itR3 (bA aMin (aC (vw 0) (aC (vw 1) aN))) (cst (.int 0)) (b1 dNeg (cst (.int 1)))) (gN 3) (pBody k) [.d (.int n), .d (.int m), .d (.lst []), .un, .un] = ret (.nx [.d (.int n), .d (.int m), .d (.lst (((downN (min n m)).flatMap (ext k n)).map T)), .un, .un]) := by
        unfold forS
        simp only [itR3, run_r, seq_r, cont_nx, cont_rt, cont_bk, cont_ct, if_r, sel_t, sel_f, ife_r, sele_t, sele_f, and_r, or_r, sela_t, sela_f, selo_t, selo_f, out_rt, out_rtO, out_nx, setD, setO, retS, retO, retV, retN, nilS, fgt, isB, truB, truD, notB, orV, andV, notV, b1, b2, bA, aC, aN, vr, vw, cst, nth, sset, bnd_r, opt_s, cond_true, cond_false, eTup_0, eTup_1, eTup_2, eTup_3, eLst_0, eLst_1, eLst_2, eLst_3, callE, mkE, List.replicate_succ, List.replicate_zero, List.length_cons, List.length_nil, List.length_map, if_true, if_false, Nat.reduceAdd, Nat.reduceSub, Bool.false_and, Bool.and_true, Bool.true_and, Bool.and_false, Bool.not_true, Bool.not_false, Bool.true_or, Bool.or_true, Bool.false_or, Bool.or_false, reduceIte, Bool.false_eq_true, dGt, dLt, dGe, dLe, dCmp, dSub, dNeg, aLen, seqD_tup, seqD_lst, seqD_T, Option.map_some, dIsN, dNotN, isNonD_non, isNonD_bl, isNonD_int, isNonD_str, isNonD_tup, isNonD_lst, isNonD_T, forL_nil, forL_cons, loop_nx, loop_ct, loop_bk, loop_rt, frzS, frzE, appS, parS, aMin_ii, min_int, rg3_down (t := min n m) (by omega)]
        have hL := parts_len (k + 1) n m
        rw [parts, if_neg hn] at hL
        have h4 : 2 ^ n ≤ 2 ^ 22 := Nat.pow_le_pow_right (by decide) h22
        exact pLoop (m := m) (acc := []) (fun x h1 h2 => by
          have := parts_eq k (n - x) x (by omega) (by omega)
          rwa [show ((n - x : Nat) : Int) = (n : Int) - x by omega] at this) (fun x p h1 h2 hp => by
          have := ((mem_parts (by omega)).mp hp)
          have h3 := this.1.sum_ge
          omega) (downN (min n m)) (fun x hx => by have := mem_downN.mp hx; omega) (by
          show 0 + ((downN (min n m)).flatMap fun x => (parts k (n - x) x).map ((x : Int) :: ·)).length ≤ _
          omega)
      show bnd (bnd (forS _ _ (pBody k) _) _) _ = _
      rw [e0]
      simp only [run_r, seq_r, cont_nx, cont_rt, cont_bk, cont_ct, if_r, sel_t, sel_f, ife_r, sele_t, sele_f, and_r, or_r, sela_t, sela_f, selo_t, selo_f, out_rt, out_rtO, out_nx, setD, setO, retS, retO, retV, retN, nilS, fgt, isB, truB, truD, notB, orV, andV, notV, b1, b2, bA, aC, aN, vr, vw, cst, nth, sset, bnd_r, opt_s, cond_true, cond_false, eTup_0, eTup_1, eTup_2, eTup_3, eLst_0, eLst_1, eLst_2, eLst_3, callE, mkE, List.replicate_succ, List.replicate_zero, List.length_cons, List.length_nil, List.length_map, if_true, if_false, Nat.reduceAdd, Nat.reduceSub, Bool.false_and, Bool.and_true, Bool.true_and, Bool.and_false, Bool.not_true, Bool.not_false, Bool.true_or, Bool.or_true, Bool.false_or, Bool.or_false, reduceIte, Bool.false_eq_true, dGt, dLt, dGe, dLe, dCmp, dSub, dNeg, aLen, seqD_tup, seqD_lst, seqD_T, Option.map_some, dIsN, dNotN, isNonD_non, isNonD_bl, isNonD_int, isNonD_str, isNonD_tup, isNonD_lst, isNonD_T, forL_nil, forL_cons, loop_nx, loop_ct, loop_bk, loop_rt, frzS, frzE, appS, parS]
      rw [parts, if_neg hn]
      rfl
/-! drawn partitions -/
theorem dNe_le (q : List Int) : dNe (.lst (q.map .int)) (.lst []) = some (.bl (!decide (q = []))) := by
  have h1 : okd 60 (.lst (q.map .int)) = true := by simp [okd, List.all_map, List.all_eq_true]
  unfold dNe
  rw [h1]
  show some (D.bl (!eqD _ _)) = _
  unfold eqD
  rw [toPy, toPy, PyData.eqv, toPysI]
  cases q with
  | nil => rfl
  | cons a q => rw [List.map_cons, toPys, PyData.eqvAll]; rfl
theorem drawn_tr {n : Nat} (hn : n ≤ 1000) : Tr (m__law_drawn [.tok, .int n]) (fun d => ∃ p, d = T p ∧ IsP n p ∧ p.sum = n) := by
  unfold m__law_drawn
  refine tr_runS rfl ?_
  refine tr_seq' (fun ρ => ρ = [.d .tok, .d (.int n), .o (.lst []), .un, .un]) (by simp only [run_r, seq_r, cont_nx, cont_rt, cont_bk, cont_ct, if_r, sel_t, sel_f, ife_r, sele_t, sele_f, and_r, or_r, sela_t, sela_f, selo_t, selo_f, out_rt, out_rtO, out_nx, setD, setO, retS, retO, retV, retN, nilS, fgt, isB, truB, truD, notB, orV, andV, notV, b1, b2, bA, aC, aN, vr, vw, cst, nth, sset, bnd_r, opt_s, cond_true, cond_false, eTup_0, eTup_1, eTup_2, eTup_3, eLst_0, eLst_1, eLst_2, eLst_3, callE, mkE, List.replicate_succ, List.replicate_zero, List.length_cons, List.length_nil, List.length_map, if_true, if_false, Nat.reduceAdd, Nat.reduceSub, Bool.false_and, Bool.and_true, Bool.true_and, Bool.and_false, Bool.not_true, Bool.not_false, Bool.true_or, Bool.or_true, Bool.false_or, Bool.or_false, reduceIte, Bool.false_eq_true, dGt, dLt, dGe, dLe, dCmp, dSub, dNeg, aLen, seqD_tup, seqD_lst, seqD_T, Option.map_some, dIsN, dNotN, isNonD_non, isNonD_bl, isNonD_int, isNonD_str, isNonD_tup, isNonD_lst, isNonD_T, forL_nil, forL_cons, loop_nx, loop_ct, loop_bk, loop_rt, frzS, frzE, appS, parS]; exact Tr.ret ⟨_, rfl, rfl⟩) ?_
  rintro _ rfl
  refine tr_seq' (fun ρ => ρ = [.d .tok, .d (.int n), .o (.lst []), .d (.int n), .un]) (by simp only [run_r, seq_r, cont_nx, cont_rt, cont_bk, cont_ct, if_r, sel_t, sel_f, ife_r, sele_t, sele_f, and_r, or_r, sela_t, sela_f, selo_t, selo_f, out_rt, out_rtO, out_nx, setD, setO, retS, retO, retV, retN, nilS, fgt, isB, truB, truD, notB, orV, andV, notV, b1, b2, bA, aC, aN, vr, vw, cst, nth, sset, bnd_r, opt_s, cond_true, cond_false, eTup_0, eTup_1, eTup_2, eTup_3, eLst_0, eLst_1, eLst_2, eLst_3, callE, mkE, List.replicate_succ, List.replicate_zero, List.length_cons, List.length_nil, List.length_map, if_true, if_false, Nat.reduceAdd, Nat.reduceSub, Bool.false_and, Bool.and_true, Bool.true_and, Bool.and_false, Bool.not_true, Bool.not_false, Bool.true_or, Bool.or_true, Bool.false_or, Bool.or_false, reduceIte, Bool.false_eq_true, dGt, dLt, dGe, dLe, dCmp, dSub, dNeg, aLen, seqD_tup, seqD_lst, seqD_T, Option.map_some, dIsN, dNotN, isNonD_non, isNonD_bl, isNonD_int, isNonD_str, isNonD_tup, isNonD_lst, isNonD_T, forL_nil, forL_cons, loop_nx, loop_ct, loop_bk, loop_rt, frzS, frzE, appS, parS]; exact Tr.ret ⟨_, rfl, rfl⟩) ?_
  rintro _ rfl
  refine tr_seq' (fun ρ => ∃ q, ρ = [.d .tok, .d (.int n), .o (.lst (q.map .int)), .d (.int 0), .un] ∧ IsP n q ∧ q.sum = n) ?_ ?_
  · refine tr_whS (n := n) (I := fun left ρ => ∃ q, ρ = [.d .tok, .d (.int n), .o (.lst (q.map .int)), .d (.int (left : Nat)), .un] ∧ IsP n q ∧ q.sum + left = n) (by show n < 1000000; omega) ⟨[], rfl, isP_nil _, by simp⟩ ?_
    rintro left ρ ⟨q, rfl, hq, hs⟩
    by_cases hl : left = 0
    · left
      subst hl
      refine ⟨by simp only [run_r, seq_r, cont_nx, cont_rt, cont_bk, cont_ct, if_r, sel_t, sel_f, ife_r, sele_t, sele_f, and_r, or_r, sela_t, sela_f, selo_t, selo_f, out_rt, out_rtO, out_nx, setD, setO, retS, retO, retV, retN, nilS, fgt, isB, truB, truD, notB, orV, andV, notV, b1, b2, bA, aC, aN, vr, vw, cst, nth, sset, bnd_r, opt_s, cond_true, cond_false, eTup_0, eTup_1, eTup_2, eTup_3, eLst_0, eLst_1, eLst_2, eLst_3, callE, mkE, List.replicate_succ, List.replicate_zero, List.length_cons, List.length_nil, List.length_map, if_true, if_false, Nat.reduceAdd, Nat.reduceSub, Bool.false_and, Bool.and_true, Bool.true_and, Bool.and_false, Bool.not_true, Bool.not_false, Bool.true_or, Bool.or_true, Bool.false_or, Bool.or_false, reduceIte, Bool.false_eq_true, dGt, dLt, dGe, dLe, dCmp, dSub, dNeg, aLen, seqD_tup, seqD_lst, seqD_T, Option.map_some, dIsN, dNotN, isNonD_non, isNonD_bl, isNonD_int, isNonD_str, isNonD_tup, isNonD_lst, isNonD_T, forL_nil, forL_cons, loop_nx, loop_ct, loop_bk, loop_rt, frzS, frzE, appS, parS, Int.natCast_zero, Int.lt_irrefl, decide_false], _, rfl, q, rfl, hq, by omega⟩
    · right
      have hl0 : (0 : Int) < left := by omega
      refine ⟨by simp only [run_r, seq_r, cont_nx, cont_rt, cont_bk, cont_ct, if_r, sel_t, sel_f, ife_r, sele_t, sele_f, and_r, or_r, sela_t, sela_f, selo_t, selo_f, out_rt, out_rtO, out_nx, setD, setO, retS, retO, retV, retN, nilS, fgt, isB, truB, truD, notB, orV, andV, notV, b1, b2, bA, aC, aN, vr, vw, cst, nth, sset, bnd_r, opt_s, cond_true, cond_false, eTup_0, eTup_1, eTup_2, eTup_3, eLst_0, eLst_1, eLst_2, eLst_3, callE, mkE, List.replicate_succ, List.replicate_zero, List.length_cons, List.length_nil, List.length_map, if_true, if_false, Nat.reduceAdd, Nat.reduceSub, Bool.false_and, Bool.and_true, Bool.true_and, Bool.and_false, Bool.not_true, Bool.not_false, Bool.true_or, Bool.or_true, Bool.false_or, Bool.or_false, reduceIte, Bool.false_eq_true, dGt, dLt, dGe, dLe, dCmp, dSub, dNeg, aLen, seqD_tup, seqD_lst, seqD_T, Option.map_some, dIsN, dNotN, isNonD_non, isNonD_bl, isNonD_int, isNonD_str, isNonD_tup, isNonD_lst, isNonD_T, forL_nil, forL_cons, loop_nx, loop_ct, loop_bk, loop_rt, frzS, frzE, appS, parS, hl0, decide_true], ?_⟩
      have hqs := hq.sum_ge
      have hql : q.length < 2000 := by omega
      rcases List.eq_nil_or_concat q with rfl | ⟨q', z, rfl⟩
      · simp only [run_r, seq_r, cont_nx, cont_rt, cont_bk, cont_ct, if_r, sel_t, sel_f, ife_r, sele_t, sele_f, and_r, or_r, sela_t, sela_f, selo_t, selo_f, out_rt, out_rtO, out_nx, setD, setO, retS, retO, retV, retN, nilS, fgt, isB, truB, truD, notB, orV, andV, notV, b1, b2, bA, aC, aN, vr, vw, cst, nth, sset, bnd_r, opt_s, cond_true, cond_false, eTup_0, eTup_1, eTup_2, eTup_3, eLst_0, eLst_1, eLst_2, eLst_3, callE, mkE, List.replicate_succ, List.replicate_zero, List.length_cons, List.length_nil, List.length_map, if_true, if_false, Nat.reduceAdd, Nat.reduceSub, Bool.false_and, Bool.and_true, Bool.true_and, Bool.and_false, Bool.not_true, Bool.not_false, Bool.true_or, Bool.or_true, Bool.false_or, Bool.or_false, reduceIte, Bool.false_eq_true, dGt, dLt, dGe, dLe, dCmp, dSub, dNeg, aLen, seqD_tup, seqD_lst, seqD_T, Option.map_some, dIsN, dNotN, isNonD_non, isNonD_bl, isNonD_int, isNonD_str, isNonD_tup, isNonD_lst, isNonD_T, forL_nil, forL_cons, loop_nx, loop_ct, loop_bk, loop_rt, frzS, frzE, appS, parS, dNe_le, List.map_nil, decide_true, aMin_ii, Int.lt_irrefl, bnd_assoc]
        refine tr_draw (by omega) (by omega) fun v h1 h2 => ?_
        simp only [run_r, seq_r, cont_nx, cont_rt, cont_bk, cont_ct, if_r, sel_t, sel_f, ife_r, sele_t, sele_f, and_r, or_r, sela_t, sela_f, selo_t, selo_f, out_rt, out_rtO, out_nx, setD, setO, retS, retO, retV, retN, nilS, fgt, isB, truB, truD, notB, orV, andV, notV, b1, b2, bA, aC, aN, vr, vw, cst, nth, sset, bnd_r, opt_s, cond_true, cond_false, eTup_0, eTup_1, eTup_2, eTup_3, eLst_0, eLst_1, eLst_2, eLst_3, callE, mkE, List.replicate_succ, List.replicate_zero, List.length_cons, List.length_nil, List.length_map, if_true, if_false, Nat.reduceAdd, Nat.reduceSub, Bool.false_and, Bool.and_true, Bool.true_and, Bool.and_false, Bool.not_true, Bool.not_false, Bool.true_or, Bool.or_true, Bool.false_or, Bool.or_false, reduceIte, Bool.false_eq_true, dGt, dLt, dGe, dLe, dCmp, dSub, dNeg, aLen, seqD_tup, seqD_lst, seqD_T, Option.map_some, dIsN, dNotN, isNonD_non, isNonD_bl, isNonD_int, isNonD_str, isNonD_tup, isNonD_lst, isNonD_T, forL_nil, forL_cons, loop_nx, loop_ct, loop_bk, loop_rt, frzS, frzE, appS, parS, dAdd_ii, appO_ok (ds := []) (by decide), List.nil_append]
        refine Tr.ret ⟨_, left - (1 + v).toNat, rfl, by omega, [1 + v], ?_, isP_cons.mpr ⟨by omega, by omega, isP_nil _⟩, ?_⟩
        · rw [show ((left - (1 + v).toNat : Nat) : Int) = (left : Int) - (1 + v) by omega]; rfl
        · simp only [List.sum_cons, List.sum_nil] at hs ⊢; omega
      · rw [List.concat_eq_append] at hq hs hqs hql ⊢
        have hz := hq.2 z (by simp)
        have hzs := hq.le_sum z (by simp)
        have hne : ¬ (q' ++ [z] = []) := by simp
        have hix : dIx (.lst ((q' ++ [z]).map D.int)) (.int (-1)) = some (.int z) := by
          show atI ((q' ++ [z]).map D.int) (-1) = _
          rw [List.map_append]; exact FL.atI_last _ _
        simp only [run_r, seq_r, cont_nx, cont_rt, cont_bk, cont_ct, if_r, sel_t, sel_f, ife_r, sele_t, sele_f, and_r, or_r, sela_t, sela_f, selo_t, selo_f, out_rt, out_rtO, out_nx, setD, setO, retS, retO, retV, retN, nilS, fgt, isB, truB, truD, notB, orV, andV, notV, b1, b2, bA, aC, aN, vr, vw, cst, nth, sset, bnd_r, opt_s, cond_true, cond_false, eTup_0, eTup_1, eTup_2, eTup_3, eLst_0, eLst_1, eLst_2, eLst_3, callE, mkE, List.replicate_succ, List.replicate_zero, List.length_cons, List.length_nil, List.length_map, if_true, if_false, Nat.reduceAdd, Nat.reduceSub, Bool.false_and, Bool.and_true, Bool.true_and, Bool.and_false, Bool.not_true, Bool.not_false, Bool.true_or, Bool.or_true, Bool.false_or, Bool.or_false, reduceIte, Bool.false_eq_true, dGt, dLt, dGe, dLe, dCmp, dSub, dNeg, aLen, seqD_tup, seqD_lst, seqD_T, Option.map_some, dIsN, dNotN, isNonD_non, isNonD_bl, isNonD_int, isNonD_str, isNonD_tup, isNonD_lst, isNonD_T, forL_nil, forL_cons, loop_nx, loop_ct, loop_bk, loop_rt, frzS, frzE, appS, parS, dNe_le, hne, decide_false, aMin_ii, hix, bnd_assoc]
        have hmin : (0 : Int) < (if z < (left : Int) then z else left) ∧ (if z < (left : Int) then z else left) ≤ z ∧ (if z < (left : Int) then z else left) ≤ left := by
          split <;> omega
        refine tr_draw hmin.1 (by omega) fun v h1 h2 => ?_
        simp only [run_r, seq_r, cont_nx, cont_rt, cont_bk, cont_ct, if_r, sel_t, sel_f, ife_r, sele_t, sele_f, and_r, or_r, sela_t, sela_f, selo_t, selo_f, out_rt, out_rtO, out_nx, setD, setO, retS, retO, retV, retN, nilS, fgt, isB, truB, truD, notB, orV, andV, notV, b1, b2, bA, aC, aN, vr, vw, cst, nth, sset, bnd_r, opt_s, cond_true, cond_false, eTup_0, eTup_1, eTup_2, eTup_3, eLst_0, eLst_1, eLst_2, eLst_3, callE, mkE, List.replicate_succ, List.replicate_zero, List.length_cons, List.length_nil, List.length_map, if_true, if_false, Nat.reduceAdd, Nat.reduceSub, Bool.false_and, Bool.and_true, Bool.true_and, Bool.and_false, Bool.not_true, Bool.not_false, Bool.true_or, Bool.or_true, Bool.false_or, Bool.or_false, reduceIte, Bool.false_eq_true, dGt, dLt, dGe, dLe, dCmp, dSub, dNeg, aLen, seqD_tup, seqD_lst, seqD_T, Option.map_some, dIsN, dNotN, isNonD_non, isNonD_bl, isNonD_int, isNonD_str, isNonD_tup, isNonD_lst, isNonD_T, forL_nil, forL_cons, loop_nx, loop_ct, loop_bk, loop_rt, frzS, frzE, appS, parS, dAdd_ii, appO_ok (ds := (q' ++ [z]).map D.int) (by rw [List.length_map]; omega)]
        refine Tr.ret ⟨_, left - (1 + v).toNat, rfl, by omega, (q' ++ [z]) ++ [1 + v], ?_, (show IsP _ _ from ⟨?_, ?_⟩), ?_⟩
        · rw [show ((left - (1 + v).toNat : Nat) : Int) = (left : Int) - (1 + v) by omega, List.map_append (l₁ := q' ++ [z])]; rfl
        · rw [List.pairwise_append]
          refine ⟨hq.1, by simp, fun a ha b hb => ?_⟩
          have hb' : b = 1 + v := by simpa using hb
          have : z ≤ a := by
            rcases List.mem_append.mp ha with ha | ha
            · exact (List.pairwise_append.mp hq.1).2.2 a ha z (by simp)
            · have : a = z := by simpa using ha
              omega
          omega
        · intro x hx
          rcases List.mem_append.mp hx with hx | hx
          · exact hq.2 x hx
          · have : x = 1 + v := by simpa using hx
            omega
        · rw [List.sum_append]; simp only [List.sum_cons, List.sum_nil]; omega
  · rintro _ ⟨q, rfl, hq, hs⟩
    simp only [run_r, seq_r, cont_nx, cont_rt, cont_bk, cont_ct, if_r, sel_t, sel_f, ife_r, sele_t, sele_f, and_r, or_r, sela_t, sela_f, selo_t, selo_f, out_rt, out_rtO, out_nx, setD, setO, retS, retO, retV, retN, nilS, fgt, isB, truB, truD, notB, orV, andV, notV, b1, b2, bA, aC, aN, vr, vw, cst, nth, sset, bnd_r, opt_s, cond_true, cond_false, eTup_0, eTup_1, eTup_2, eTup_3, eLst_0, eLst_1, eLst_2, eLst_3, callE, mkE, List.replicate_succ, List.replicate_zero, List.length_cons, List.length_nil, List.length_map, if_true, if_false, Nat.reduceAdd, Nat.reduceSub, Bool.false_and, Bool.and_true, Bool.true_and, Bool.and_false, Bool.not_true, Bool.not_false, Bool.true_or, Bool.or_true, Bool.false_or, Bool.or_false, reduceIte, Bool.false_eq_true, dGt, dLt, dGe, dLe, dCmp, dSub, dNeg, aLen, seqD_tup, seqD_lst, seqD_T, Option.map_some, dIsN, dNotN, isNonD_non, isNonD_bl, isNonD_int, isNonD_str, isNonD_tup, isNonD_lst, isNonD_T, forL_nil, forL_cons, loop_nx, loop_ct, loop_bk, loop_rt, frzS, frzE, appS, parS, aTuple_l, tupT]
    exact Tr.ret ⟨_, rfl, q, rfl, hq, hs⟩
end K54
end
section
set_option maxHeartbeats 1000000
namespace K54
open PySem PySem.Spec PyProof.Rows L2 FL P54
theorem tr_nx {a : SF} {ρ ρ' : FL.Env} {R : FL.Env → Prop} (e : a ρ = FL.ret (.nx ρ')) (h : R ρ') : Tr (a ρ) (fun o => ∃ ρ', o = .nx ρ' ∧ R ρ') := by rw [e]; exact Tr.ret ⟨_, rfl, h⟩
/-! sorting -/
theorem rowT (b : List Int) : rowD b = T b := Eq.symm rfl
theorem rows_T (L : List (List Int)) : L.map T = L.map rowD := Eq.symm rfl
theorem aSort_T {L : List (List Int)} (h : ∀ b ∈ L, b ≠ []) : aSortA [.lst (L.map T)] = some (.lst ((srtR L).map T)) := by
  show (if (L.map T).length < 2 then _ else _) = _
  by_cases h2 : (L.map T).length < 2
  · rw [if_pos h2]
    rw [List.length_map] at h2
    match L, h2 with
    | [], _ => rfl
    | [x], _ => rfl
    | _ :: _ :: _, h2 => simp at h2; omega
  · rw [if_neg h2]
    match L, h2, h with
    | [], h2, _ => simp at h2
    | x :: L', h2, h =>
      show (match rowsOf ((x :: L').map T) with
        | some bs => if (bs.all fun b => !b.isEmpty) = true then some (D.lst ((srtR bs).map rowD)) else none
        | none => none) = _
      rw [rows_T, rowsOf_map]
      show (if ((x :: L').all fun b => !b.isEmpty) = true then some (D.lst ((srtR (x :: L')).map rowD)) else none) = _
      rw [if_pos (by
        rw [List.all_eq_true]
        intro b hb
        cases b with
        | nil => exact absurd rfl (h [] hb)
        | cons _ _ => rfl)]
      rfl
theorem srtR_perm_eq {L M : List (List Int)} (h : L.Perm M) : srtR L = srtR M :=
  rows_uniq ((srtR_perm L).trans (h.trans (srtR_perm M).symm)) (srtR_sorted L) (srtR_sorted M)
theorem okd_rows (L : List (List Int)) : okd 60 (.lst (L.map T)) = true := by
  show (L.map T).all (okd 59) = true
  rw [List.all_map, List.all_eq_true]
  intro b _
  exact okdT 58 b
theorem dNe_self {d : D} (h : okd 60 d = true) : dNe d d = some (.bl false) := by
  unfold dNe
  rw [h, eqD_refl h]; rfl
/-! one step, both ways -/
theorem leqT {p : List Int} (h : p.length < 1000000) : m__law_eq 60 [T p, T p] = ret (.bl true) := by
  rw [leq_eq]; exact lawEq60 (gdT (by rw [sizeLine_eq]; omega))
theorem leqO {o : Option (List Int)} (h : ∀ q, o = some q → q.length < 1000000) : m__law_eq 60 [encO o, encO o] = ret (.bl true) := by
  cases o with
  | none => rw [leq_eq]; exact lawEq60 rfl
  | some q => exact leqT (h q rfl)
theorem stepLen {p q : List Int} {r : Int} (h : stepO p r = some q) : q.length ≤ p.length + 1 := by
  unfold stepO at h
  split at h
  · cases h
  · simp only [Option.some.injEq] at h
    subst h
    have := low_len p
    rw [List.length_append]
    split
    · simp only [List.length_cons, List.length_nil]; omega
    · simp only [List.length_nil]; omega
/-- the law's own names, as they stand -/
def E (n : Nat) (r : Int) (e me g : SV) : FL.Env := [.un, .d .tok, .d (.int n), .d (.int r), e, me, .un, .un, g, .un]
def body1 : SF := (seqS (setD 7 (callE m__law_step (aC (vr 6) (aC (vr 3) aN))))
  (seqS (ifS (notB (truB (callE (m__law_eq 60) (aC (callE m_dyson_step (aC (vr 6) (aC (vr 3) aN))) (aC (vr 7) aN)))))
  (seqS (retS (cst (.bl false)))
  (nilS []))
  (nilS []))
  (seqS (ifS (andB (isB (b2 dNotN (vw 7) (cst .non))) (isB (b2 dNe (vw 7) (eTup aN))))
  (seqS (appS 5 (vr 7))
  (seqS (ifS (orB (isB (b2 dLt (callE m__law_rank (aC (vr 7) aN)) (b2 dSub (vw 3) (cst (.int 1))))) (orB (isB (b2 dNe (bA aSum (aC (vw 7) aN)) (b2 dAdd (vw 2) (vw 3)))) (notB (truB (callE (m__law_eq 60) (aC (callE m_dyson_back (aC (vr 7) (aC (vr 3) aN))) (aC (vr 6) aN)))))))
  (seqS (retS (cst (.bl false)))
  (nilS []))
  (nilS []))
  (nilS [])))
  (nilS []))
  (nilS [6, 7]))))
theorem body1_eq {n : Nat} {r : Int} {e : SV} {acc : List (List Int)} {p : List Int} (hn : n ≤ 13) (hr : -8 ≤ r) (hr2 : r ≤ 8) (hp : IsP n p) (hs : p.sum = n) (hacc : acc.length < 1000000) :
    body1 [.un, .d .tok, .d (.int n), .d (.int r), e, .o (.lst (acc.map T)), .d (T p), .un, .un, .un] = ret (.nx (E n r e (.o (.lst ((acc ++ met [p] r).map T))) .un)) := by
  have hpl := hp.sum_ge
  have hl : p.length < 100 := by omega
  have hleq : m__law_eq 60 [encO (stepO p r), encO (stepO p r)] = ret (.bl true) := leqO fun q hq => by have := stepLen hq; omega
  unfold body1
  simp only [run_r, seq_r, cont_nx, cont_rt, cont_bk, cont_ct, if_r, sel_t, sel_f, ife_r, sele_t, sele_f, and_r, or_r, sela_t, sela_f, selo_t, selo_f, out_rt, out_rtO, out_nx, setD, setO, retS, retO, retV, retN, nilS, fgt, isB, truB, truD, notB, orV, andV, notV, b1, b2, bA, aC, aN, vr, vw, cst, nth, sset, bnd_r, opt_s, cond_true, cond_false, eTup_0, eTup_1, eTup_2, eTup_3, eLst_0, eLst_1, eLst_2, eLst_3, callE, mkE, List.replicate_succ, List.replicate_zero, List.length_cons, List.length_nil, List.length_map, if_true, if_false, Nat.reduceAdd, Nat.reduceSub, Bool.false_and, Bool.and_true, Bool.true_and, Bool.and_false, Bool.not_true, Bool.not_false, Bool.true_or, Bool.or_true, Bool.false_or, Bool.or_false, reduceIte, Bool.false_eq_true, dGt, dLt, dGe, dLe, dCmp, dSub, dNeg, aLen, seqD_tup, seqD_lst, seqD_T, Option.map_some, dIsN, dNotN, isNonD_non, isNonD_bl, isNonD_int, isNonD_str, isNonD_tup, isNonD_lst, isNonD_T, forL_nil, forL_cons, loop_nx, loop_ct, loop_bk, loop_rt, frzS, frzE, appS, parS, lstep_eq (p := p) (r := r) (by omega), dstep_eq (p := p) (r := r) (by omega), hleq]
  have hm : met [p] r = match stepO p r with
      | some (a :: l) => [a :: l]
      | _ => [] := by
    unfold met
    cases h : stepO p r with
    | none => simp [h]
    | some q => cases q with
      | nil => simp [h]
      | cons a l => simp [h]
  rw [hm]
  cases hst : stepO p r with
  | none => simp only [run_r, seq_r, cont_nx, cont_rt, cont_bk, cont_ct, if_r, sel_t, sel_f, ife_r, sele_t, sele_f, and_r, or_r, sela_t, sela_f, selo_t, selo_f, out_rt, out_rtO, out_nx, setD, setO, retS, retO, retV, retN, nilS, fgt, isB, truB, truD, notB, orV, andV, notV, b1, b2, bA, aC, aN, vr, vw, cst, nth, sset, bnd_r, opt_s, cond_true, cond_false, eTup_0, eTup_1, eTup_2, eTup_3, eLst_0, eLst_1, eLst_2, eLst_3, callE, mkE, List.replicate_succ, List.replicate_zero, List.length_cons, List.length_nil, List.length_map, if_true, if_false, Nat.reduceAdd, Nat.reduceSub, Bool.false_and, Bool.and_true, Bool.true_and, Bool.and_false, Bool.not_true, Bool.not_false, Bool.true_or, Bool.or_true, Bool.false_or, Bool.or_false, reduceIte, Bool.false_eq_true, dGt, dLt, dGe, dLe, dCmp, dSub, dNeg, aLen, seqD_tup, seqD_lst, seqD_T, Option.map_some, dIsN, dNotN, isNonD_non, isNonD_bl, isNonD_int, isNonD_str, isNonD_tup, isNonD_lst, isNonD_T, forL_nil, forL_cons, loop_nx, loop_ct, loop_bk, loop_rt, frzS, frzE, appS, parS, encO, List.append_nil]; rfl
  | some q =>
    cases q with
    | nil => simp only [run_r, seq_r, cont_nx, cont_rt, cont_bk, cont_ct, if_r, sel_t, sel_f, ife_r, sele_t, sele_f, and_r, or_r, sela_t, sela_f, selo_t, selo_f, out_rt, out_rtO, out_nx, setD, setO, retS, retO, retV, retN, nilS, fgt, isB, truB, truD, notB, orV, andV, notV, b1, b2, bA, aC, aN, vr, vw, cst, nth, sset, bnd_r, opt_s, cond_true, cond_false, eTup_0, eTup_1, eTup_2, eTup_3, eLst_0, eLst_1, eLst_2, eLst_3, callE, mkE, List.replicate_succ, List.replicate_zero, List.length_cons, List.length_nil, List.length_map, if_true, if_false, Nat.reduceAdd, Nat.reduceSub, Bool.false_and, Bool.and_true, Bool.true_and, Bool.and_false, Bool.not_true, Bool.not_false, Bool.true_or, Bool.or_true, Bool.false_or, Bool.or_false, reduceIte, Bool.false_eq_true, dGt, dLt, dGe, dLe, dCmp, dSub, dNeg, aLen, seqD_tup, seqD_lst, seqD_T, Option.map_some, dIsN, dNotN, isNonD_non, isNonD_bl, isNonD_int, isNonD_str, isNonD_tup, isNonD_lst, isNonD_T, forL_nil, forL_cons, loop_nx, loop_ct, loop_bk, loop_rt, frzS, frzE, appS, parS, encO, dNe_Te, decide_true, List.append_nil]; rfl
    | cons a l =>
      obtain ⟨f1, f2, f3⟩ := step_facts hp hst
      have hlen := stepLen hst
      have ha := f3.le_sum a (by simp)
      have ha1 := f3.2 a (by simp)
      have hb := dback_eq (a := a) (r := r) (l := l) (by simp only [List.length_cons] at hlen; omega) (by omega) (by omega) (by omega) (by omega)
      rw [back_step hp hst] at hb
      have g1 : ¬ rank (a :: l) < r - 1 := by omega
      have g2 : (a :: l).sum = (n : Int) + r := by omega
      simp only [run_r, seq_r, cont_nx, cont_rt, cont_bk, cont_ct, if_r, sel_t, sel_f, ife_r, sele_t, sele_f, and_r, or_r, sela_t, sela_f, selo_t, selo_f, out_rt, out_rtO, out_nx, setD, setO, retS, retO, retV, retN, nilS, fgt, isB, truB, truD, notB, orV, andV, notV, b1, b2, bA, aC, aN, vr, vw, cst, nth, sset, bnd_r, opt_s, cond_true, cond_false, eTup_0, eTup_1, eTup_2, eTup_3, eLst_0, eLst_1, eLst_2, eLst_3, callE, mkE, List.replicate_succ, List.replicate_zero, List.length_cons, List.length_nil, List.length_map, if_true, if_false, Nat.reduceAdd, Nat.reduceSub, Bool.false_and, Bool.and_true, Bool.true_and, Bool.and_false, Bool.not_true, Bool.not_false, Bool.true_or, Bool.or_true, Bool.false_or, Bool.or_false, reduceIte, Bool.false_eq_true, dGt, dLt, dGe, dLe, dCmp, dSub, dNeg, aLen, seqD_tup, seqD_lst, seqD_T, Option.map_some, dIsN, dNotN, isNonD_non, isNonD_bl, isNonD_int, isNonD_str, isNonD_tup, isNonD_lst, isNonD_T, forL_nil, forL_cons, loop_nx, loop_ct, loop_bk, loop_rt, frzS, frzE, appS, parS, encO, dNe_Te, reduceCtorEq, decide_false, appO_ok (ds := acc.map T) (d := T (a :: l)) (by rw [List.length_map]; omega), lrank_eq, g1, aSum_T, dAdd_ii, g2, dNe_int, decide_true, hb, leqT (p := p) (by omega)]
      rw [List.map_append]
      rfl
theorem met_app (L M : List (List Int)) (r : Int) : met (L ++ M) r = met L r ++ met M r := List.filterMap_append ..
theorem met_len (L : List (List Int)) (r : Int) : (met L r).length ≤ L.length := List.length_filterMap_le _ _
theorem loop1 {n : Nat} {r : Int} (hn : n ≤ 13) (hr : -8 ≤ r) (hr2 : r ≤ 8) :
    Tr (forS (itS (vr 4)) (gN 6) body1 (E n r (.d (.lst ((parts 60 n n).map T))) (.o (.lst [])) .un)) (fun o => ∃ ρ', o = .nx ρ' ∧ ρ' = E n r (.d (.lst ((parts 60 n n).map T))) (.o (.lst ((met (parts 60 n n) r).map T))) .un) := by
  refine tr_forS (ds := (parts 60 n n).map T) (I := fun ds ρ => ∃ done rest, done ++ rest = parts 60 n n ∧ ds = rest.map T ∧ ρ = E n r (.d (.lst ((parts 60 n n).map T))) (.o (.lst ((met done r).map T))) .un) (by simp only [itS, E, run_r, seq_r, cont_nx, cont_rt, cont_bk, cont_ct, if_r, sel_t, sel_f, ife_r, sele_t, sele_f, and_r, or_r, sela_t, sela_f, selo_t, selo_f, out_rt, out_rtO, out_nx, setD, setO, retS, retO, retV, retN, nilS, fgt, isB, truB, truD, notB, orV, andV, notV, b1, b2, bA, aC, aN, vr, vw, cst, nth, sset, bnd_r, opt_s, cond_true, cond_false, eTup_0, eTup_1, eTup_2, eTup_3, eLst_0, eLst_1, eLst_2, eLst_3, callE, mkE, List.replicate_succ, List.replicate_zero, List.length_cons, List.length_nil, List.length_map, if_true, if_false, Nat.reduceAdd, Nat.reduceSub, Bool.false_and, Bool.and_true, Bool.true_and, Bool.and_false, Bool.not_true, Bool.not_false, Bool.true_or, Bool.or_true, Bool.false_or, Bool.or_false, reduceIte, Bool.false_eq_true, dGt, dLt, dGe, dLe, dCmp, dSub, dNeg, aLen, seqD_tup, seqD_lst, seqD_T, Option.map_some, dIsN, dNotN, isNonD_non, isNonD_bl, isNonD_int, isNonD_str, isNonD_tup, isNonD_lst, isNonD_T, forL_nil, forL_cons, loop_nx, loop_ct, loop_bk, loop_rt, frzS, frzE, appS, parS]) ⟨[], parts 60 n n, rfl, rfl, rfl⟩ ?_ ?_
  · rintro d ds ρ _ ⟨done, rest, h1, h2, rfl⟩
    cases rest with
    | nil => cases h2
    | cons p rest =>
      rw [List.map_cons] at h2
      cases h2
      have hp := (mem_parts (k := 60) (n := n) (m := n) (p := p) (by omega)).mp (by rw [← h1]; simp)
      have hlen := parts_len 60 n n
      have h4 : 2 ^ n ≤ 2 ^ 13 := Nat.pow_le_pow_right (by decide) hn
      have hd : done.length ≤ (parts 60 n n).length := by rw [← h1, List.length_append]; omega
      have hm := met_len done r
      refine ⟨_, rfl, ?_⟩
      refine tr_nx (body1_eq (acc := met done r) hn hr hr2 hp.1 hp.2 (by omega)) ⟨done ++ [p], rest, by rw [← h1]; simp, rfl, ?_⟩
      rw [met_app]
  · rintro ρ ⟨done, rest, h1, h2, rfl⟩
    cases rest with
    | nil => rw [List.append_nil] at h1; exact ⟨_, rfl, by rw [h1]⟩
    | cons p rest => cases h2
def mid : SF := (ifS (isB (b2 dGt (b2 dAdd (vw 2) (vw 3)) (cst (.int 0))))
  (seqS (setD 8 (lcE (itS (callE (m__law_partitions 60) (aC (b2 dAdd (vw 2) (vw 3)) (aC (b2 dAdd (vw 2) (vw 3)) aN)))) (gN 6) (isB (b2 dGe (callE m__law_rank (aC (vr 6) aN)) (b2 dSub (vw 3) (cst (.int 1))))) (vr 6) [6]))
  (seqS (ifS (isB (b2 dNe (bA aSortA (aC (vw 5) aN)) (bA aSortA (aC (vw 8) aN))))
  (seqS (retS (cst (.bl false)))
  (nilS []))
  (nilS []))
  (nilS [8])))
  (nilS []))
theorem mid_tr {n : Nat} {r : Int} {e : SV} (hn1 : 1 ≤ n) (hn : n ≤ 13) (hr : -8 ≤ r) (hr2 : r ≤ 8) :
    Tr (mid (E n r e (.o (.lst ((met (parts 60 n n) r).map T))) .un)) (fun o => ∃ ρ', o = .nx ρ' ∧ ρ' = E n r e (.o (.lst ((met (parts 60 n n) r).map T))) .un) := by
  unfold mid
  by_cases hg : 0 < (n : Int) + r
  · have hgn : (((n : Int) + r).toNat : Int) = (n : Int) + r := by omega
    generalize hgg : ((n : Int) + r).toNat = g at hgn
    have hP := perm (n := n) (r := r) (g := g) hn1 (by omega) hgn (by omega) (by omega)
    have hmem : ∀ q ∈ goal (parts 60 g g) r, q ≠ [] := fun q hq => by
      unfold goal at hq
      have := (mem_parts (by omega)).mp (List.mem_filter.mp hq).1
      intro z; subst z
      have := this.2
      simp at this; omega
    have hmem2 : ∀ q ∈ met (parts 60 n n) r, q ≠ [] := fun q hq => hmem q (hP.mem_iff.mp hq)
    have hlen := parts_len 60 g g
    have h4 : 2 ^ g ≤ 2 ^ 22 := Nat.pow_le_pow_right (by decide) (by omega)
    refine tr_nx ?_ rfl
    simp only [E, run_r, seq_r, cont_nx, cont_rt, cont_bk, cont_ct, if_r, sel_t, sel_f, ife_r, sele_t, sele_f, and_r, or_r, sela_t, sela_f, selo_t, selo_f, out_rt, out_rtO, out_nx, setD, setO, retS, retO, retV, retN, nilS, fgt, isB, truB, truD, notB, orV, andV, notV, b1, b2, bA, aC, aN, vr, vw, cst, nth, sset, bnd_r, opt_s, cond_true, cond_false, eTup_0, eTup_1, eTup_2, eTup_3, eLst_0, eLst_1, eLst_2, eLst_3, callE, mkE, List.replicate_succ, List.replicate_zero, List.length_cons, List.length_nil, List.length_map, if_true, if_false, Nat.reduceAdd, Nat.reduceSub, Bool.false_and, Bool.and_true, Bool.true_and, Bool.and_false, Bool.not_true, Bool.not_false, Bool.true_or, Bool.or_true, Bool.false_or, Bool.or_false, reduceIte, Bool.false_eq_true, dGt, dLt, dGe, dLe, dCmp, dSub, dNeg, aLen, seqD_tup, seqD_lst, seqD_T, Option.map_some, dIsN, dNotN, isNonD_non, isNonD_bl, isNonD_int, isNonD_str, isNonD_tup, isNonD_lst, isNonD_T, forL_nil, forL_cons, loop_nx, loop_ct, loop_bk, loop_rt, frzS, frzE, appS, parS, dAdd_ii, ← hgn]
    have hg' : (0 : Int) < (g : Int) := by omega
    simp only [run_r, seq_r, cont_nx, cont_rt, cont_bk, cont_ct, if_r, sel_t, sel_f, ife_r, sele_t, sele_f, and_r, or_r, sela_t, sela_f, selo_t, selo_f, out_rt, out_rtO, out_nx, setD, setO, retS, retO, retV, retN, nilS, fgt, isB, truB, truD, notB, orV, andV, notV, b1, b2, bA, aC, aN, vr, vw, cst, nth, sset, bnd_r, opt_s, cond_true, cond_false, eTup_0, eTup_1, eTup_2, eTup_3, eLst_0, eLst_1, eLst_2, eLst_3, callE, mkE, List.replicate_succ, List.replicate_zero, List.length_cons, List.length_nil, List.length_map, if_true, if_false, Nat.reduceAdd, Nat.reduceSub, Bool.false_and, Bool.and_true, Bool.true_and, Bool.and_false, Bool.not_true, Bool.not_false, Bool.true_or, Bool.or_true, Bool.false_or, Bool.or_false, reduceIte, Bool.false_eq_true, dGt, dLt, dGe, dLe, dCmp, dSub, dNeg, aLen, seqD_tup, seqD_lst, seqD_T, Option.map_some, dIsN, dNotN, isNonD_non, isNonD_bl, isNonD_int, isNonD_str, isNonD_tup, isNonD_lst, isNonD_T, forL_nil, forL_cons, loop_nx, loop_ct, loop_bk, loop_rt, frzS, frzE, appS, parS, hg', decide_true]
    rw [lcE_pure T (fun q => if decide (r - 1 ≤ rank q) = true then some (T q) else none) (parts 60 g g) (by simp only [itS, run_r, seq_r, cont_nx, cont_rt, cont_bk, cont_ct, if_r, sel_t, sel_f, ife_r, sele_t, sele_f, and_r, or_r, sela_t, sela_f, selo_t, selo_f, out_rt, out_rtO, out_nx, setD, setO, retS, retO, retV, retN, nilS, fgt, isB, truB, truD, notB, orV, andV, notV, b1, b2, bA, aC, aN, vr, vw, cst, nth, sset, bnd_r, opt_s, cond_true, cond_false, eTup_0, eTup_1, eTup_2, eTup_3, eLst_0, eLst_1, eLst_2, eLst_3, callE, mkE, List.replicate_succ, List.replicate_zero, List.length_cons, List.length_nil, List.length_map, if_true, if_false, Nat.reduceAdd, Nat.reduceSub, Bool.false_and, Bool.and_true, Bool.true_and, Bool.and_false, Bool.not_true, Bool.not_false, Bool.true_or, Bool.or_true, Bool.false_or, Bool.or_false, reduceIte, Bool.false_eq_true, dGt, dLt, dGe, dLe, dCmp, dSub, dNeg, aLen, seqD_tup, seqD_lst, seqD_T, Option.map_some, dIsN, dNotN, isNonD_non, isNonD_bl, isNonD_int, isNonD_str, isNonD_tup, isNonD_lst, isNonD_T, forL_nil, forL_cons, loop_nx, loop_ct, loop_bk, loop_rt, frzS, frzE, appS, parS, dAdd_ii, ← hgn, parts_eq 60 g g (by omega) (by omega)]) (by rw [sizeLine_eq]; omega) fun q hq => ⟨_, rfl, ?_⟩, fm_filter]
    · show bnd (bnd (FL.ret (D.lst ((goal (parts 60 g g) r).map T))) _) _ = _
      simp only [run_r, seq_r, cont_nx, cont_rt, cont_bk, cont_ct, if_r, sel_t, sel_f, ife_r, sele_t, sele_f, and_r, or_r, sela_t, sela_f, selo_t, selo_f, out_rt, out_rtO, out_nx, setD, setO, retS, retO, retV, retN, nilS, fgt, isB, truB, truD, notB, orV, andV, notV, b1, b2, bA, aC, aN, vr, vw, cst, nth, sset, bnd_r, opt_s, cond_true, cond_false, eTup_0, eTup_1, eTup_2, eTup_3, eLst_0, eLst_1, eLst_2, eLst_3, callE, mkE, List.replicate_succ, List.replicate_zero, List.length_cons, List.length_nil, List.length_map, if_true, if_false, Nat.reduceAdd, Nat.reduceSub, Bool.false_and, Bool.and_true, Bool.true_and, Bool.and_false, Bool.not_true, Bool.not_false, Bool.true_or, Bool.or_true, Bool.false_or, Bool.or_false, reduceIte, Bool.false_eq_true, dGt, dLt, dGe, dLe, dCmp, dSub, dNeg, aLen, seqD_tup, seqD_lst, seqD_T, Option.map_some, dIsN, dNotN, isNonD_non, isNonD_bl, isNonD_int, isNonD_str, isNonD_tup, isNonD_lst, isNonD_T, forL_nil, forL_cons, loop_nx, loop_ct, loop_bk, loop_rt, frzS, frzE, appS, parS, aSort_T hmem, aSort_T hmem2, srtR_perm_eq hP, dNe_self (okd_rows _)]
    · by_cases hc : r - 1 ≤ rank q
      · exact .inr ⟨T q, by simp [hc], by simp only [run_r, seq_r, cont_nx, cont_rt, cont_bk, cont_ct, if_r, sel_t, sel_f, ife_r, sele_t, sele_f, and_r, or_r, sela_t, sela_f, selo_t, selo_f, out_rt, out_rtO, out_nx, setD, setO, retS, retO, retV, retN, nilS, fgt, isB, truB, truD, notB, orV, andV, notV, b1, b2, bA, aC, aN, vr, vw, cst, nth, sset, bnd_r, opt_s, cond_true, cond_false, eTup_0, eTup_1, eTup_2, eTup_3, eLst_0, eLst_1, eLst_2, eLst_3, callE, mkE, List.replicate_succ, List.replicate_zero, List.length_cons, List.length_nil, List.length_map, if_true, if_false, Nat.reduceAdd, Nat.reduceSub, Bool.false_and, Bool.and_true, Bool.true_and, Bool.and_false, Bool.not_true, Bool.not_false, Bool.true_or, Bool.or_true, Bool.false_or, Bool.or_false, reduceIte, Bool.false_eq_true, dGt, dLt, dGe, dLe, dCmp, dSub, dNeg, aLen, seqD_tup, seqD_lst, seqD_T, Option.map_some, dIsN, dNotN, isNonD_non, isNonD_bl, isNonD_int, isNonD_str, isNonD_tup, isNonD_lst, isNonD_T, forL_nil, forL_cons, loop_nx, loop_ct, loop_bk, loop_rt, frzS, frzE, appS, parS, lrank_eq, hc, decide_true], by simp only [run_r, seq_r, cont_nx, cont_rt, cont_bk, cont_ct, if_r, sel_t, sel_f, ife_r, sele_t, sele_f, and_r, or_r, sela_t, sela_f, selo_t, selo_f, out_rt, out_rtO, out_nx, setD, setO, retS, retO, retV, retN, nilS, fgt, isB, truB, truD, notB, orV, andV, notV, b1, b2, bA, aC, aN, vr, vw, cst, nth, sset, bnd_r, opt_s, cond_true, cond_false, eTup_0, eTup_1, eTup_2, eTup_3, eLst_0, eLst_1, eLst_2, eLst_3, callE, mkE, List.replicate_succ, List.replicate_zero, List.length_cons, List.length_nil, List.length_map, if_true, if_false, Nat.reduceAdd, Nat.reduceSub, Bool.false_and, Bool.and_true, Bool.true_and, Bool.and_false, Bool.not_true, Bool.not_false, Bool.true_or, Bool.or_true, Bool.false_or, Bool.or_false, reduceIte, Bool.false_eq_true, dGt, dLt, dGe, dLe, dCmp, dSub, dNeg, aLen, seqD_tup, seqD_lst, seqD_T, Option.map_some, dIsN, dNotN, isNonD_non, isNonD_bl, isNonD_int, isNonD_str, isNonD_tup, isNonD_lst, isNonD_T, forL_nil, forL_cons, loop_nx, loop_ct, loop_bk, loop_rt, frzS, frzE, appS, parS]⟩
      · exact .inl ⟨by simp [hc], by simp only [run_r, seq_r, cont_nx, cont_rt, cont_bk, cont_ct, if_r, sel_t, sel_f, ife_r, sele_t, sele_f, and_r, or_r, sela_t, sela_f, selo_t, selo_f, out_rt, out_rtO, out_nx, setD, setO, retS, retO, retV, retN, nilS, fgt, isB, truB, truD, notB, orV, andV, notV, b1, b2, bA, aC, aN, vr, vw, cst, nth, sset, bnd_r, opt_s, cond_true, cond_false, eTup_0, eTup_1, eTup_2, eTup_3, eLst_0, eLst_1, eLst_2, eLst_3, callE, mkE, List.replicate_succ, List.replicate_zero, List.length_cons, List.length_nil, List.length_map, if_true, if_false, Nat.reduceAdd, Nat.reduceSub, Bool.false_and, Bool.and_true, Bool.true_and, Bool.and_false, Bool.not_true, Bool.not_false, Bool.true_or, Bool.or_true, Bool.false_or, Bool.or_false, reduceIte, Bool.false_eq_true, dGt, dLt, dGe, dLe, dCmp, dSub, dNeg, aLen, seqD_tup, seqD_lst, seqD_T, Option.map_some, dIsN, dNotN, isNonD_non, isNonD_bl, isNonD_int, isNonD_str, isNonD_tup, isNonD_lst, isNonD_T, forL_nil, forL_cons, loop_nx, loop_ct, loop_bk, loop_rt, frzS, frzE, appS, parS, lrank_eq, hc, decide_false]⟩
  · exact tr_nx (by simp only [E, run_r, seq_r, cont_nx, cont_rt, cont_bk, cont_ct, if_r, sel_t, sel_f, ife_r, sele_t, sele_f, and_r, or_r, sela_t, sela_f, selo_t, selo_f, out_rt, out_rtO, out_nx, setD, setO, retS, retO, retV, retN, nilS, fgt, isB, truB, truD, notB, orV, andV, notV, b1, b2, bA, aC, aN, vr, vw, cst, nth, sset, bnd_r, opt_s, cond_true, cond_false, eTup_0, eTup_1, eTup_2, eTup_3, eLst_0, eLst_1, eLst_2, eLst_3, callE, mkE, List.replicate_succ, List.replicate_zero, List.length_cons, List.length_nil, List.length_map, if_true, if_false, Nat.reduceAdd, Nat.reduceSub, Bool.false_and, Bool.and_true, Bool.true_and, Bool.and_false, Bool.not_true, Bool.not_false, Bool.true_or, Bool.or_true, Bool.false_or, Bool.or_false, reduceIte, Bool.false_eq_true, dGt, dLt, dGe, dLe, dCmp, dSub, dNeg, aLen, seqD_tup, seqD_lst, seqD_T, Option.map_some, dIsN, dNotN, isNonD_non, isNonD_bl, isNonD_int, isNonD_str, isNonD_tup, isNonD_lst, isNonD_T, forL_nil, forL_cons, loop_nx, loop_ct, loop_bk, loop_rt, frzS, frzE, appS, parS, dAdd_ii, hg, decide_false]) rfl
def body2 : SF := (seqS (asgS (eTup (aC (callE m__law_drawn (aC (vr 1) (aC (b2 dAdd (cst (.int 1)) (callE drawM (aC (vr 1) (aC (cst (.int 60)) aN)))) aN))) (aC (b2 dSub (callE drawM (aC (vr 1) (aC (cst (.int 41)) aN))) (cst (.int 20))) aN))) (gT (gsC (gN 6) (gsC (gN 3) gsN))))
  (seqS (setD 7 (callE m__law_step (aC (vr 6) (aC (vr 3) aN))))
  (seqS (ifS (notB (truB (callE (m__law_eq 60) (aC (callE m_dyson_step (aC (vr 6) (aC (vr 3) aN))) (aC (vr 7) aN)))))
  (seqS (retS (cst (.bl false)))
  (nilS []))
  (nilS []))
  (seqS (ifS (andB (isB (b2 dNotN (vw 7) (cst .non))) (andB (isB (b2 dNe (vw 7) (eTup aN))) (notB (truB (callE (m__law_eq 60) (aC (callE m_dyson_back (aC (vr 7) (aC (vr 3) aN))) (aC (vr 6) aN)))))))
  (seqS (retS (cst (.bl false)))
  (nilS []))
  (nilS []))
  (nilS [3, 6, 7, 9])))))
def E2 (x n r e me : SV) (t : SV) : FL.Env := [x, .d .tok, n, r, e, me, .un, .un, .un, t]
def body2b : SF := (seqS (setD 7 (callE m__law_step (aC (vr 6) (aC (vr 3) aN))))
  (seqS (ifS (notB (truB (callE (m__law_eq 60) (aC (callE m_dyson_step (aC (vr 6) (aC (vr 3) aN))) (aC (vr 7) aN)))))
  (seqS (retS (cst (.bl false)))
  (nilS []))
  (nilS []))
  (seqS (ifS (andB (isB (b2 dNotN (vw 7) (cst .non))) (andB (isB (b2 dNe (vw 7) (eTup aN))) (notB (truB (callE (m__law_eq 60) (aC (callE m_dyson_back (aC (vr 7) (aC (vr 3) aN))) (aC (vr 6) aN)))))))
  (seqS (retS (cst (.bl false)))
  (nilS []))
  (nilS []))
  (nilS [3, 6, 7, 9]))))
theorem body2b_eq {x n e me t : SV} {r : Int} {p : List Int} {N : Nat} (hN : N ≤ 60) (hr : -20 ≤ r) (hr2 : r ≤ 20) (hp : IsP N p) (hs : p.sum = N) :
    body2b [x, .d .tok, n, .d (.int r), e, me, .d (T p), .un, .un, t] = ret (.nx (E2 x n .un e me .un)) := by
  have hpl := hp.sum_ge
  have hl : p.length < 100 := by omega
  have hleq : m__law_eq 60 [encO (stepO p r), encO (stepO p r)] = ret (.bl true) := leqO fun q hq => by have := stepLen hq; omega
  unfold body2b
  simp only [run_r, seq_r, cont_nx, cont_rt, cont_bk, cont_ct, if_r, sel_t, sel_f, ife_r, sele_t, sele_f, and_r, or_r, sela_t, sela_f, selo_t, selo_f, out_rt, out_rtO, out_nx, setD, setO, retS, retO, retV, retN, nilS, fgt, isB, truB, truD, notB, orV, andV, notV, b1, b2, bA, aC, aN, vr, vw, cst, nth, sset, bnd_r, opt_s, cond_true, cond_false, eTup_0, eTup_1, eTup_2, eTup_3, eLst_0, eLst_1, eLst_2, eLst_3, callE, mkE, List.replicate_succ, List.replicate_zero, List.length_cons, List.length_nil, List.length_map, if_true, if_false, Nat.reduceAdd, Nat.reduceSub, Bool.false_and, Bool.and_true, Bool.true_and, Bool.and_false, Bool.not_true, Bool.not_false, Bool.true_or, Bool.or_true, Bool.false_or, Bool.or_false, reduceIte, Bool.false_eq_true, dGt, dLt, dGe, dLe, dCmp, dSub, dNeg, aLen, seqD_tup, seqD_lst, seqD_T, Option.map_some, dIsN, dNotN, isNonD_non, isNonD_bl, isNonD_int, isNonD_str, isNonD_tup, isNonD_lst, isNonD_T, forL_nil, forL_cons, loop_nx, loop_ct, loop_bk, loop_rt, frzS, frzE, appS, parS, lstep_eq (p := p) (r := r) (by omega), dstep_eq (p := p) (r := r) (by omega), hleq]
  cases hst : stepO p r with
  | none => simp only [run_r, seq_r, cont_nx, cont_rt, cont_bk, cont_ct, if_r, sel_t, sel_f, ife_r, sele_t, sele_f, and_r, or_r, sela_t, sela_f, selo_t, selo_f, out_rt, out_rtO, out_nx, setD, setO, retS, retO, retV, retN, nilS, fgt, isB, truB, truD, notB, orV, andV, notV, b1, b2, bA, aC, aN, vr, vw, cst, nth, sset, bnd_r, opt_s, cond_true, cond_false, eTup_0, eTup_1, eTup_2, eTup_3, eLst_0, eLst_1, eLst_2, eLst_3, callE, mkE, List.replicate_succ, List.replicate_zero, List.length_cons, List.length_nil, List.length_map, if_true, if_false, Nat.reduceAdd, Nat.reduceSub, Bool.false_and, Bool.and_true, Bool.true_and, Bool.and_false, Bool.not_true, Bool.not_false, Bool.true_or, Bool.or_true, Bool.false_or, Bool.or_false, reduceIte, Bool.false_eq_true, dGt, dLt, dGe, dLe, dCmp, dSub, dNeg, aLen, seqD_tup, seqD_lst, seqD_T, Option.map_some, dIsN, dNotN, isNonD_non, isNonD_bl, isNonD_int, isNonD_str, isNonD_tup, isNonD_lst, isNonD_T, forL_nil, forL_cons, loop_nx, loop_ct, loop_bk, loop_rt, frzS, frzE, appS, parS, encO, E2]
  | some q =>
    cases q with
    | nil => simp only [run_r, seq_r, cont_nx, cont_rt, cont_bk, cont_ct, if_r, sel_t, sel_f, ife_r, sele_t, sele_f, and_r, or_r, sela_t, sela_f, selo_t, selo_f, out_rt, out_rtO, out_nx, setD, setO, retS, retO, retV, retN, nilS, fgt, isB, truB, truD, notB, orV, andV, notV, b1, b2, bA, aC, aN, vr, vw, cst, nth, sset, bnd_r, opt_s, cond_true, cond_false, eTup_0, eTup_1, eTup_2, eTup_3, eLst_0, eLst_1, eLst_2, eLst_3, callE, mkE, List.replicate_succ, List.replicate_zero, List.length_cons, List.length_nil, List.length_map, if_true, if_false, Nat.reduceAdd, Nat.reduceSub, Bool.false_and, Bool.and_true, Bool.true_and, Bool.and_false, Bool.not_true, Bool.not_false, Bool.true_or, Bool.or_true, Bool.false_or, Bool.or_false, reduceIte, Bool.false_eq_true, dGt, dLt, dGe, dLe, dCmp, dSub, dNeg, aLen, seqD_tup, seqD_lst, seqD_T, Option.map_some, dIsN, dNotN, isNonD_non, isNonD_bl, isNonD_int, isNonD_str, isNonD_tup, isNonD_lst, isNonD_T, forL_nil, forL_cons, loop_nx, loop_ct, loop_bk, loop_rt, frzS, frzE, appS, parS, encO, dNe_Te, decide_true, E2]
    | cons a l =>
      obtain ⟨f1, f2, f3⟩ := step_facts hp hst
      have hlen := stepLen hst
      have ha := f3.le_sum a (by simp)
      have ha1 := f3.2 a (by simp)
      have hb := dback_eq (a := a) (r := r) (l := l) (by simp only [List.length_cons] at hlen; omega) (by omega) (by omega) (by omega) (by omega)
      rw [back_step hp hst] at hb
      simp only [run_r, seq_r, cont_nx, cont_rt, cont_bk, cont_ct, if_r, sel_t, sel_f, ife_r, sele_t, sele_f, and_r, or_r, sela_t, sela_f, selo_t, selo_f, out_rt, out_rtO, out_nx, setD, setO, retS, retO, retV, retN, nilS, fgt, isB, truB, truD, notB, orV, andV, notV, b1, b2, bA, aC, aN, vr, vw, cst, nth, sset, bnd_r, opt_s, cond_true, cond_false, eTup_0, eTup_1, eTup_2, eTup_3, eLst_0, eLst_1, eLst_2, eLst_3, callE, mkE, List.replicate_succ, List.replicate_zero, List.length_cons, List.length_nil, List.length_map, if_true, if_false, Nat.reduceAdd, Nat.reduceSub, Bool.false_and, Bool.and_true, Bool.true_and, Bool.and_false, Bool.not_true, Bool.not_false, Bool.true_or, Bool.or_true, Bool.false_or, Bool.or_false, reduceIte, Bool.false_eq_true, dGt, dLt, dGe, dLe, dCmp, dSub, dNeg, aLen, seqD_tup, seqD_lst, seqD_T, Option.map_some, dIsN, dNotN, isNonD_non, isNonD_bl, isNonD_int, isNonD_str, isNonD_tup, isNonD_lst, isNonD_T, forL_nil, forL_cons, loop_nx, loop_ct, loop_bk, loop_rt, frzS, frzE, appS, parS, encO, dNe_Te, reduceCtorEq, decide_false, hb, leqT (p := p) (by omega), E2]
theorem body2_tr {x n r e me t : SV} : Tr (body2 (E2 x n r e me t)) (fun o => ∃ ρ', o = .nx ρ' ∧ ρ' = E2 x n .un e me .un) := by
  unfold body2
  refine tr_seq' (fun ρ => ∃ (N : Nat) (s : Int) (p : List Int), N ≤ 60 ∧ -20 ≤ s ∧ s ≤ 20 ∧ IsP N p ∧ p.sum = N ∧ ρ = [x, .d .tok, n, .d (.int s), e, me, .d (T p), .un, .un, t]) ?_ ?_
  · unfold asgS
    simp only [run_r, seq_r, cont_nx, cont_rt, cont_bk, cont_ct, if_r, sel_t, sel_f, ife_r, sele_t, sele_f, and_r, or_r, sela_t, sela_f, selo_t, selo_f, out_rt, out_rtO, out_nx, setD, setO, retS, retO, retV, retN, nilS, fgt, isB, truB, truD, notB, orV, andV, notV, b1, b2, bA, aC, aN, vr, vw, cst, nth, sset, bnd_r, opt_s, cond_true, cond_false, eTup_0, eTup_1, eTup_2, eTup_3, eLst_0, eLst_1, eLst_2, eLst_3, callE, mkE, List.replicate_succ, List.replicate_zero, List.length_cons, List.length_nil, List.length_map, if_true, if_false, Nat.reduceAdd, Nat.reduceSub, Bool.false_and, Bool.and_true, Bool.true_and, Bool.and_false, Bool.not_true, Bool.not_false, Bool.true_or, Bool.or_true, Bool.false_or, Bool.or_false, reduceIte, Bool.false_eq_true, dGt, dLt, dGe, dLe, dCmp, dSub, dNeg, aLen, seqD_tup, seqD_lst, seqD_T, Option.map_some, dIsN, dNotN, isNonD_non, isNonD_bl, isNonD_int, isNonD_str, isNonD_tup, isNonD_lst, isNonD_T, forL_nil, forL_cons, loop_nx, loop_ct, loop_bk, loop_rt, frzS, frzE, appS, parS, E2, bnd_assoc]
    refine tr_draw (by decide) (by decide) fun v h1 h2 => ?_
    simp only [run_r, seq_r, cont_nx, cont_rt, cont_bk, cont_ct, if_r, sel_t, sel_f, ife_r, sele_t, sele_f, and_r, or_r, sela_t, sela_f, selo_t, selo_f, out_rt, out_rtO, out_nx, setD, setO, retS, retO, retV, retN, nilS, fgt, isB, truB, truD, notB, orV, andV, notV, b1, b2, bA, aC, aN, vr, vw, cst, nth, sset, bnd_r, opt_s, cond_true, cond_false, eTup_0, eTup_1, eTup_2, eTup_3, eLst_0, eLst_1, eLst_2, eLst_3, callE, mkE, List.replicate_succ, List.replicate_zero, List.length_cons, List.length_nil, List.length_map, if_true, if_false, Nat.reduceAdd, Nat.reduceSub, Bool.false_and, Bool.and_true, Bool.true_and, Bool.and_false, Bool.not_true, Bool.not_false, Bool.true_or, Bool.or_true, Bool.false_or, Bool.or_false, reduceIte, Bool.false_eq_true, dGt, dLt, dGe, dLe, dCmp, dSub, dNeg, aLen, seqD_tup, seqD_lst, seqD_T, Option.map_some, dIsN, dNotN, isNonD_non, isNonD_bl, isNonD_int, isNonD_str, isNonD_tup, isNonD_lst, isNonD_T, forL_nil, forL_cons, loop_nx, loop_ct, loop_bk, loop_rt, frzS, frzE, appS, parS, dAdd_ii, bnd_assoc]
    have hv : (1 + v : Int) = (((1 + v).toNat : Nat) : Int) := by omega
    rw [hv]
    refine Tr.bnd (drawn_tr (n := (1 + v).toNat) (by omega)) ?_
    rintro _ ⟨p, rfl, hp, hs⟩
    refine tr_draw (by decide) (by decide) fun u h3 h4 => ?_
    simp only [run_r, seq_r, cont_nx, cont_rt, cont_bk, cont_ct, if_r, sel_t, sel_f, ife_r, sele_t, sele_f, and_r, or_r, sela_t, sela_f, selo_t, selo_f, out_rt, out_rtO, out_nx, setD, setO, retS, retO, retV, retN, nilS, fgt, isB, truB, truD, notB, orV, andV, notV, b1, b2, bA, aC, aN, vr, vw, cst, nth, sset, bnd_r, opt_s, cond_true, cond_false, eTup_0, eTup_1, eTup_2, eTup_3, eLst_0, eLst_1, eLst_2, eLst_3, callE, mkE, List.replicate_succ, List.replicate_zero, List.length_cons, List.length_nil, List.length_map, if_true, if_false, Nat.reduceAdd, Nat.reduceSub, Bool.false_and, Bool.and_true, Bool.true_and, Bool.and_false, Bool.not_true, Bool.not_false, Bool.true_or, Bool.or_true, Bool.false_or, Bool.or_false, reduceIte, Bool.false_eq_true, dGt, dLt, dGe, dLe, dCmp, dSub, dNeg, aLen, seqD_tup, seqD_lst, seqD_T, Option.map_some, dIsN, dNotN, isNonD_non, isNonD_bl, isNonD_int, isNonD_str, isNonD_tup, isNonD_lst, isNonD_T, forL_nil, forL_cons, loop_nx, loop_ct, loop_bk, loop_rt, frzS, frzE, appS, parS, gT, gsC, gsN, gN, Option.bind_some]
    exact Tr.ret ⟨_, rfl, _, _, p, by omega, by omega, by omega, hp, hs, rfl⟩
  · rintro _ ⟨N, s, p, hN, h1, h2, hp, hs, rfl⟩
    exact tr_nx (body2b_eq hN h1 h2 hp hs) rfl
theorem loop2 {n r e me : SV} : Tr (forS (itR1 (cst (.int 5))) (gN 9) body2 (E2 .un n r e me .un)) (fun o => ∃ ρ', o = .nx ρ' ∧ ∃ r', ρ' = E2 .un n r' e me .un) := by
  refine tr_forS (ds := upI 0 5) (I := fun _ ρ => ∃ r', ρ = E2 .un n r' e me .un) rfl ⟨r, rfl⟩ ?_ ?_
  · rintro d ds ρ _ ⟨r', rfl⟩
    refine ⟨_, rfl, ?_⟩
    exact (body2_tr (x := .un) (n := n) (r := r') (e := e) (me := me) (t := .d d)).mono fun o ⟨ρ', h, h2⟩ => ⟨ρ', h, .un, h2⟩
  · rintro ρ ⟨r', rfl⟩
    exact ⟨_, rfl, r', rfl⟩
theorem law_true : Tr (m_law m_start) isTrue' := by
  unfold m_law
  refine tr_seq' (fun ρ => ∃ (n : Nat) (r : Int), 1 ≤ n ∧ n ≤ 13 ∧ -8 ≤ r ∧ r ≤ 8 ∧ ρ = E n r .un .un .un) ?_ ?_
  · unfold asgS m_start
    simp only [run_r, seq_r, cont_nx, cont_rt, cont_bk, cont_ct, if_r, sel_t, sel_f, ife_r, sele_t, sele_f, and_r, or_r, sela_t, sela_f, selo_t, selo_f, out_rt, out_rtO, out_nx, setD, setO, retS, retO, retV, retN, nilS, fgt, isB, truB, truD, notB, orV, andV, notV, b1, b2, bA, aC, aN, vr, vw, cst, nth, sset, bnd_r, opt_s, cond_true, cond_false, eTup_0, eTup_1, eTup_2, eTup_3, eLst_0, eLst_1, eLst_2, eLst_3, callE, mkE, List.replicate_succ, List.replicate_zero, List.length_cons, List.length_nil, List.length_map, if_true, if_false, Nat.reduceAdd, Nat.reduceSub, Bool.false_and, Bool.and_true, Bool.true_and, Bool.and_false, Bool.not_true, Bool.not_false, Bool.true_or, Bool.or_true, Bool.false_or, Bool.or_false, reduceIte, Bool.false_eq_true, dGt, dLt, dGe, dLe, dCmp, dSub, dNeg, aLen, seqD_tup, seqD_lst, seqD_T, Option.map_some, dIsN, dNotN, isNonD_non, isNonD_bl, isNonD_int, isNonD_str, isNonD_tup, isNonD_lst, isNonD_T, forL_nil, forL_cons, loop_nx, loop_ct, loop_bk, loop_rt, frzS, frzE, appS, parS, bnd_assoc]
    refine tr_draw (by decide) (by decide) fun v h1 h2 => ?_
    simp only [run_r, seq_r, cont_nx, cont_rt, cont_bk, cont_ct, if_r, sel_t, sel_f, ife_r, sele_t, sele_f, and_r, or_r, sela_t, sela_f, selo_t, selo_f, out_rt, out_rtO, out_nx, setD, setO, retS, retO, retV, retN, nilS, fgt, isB, truB, truD, notB, orV, andV, notV, b1, b2, bA, aC, aN, vr, vw, cst, nth, sset, bnd_r, opt_s, cond_true, cond_false, eTup_0, eTup_1, eTup_2, eTup_3, eLst_0, eLst_1, eLst_2, eLst_3, callE, mkE, List.replicate_succ, List.replicate_zero, List.length_cons, List.length_nil, List.length_map, if_true, if_false, Nat.reduceAdd, Nat.reduceSub, Bool.false_and, Bool.and_true, Bool.true_and, Bool.and_false, Bool.not_true, Bool.not_false, Bool.true_or, Bool.or_true, Bool.false_or, Bool.or_false, reduceIte, Bool.false_eq_true, dGt, dLt, dGe, dLe, dCmp, dSub, dNeg, aLen, seqD_tup, seqD_lst, seqD_T, Option.map_some, dIsN, dNotN, isNonD_non, isNonD_bl, isNonD_int, isNonD_str, isNonD_tup, isNonD_lst, isNonD_T, forL_nil, forL_cons, loop_nx, loop_ct, loop_bk, loop_rt, frzS, frzE, appS, parS, dAdd_ii, bnd_assoc]
    refine tr_draw (by decide) (by decide) fun u h3 h4 => ?_
    simp only [run_r, seq_r, cont_nx, cont_rt, cont_bk, cont_ct, if_r, sel_t, sel_f, ife_r, sele_t, sele_f, and_r, or_r, sela_t, sela_f, selo_t, selo_f, out_rt, out_rtO, out_nx, setD, setO, retS, retO, retV, retN, nilS, fgt, isB, truB, truD, notB, orV, andV, notV, b1, b2, bA, aC, aN, vr, vw, cst, nth, sset, bnd_r, opt_s, cond_true, cond_false, eTup_0, eTup_1, eTup_2, eTup_3, eLst_0, eLst_1, eLst_2, eLst_3, callE, mkE, List.replicate_succ, List.replicate_zero, List.length_cons, List.length_nil, List.length_map, if_true, if_false, Nat.reduceAdd, Nat.reduceSub, Bool.false_and, Bool.and_true, Bool.true_and, Bool.and_false, Bool.not_true, Bool.not_false, Bool.true_or, Bool.or_true, Bool.false_or, Bool.or_false, reduceIte, Bool.false_eq_true, dGt, dLt, dGe, dLe, dCmp, dSub, dNeg, aLen, seqD_tup, seqD_lst, seqD_T, Option.map_some, dIsN, dNotN, isNonD_non, isNonD_bl, isNonD_int, isNonD_str, isNonD_tup, isNonD_lst, isNonD_T, forL_nil, forL_cons, loop_nx, loop_ct, loop_bk, loop_rt, frzS, frzE, appS, parS, gT, gsC, gsN, gN, Option.bind_some]
    have hv : (1 + v : Int) = (((1 + v).toNat : Nat) : Int) := by omega
    rw [hv]
    exact Tr.ret ⟨_, rfl, (1 + v).toNat, _, by omega, by omega, by omega, by omega, rfl⟩
  rintro _ ⟨n, r, hn1, hn, hr1, hr2, rfl⟩
  refine tr_seq' (fun ρ => ρ = E n r (.d (.lst ((parts 60 n n).map T))) .un .un) (tr_nx (by simp only [E, run_r, seq_r, cont_nx, cont_rt, cont_bk, cont_ct, if_r, sel_t, sel_f, ife_r, sele_t, sele_f, and_r, or_r, sela_t, sela_f, selo_t, selo_f, out_rt, out_rtO, out_nx, setD, setO, retS, retO, retV, retN, nilS, fgt, isB, truB, truD, notB, orV, andV, notV, b1, b2, bA, aC, aN, vr, vw, cst, nth, sset, bnd_r, opt_s, cond_true, cond_false, eTup_0, eTup_1, eTup_2, eTup_3, eLst_0, eLst_1, eLst_2, eLst_3, callE, mkE, List.replicate_succ, List.replicate_zero, List.length_cons, List.length_nil, List.length_map, if_true, if_false, Nat.reduceAdd, Nat.reduceSub, Bool.false_and, Bool.and_true, Bool.true_and, Bool.and_false, Bool.not_true, Bool.not_false, Bool.true_or, Bool.or_true, Bool.false_or, Bool.or_false, reduceIte, Bool.false_eq_true, dGt, dLt, dGe, dLe, dCmp, dSub, dNeg, aLen, seqD_tup, seqD_lst, seqD_T, Option.map_some, dIsN, dNotN, isNonD_non, isNonD_bl, isNonD_int, isNonD_str, isNonD_tup, isNonD_lst, isNonD_T, forL_nil, forL_cons, loop_nx, loop_ct, loop_bk, loop_rt, frzS, frzE, appS, parS, parts_eq 60 n n (by omega) (by omega)]) rfl) ?_
  rintro _ rfl
  refine tr_seq' (fun ρ => ρ = E n r (.d (.lst ((parts 60 n n).map T))) (.o (.lst [])) .un) (tr_nx (by simp only [E, run_r, seq_r, cont_nx, cont_rt, cont_bk, cont_ct, if_r, sel_t, sel_f, ife_r, sele_t, sele_f, and_r, or_r, sela_t, sela_f, selo_t, selo_f, out_rt, out_rtO, out_nx, setD, setO, retS, retO, retV, retN, nilS, fgt, isB, truB, truD, notB, orV, andV, notV, b1, b2, bA, aC, aN, vr, vw, cst, nth, sset, bnd_r, opt_s, cond_true, cond_false, eTup_0, eTup_1, eTup_2, eTup_3, eLst_0, eLst_1, eLst_2, eLst_3, callE, mkE, List.replicate_succ, List.replicate_zero, List.length_cons, List.length_nil, List.length_map, if_true, if_false, Nat.reduceAdd, Nat.reduceSub, Bool.false_and, Bool.and_true, Bool.true_and, Bool.and_false, Bool.not_true, Bool.not_false, Bool.true_or, Bool.or_true, Bool.false_or, Bool.or_false, reduceIte, Bool.false_eq_true, dGt, dLt, dGe, dLe, dCmp, dSub, dNeg, aLen, seqD_tup, seqD_lst, seqD_T, Option.map_some, dIsN, dNotN, isNonD_non, isNonD_bl, isNonD_int, isNonD_str, isNonD_tup, isNonD_lst, isNonD_T, forL_nil, forL_cons, loop_nx, loop_ct, loop_bk, loop_rt, frzS, frzE, appS, parS]) rfl) ?_
  rintro _ rfl
  refine tr_seq' _ (loop1 hn hr1 hr2) ?_
  rintro _ rfl
  refine tr_seq' _ (mid_tr hn1 hn hr1 hr2) ?_
  rintro _ rfl
  refine tr_seq' _ loop2 ?_
  rintro _ ⟨r', rfl⟩
  have hd : m_dyson_step [T [], .int 3] = ret .non := dstep_eq (p := []) (by decide)
  have hq : m__law_eq 60 [.non, .non] = ret (.bl true) := by rw [leq_eq]; exact lawEq60 rfl
  have hT : (D.tup []) = T [] := rfl
  simp only [E2, run_r, seq_r, cont_nx, cont_rt, cont_bk, cont_ct, if_r, sel_t, sel_f, ife_r, sele_t, sele_f, and_r, or_r, sela_t, sela_f, selo_t, selo_f, out_rt, out_rtO, out_nx, setD, setO, retS, retO, retV, retN, nilS, fgt, isB, truB, truD, notB, orV, andV, notV, b1, b2, bA, aC, aN, vr, vw, cst, nth, sset, bnd_r, opt_s, cond_true, cond_false, eTup_0, eTup_1, eTup_2, eTup_3, eLst_0, eLst_1, eLst_2, eLst_3, callE, mkE, List.replicate_succ, List.replicate_zero, List.length_cons, List.length_nil, List.length_map, if_true, if_false, Nat.reduceAdd, Nat.reduceSub, Bool.false_and, Bool.and_true, Bool.true_and, Bool.and_false, Bool.not_true, Bool.not_false, Bool.true_or, Bool.or_true, Bool.false_or, Bool.or_false, reduceIte, Bool.false_eq_true, dGt, dLt, dGe, dLe, dCmp, dSub, dNeg, aLen, seqD_tup, seqD_lst, seqD_T, Option.map_some, dIsN, dNotN, isNonD_non, isNonD_bl, isNonD_int, isNonD_str, isNonD_tup, isNonD_lst, isNonD_T, forL_nil, forL_cons, loop_nx, loop_ct, loop_bk, loop_rt, frzS, frzE, appS, parS, hT, hd, hq]
  exact Tr.ret trivial
end K54
end
section
namespace P55
open P54
def bg (j : Int) : Int := j * (3 * j + 1) / 2
theorem even_bg (j : Int) : 2 * bg j = j * (3 * j + 1) := by
  unfold bg
  have h : j * (3 * j + 1) % 2 = 0 := by
    rcases (by omega : j % 2 = 0 ∨ j % 2 = 1) with h | h
    · rw [Int.mul_emod, h]; simp
    · have : (3 * j + 1) % 2 = 0 := by omega
      rw [Int.mul_emod, this]; simp
  omega
theorem bg_succ (j : Int) : bg (j + 1) = bg j + 3 * j + 2 := by
  have h1 := even_bg j
  have h2 := even_bg (j + 1)
  have e : (j + 1) * (3 * (j + 1) + 1) = j * (3 * j + 1) + (6 * j + 4) := by
    simp only [Int.mul_add, Int.add_mul, Int.mul_one, Int.one_mul]
    have : j * (3 * j) = j * (j * 3) := by rw [Int.mul_comm 3 j]
    omega
  omega
theorem bg_nonneg (j : Int) : 0 ≤ bg j := by
  have h := even_bg j
  have : 0 ≤ j * (3 * j + 1) := by
    by_cases hj : 0 ≤ j
    · exact Int.mul_nonneg hj (by omega)
    · exact Int.mul_nonneg_of_nonpos_of_nonpos (by omega) (by omega)
  omega
def top : List Int → Int
  | [] => 0
  | a :: _ => a
def turn (j : Int) (p : List Int) : Int × List Int :=
  if top p ≤ (p.length : Int) + 3 * j then (j - 1, (if 0 < (p.length : Int) + 3 * j - 1 then [(p.length : Int) + 3 * j - 1] else []) ++ low p)
  else (j + 1, p.tail.map (· + 1) ++ List.replicate (top p - 3 * j - p.length - 1 - (if p.length = 0 then 1 else 0)).toNat 1)
theorem turn_abs (j : Int) (p : List Int) : (turn j p).1 = j - 1 ∨ (turn j p).1 = j + 1 := by
  unfold turn; split
  · exact .inl rfl
  · exact .inr rfl
/-- what a turn keeps -/
theorem turn_facts {j n m : Int} {p : List Int} (hn : 1 ≤ n) (hp : IsP m p) (hs : bg j + p.sum = n) : bg (turn j p).1 + (turn j p).2.sum = n ∧ IsP n (turn j p).2 ∧ turn (turn j p).1 (turn j p).2 = (j, p) := by
  have hpos := hp.sum_ge
  cases p with
  | nil =>
    simp only [List.sum_nil] at hs
    by_cases hj : 0 ≤ 3 * j
    · have hj1 : 1 ≤ j := by
        rcases Int.lt_or_le 0 j with h | h
        · omega
        · have : j = 0 := by omega
          subst this
          simp [bg] at hs; omega
      have e : turn j [] = (j - 1, [3 * j - 1]) := by
        unfold turn
        rw [if_pos (by simpa [top] using hj), if_pos (by simp; omega)]
        simp [low]
      rw [e]
      have hb := bg_succ (j - 1)
      rw [show j - 1 + 1 = j by omega] at hb
      have hnn := bg_nonneg (j - 1)
      refine ⟨by simp only [List.sum_cons, List.sum_nil]; omega, isP_cons.mpr ⟨by omega, by omega, isP_nil _⟩, ?_⟩
      unfold turn
      rw [if_neg (by simp only [top, List.length_cons, List.length_nil]; omega)]
      simp only [top, List.tail_cons, List.map_nil, List.nil_append, List.length_cons, List.length_nil]
      rw [show (3 * j - 1 - 3 * (j - 1) - ((0 + 1 : Nat) : Int) - 1 - (if 0 + 1 = 0 then 1 else 0)).toNat = 0 by simp; omega]
      simp
    · have e : turn j [] = (j + 1, List.replicate (-3 * j - 2).toNat 1) := by
        unfold turn
        rw [if_neg (by simp [top]; omega)]
        simp only [top, List.tail_nil, List.map_nil, List.nil_append, List.length_nil, if_true]
        congr 2
        omega
      rw [e]
      have hb := bg_succ j
      have hr := rep1_sum (-3 * j - 2).toNat
      have h1 : ((-3 * j - 2).toNat : Int) = -3 * j - 2 := by omega
      refine ⟨by simp only; omega, ?_, ?_⟩
      · refine ⟨?_, fun x hx => ?_⟩
        · rw [List.pairwise_replicate]; right; omega
        · have := (List.mem_replicate.mp hx).2; omega
      · have hk : ∃ k, (-3 * j - 2).toNat = k + 1 := ⟨(-3 * j - 2).toNat - 1, by omega⟩
        obtain ⟨k, hk⟩ := hk
        have hl : low (List.replicate (k + 1) 1) = [] := low_back (l := []) (isP_nil 0) (k + 1)
        unfold turn
        rw [hk]
        rw [if_pos (by rw [List.length_replicate, List.replicate_succ]; simp only [top]; omega), if_neg (by rw [List.length_replicate]; omega), hl]
        simp
  | cons x q =>
    have h' := isP_cons.mp hp
    by_cases hc : x ≤ ((x :: q).length : Int) + 3 * j
    · have hsum := low_sum hp
      have hsp := split hp
      have hll := low_len (x :: q)
      have hlp := low_isP (isP_cons.mpr ⟨h'.1, Int.le_refl x, h'.2.2⟩ : IsP x (x :: q))
      have hb := bg_succ (j - 1)
      rw [show j - 1 + 1 = j by omega] at hb
      have hnn := bg_nonneg (j - 1)
      by_cases hf : 0 < ((x :: q).length : Int) + 3 * j - 1
      · have e : turn j (x :: q) = (j - 1, (((x :: q).length : Int) + 3 * j - 1) :: low (x :: q)) := by
          unfold turn
          rw [if_pos (by exact hc), if_pos hf]; rfl
        rw [e]
        have hs' : ((((x :: q).length : Int) + 3 * j - 1) :: low (x :: q)).sum = ((x :: q).length : Int) + 3 * j - 1 + (low (x :: q)).sum := List.sum_cons
        have hP : IsP (((x :: q).length : Int) + 3 * j - 1) ((((x :: q).length : Int) + 3 * j - 1) :: low (x :: q)) := isP_cons.mpr ⟨by omega, by omega, hlp.mono (by omega)⟩
        have hle := hP.le_sum _ (List.mem_cons_self ..)
        have htot : bg (j - 1) + ((((x :: q).length : Int) + 3 * j - 1) :: low (x :: q)).sum = n := by rw [hs']; omega
        refine ⟨htot, hP.mono (by omega), ?_⟩
        unfold turn
        rw [if_neg (by simp only [top, List.length_cons] at hll ⊢; omega)]
        have e2 : top ((((x :: q).length : Int) + 3 * j - 1) :: low (x :: q)) - 3 * (j - 1) - ((((x :: q).length : Int) + 3 * j - 1) :: low (x :: q)).length - 1 - (if ((((x :: q).length : Int) + 3 * j - 1) :: low (x :: q)).length = 0 then 1 else 0) = (((x :: q).length - (low (x :: q)).length : Nat) : Int) := by
          rw [if_neg (by simp)]
          simp only [top, List.length_cons] at hll ⊢; omega
        rw [e2, Int.toNat_natCast, List.tail_cons, ← hsp]
        rw [show j - 1 + 1 = j by omega]
      · have hlen0 : ((x :: q).length : Int) + 3 * j = 1 := by omega
        have hx1 : x = 1 := by omega
        subst hx1
        have hones := low_ones (isP_cons.mpr ⟨by omega, by omega, h'.2.2⟩ : IsP 1 (1 :: q))
        have e : turn j (1 :: q) = (j - 1, []) := by
          unfold turn
          rw [if_pos (by exact hc), if_neg hf, hones.1]; rfl
        rw [e]
        rw [hones.1] at hsum
        simp only [List.sum_nil] at hsum
        refine ⟨by simp only [List.sum_nil]; omega, isP_nil _, ?_⟩
        have hlc : ((1 :: q).length : Int) = (q.length : Int) + 1 := by simp
        unfold turn
        rw [if_neg (by simp only [top, List.length_nil]; omega)]
        simp only [top, List.tail_nil, List.map_nil, List.nil_append, List.length_nil, if_true]
        rw [show (0 - 3 * (j - 1) - ((0 : Nat) : Int) - 1 - 1).toNat = (1 :: q).length by omega, ← hones.2]
        rw [show j - 1 + 1 = j by omega]
    · have e : turn j (x :: q) = (j + 1, q.map (· + 1) ++ List.replicate (x - 3 * j - ((x :: q).length : Int) - 1).toNat 1) := by
        unfold turn
        rw [if_neg (by exact hc), if_neg (by simp)]
        simp only [top, List.tail_cons]
        congr 3
        omega
      rw [e]
      have hb := bg_succ j
      have hnn := bg_nonneg (j + 1)
      have hlc : ((x :: q).length : Int) = (q.length : Int) + 1 := by simp
      have h1 : ((x - 3 * j - ((x :: q).length : Int) - 1).toNat : Int) = x - 3 * j - ((x :: q).length : Int) - 1 := by omega
      generalize hk : (x - 3 * j - ((x :: q).length : Int) - 1).toNat = k at h1
      have hP := back_isP (by omega) h'.2.2 k
      have htot : bg (j + 1) + (q.map (· + 1) ++ List.replicate k 1).sum = n := by
        rw [List.sum_append, map1_sum, rep1_sum]
        rw [List.sum_cons] at hs
        omega
      refine ⟨htot, ⟨hP.1, fun y hy => ⟨(hP.2 y hy).1, by have := hP.le_sum y hy; omega⟩⟩, ?_⟩
      have hlen : (q.map (· + 1) ++ List.replicate k 1).length = q.length + k := by simp
      have htop : top (q.map (· + 1) ++ List.replicate k 1) ≤ x + 1 := by
        cases hL : q.map (· + 1) ++ List.replicate k 1 with
        | nil => simp only [top]; omega
        | cons y t => exact (hP.2 y (by rw [hL]; simp)).2
      show turn (j + 1) (q.map (· + 1) ++ List.replicate k 1) = (j, x :: q)
      unfold turn
      rw [if_pos (by rw [hlen]; omega), if_pos (by rw [hlen]; omega), low_back h'.2.2, hlen]
      congr 1
      · omega
      · simp only [List.cons_append, List.nil_append]
        congr 1
        omega
end P55
end
section
namespace P55
open P54
theorem fm_congr {α β : Type} {f g : α → List β} : ∀ {l : List α}, (∀ x ∈ l, f x = g x) → l.flatMap f = l.flatMap g
  | [], _ => rfl
  | a :: l, h => by rw [List.flatMap_cons, List.flatMap_cons, h a (by simp), fm_congr fun x hx => h x (by simp [hx])]
theorem parts_fuel : ∀ {K K' n m : Nat}, n < K → n < K' → parts K n m = parts K' n m
  | 0, _, _, _, h, _ => absurd h (Nat.not_lt_zero _)
  | _ + 1, 0, _, _, _, h => absurd h (Nat.not_lt_zero _)
  | K + 1, K' + 1, n, m, h, h' => by
    rw [parts, parts]
    by_cases hn : n = 0
    · rw [if_pos hn, if_pos hn]
    · rw [if_neg hn, if_neg hn]
      refine fm_congr fun x hx => ?_
      have := mem_downN.mp hx
      rw [parts_fuel (K := K) (K' := K') (by omega) (by omega)]
/-- how many partitions of t have parts of at most k -/
def cnt (k t : Nat) : Nat := (parts (t + 1) t k).length
theorem cnt_zero (t : Nat) : cnt 0 t = if t = 0 then 1 else 0 := by
  unfold cnt
  rw [parts]
  by_cases h : t = 0
  · rw [if_pos h, if_pos h]; rfl
  · rw [if_neg h, if_neg h, Nat.min_zero]; rfl
theorem cnt_rec {k t : Nat} (h : k + 1 ≤ t) : cnt (k + 1) t = cnt k t + cnt (k + 1) (t - (k + 1)) := by
  unfold cnt
  rw [parts, if_neg (by omega), parts, if_neg (by omega), show min t (k + 1) = k + 1 by omega, show min t k = k by omega, downN, List.flatMap_cons, List.length_append, List.length_map, parts_fuel (K := t) (K' := t - (k + 1) + 1) (by omega) (by omega)]
  omega
theorem cnt_stop {k t : Nat} (h : t < k + 1) : cnt (k + 1) t = cnt k t := by
  unfold cnt
  rw [parts, parts, show min t (k + 1) = min t k by omega]
theorem cnt_top {t : Nat} : ∀ {k : Nat}, t ≤ k → cnt k t = cnt t t
  | 0, h => by rw [show t = 0 by omega]
  | k + 1, h => by
    by_cases e : t = k + 1
    · subst e; rfl
    · rw [cnt_stop (by omega), cnt_top (k := k) (by omega)]
def P (t : Nat) : Int := (cnt t t : Int)
def sgn (j : Int) : Int := 1 - 2 * (j % 2)
def symL : Nat → List Int
  | 0 => [0]
  | J + 1 => (-((J : Int) + 1)) :: ((J : Int) + 1) :: symL J
theorem mem_symL : ∀ {J : Nat} {x : Int}, x ∈ symL J ↔ -(J : Int) ≤ x ∧ x ≤ J
  | 0, x => by simp [symL]; omega
  | J + 1, x => by rw [symL, List.mem_cons, List.mem_cons, mem_symL]; omega
theorem symL_nodup : ∀ J : Nat, (symL J).Nodup
  | 0 => by simp [symL]
  | J + 1 => by
    rw [symL, List.nodup_cons, List.nodup_cons]
    refine ⟨fun h => ?_, fun h => ?_, symL_nodup J⟩
    · rcases List.mem_cons.mp h with h | h
      · omega
      · have := mem_symL.mp h; omega
    · have := mem_symL.mp h; omega
theorem bg_abs (j : Int) : -(bg j) ≤ j ∧ j ≤ bg j := by
  have h := even_bg j
  by_cases hj : 0 ≤ j
  · have : j * 0 ≤ j * (3 * j - 1 + 0) ∨ j = 0 := by
      rcases Int.lt_or_le 0 j with h0 | h0
      · exact .inl (Int.mul_le_mul_of_nonneg_left (by omega) hj)
      · exact .inr (by omega)
    rcases this with h1 | h1
    · have e : j * (3 * j + 1) = j * (3 * j - 1 + 0) + 2 * j := by
        rw [← Int.mul_comm j 2, ← Int.mul_add]; congr 1; omega
      have := bg_nonneg j
      omega
    · subst h1; simp [bg]
  · have h1 : 0 ≤ (-j) * (-(3 * j) - 3) := Int.mul_nonneg (by omega) (by omega)
    have e : (-j) * (-(3 * j) - 3) = j * (3 * j + 1) + 2 * j := by
      rw [Int.neg_mul, ← Int.mul_neg, ← Int.mul_comm j 2, ← Int.mul_add]; congr 1; omega
    have := bg_nonneg j
    omega
def pairs (n : Nat) : List (Int × List Int) := ((symL n).filter fun j => decide (bg j ≤ n)).flatMap fun j => (parts (n + 1) ((n : Int) - bg j).toNat n).map fun p => (j, p)
theorem mem_pairs {n : Nat} {x : Int × List Int} : x ∈ pairs n ↔ IsP n x.2 ∧ bg x.1 + x.2.sum = n := by
  unfold pairs
  rw [List.mem_flatMap]
  constructor
  · rintro ⟨j, hj, hx⟩
    rw [List.mem_filter, decide_eq_true_eq] at hj
    rw [List.mem_map] at hx
    obtain ⟨p, hp, rfl⟩ := hx
    have hb := bg_nonneg j
    obtain ⟨h1, h2⟩ := (mem_parts (by omega)).mp hp
    exact ⟨h1, by show bg j + p.sum = n; omega⟩
  · rintro ⟨h1, h2⟩
    have hs := h1.sum_ge
    have hb := bg_abs x.1
    refine ⟨x.1, ?_, ?_⟩
    · rw [List.mem_filter, decide_eq_true_eq]
      exact ⟨mem_symL.mpr (by omega), by omega⟩
    · rw [List.mem_map]
      have hb := bg_nonneg x.1
      exact ⟨x.2, (mem_parts (by omega)).mpr ⟨h1, by omega⟩, rfl⟩
theorem pairs_nodup (n : Nat) : (pairs n).Nodup := by
  unfold pairs List.Nodup
  rw [List.pairwise_flatMap]
  refine ⟨fun j _ => ?_, ((symL_nodup n).filter _).imp fun {a b} h x hx y hy => ?_⟩
  · rw [List.pairwise_map]
    exact (parts_nodup _ _ _).imp fun {a b} h e => h (by simpa using e)
  · rw [List.mem_map] at hx hy
    obtain ⟨p, _, rfl⟩ := hx
    obtain ⟨q, _, rfl⟩ := hy
    intro e
    exact h (by simpa using (Prod.mk.inj e).1)
def tn (x : Int × List Int) : Int × List Int := turn x.1 x.2
theorem tn_perm {n : Nat} (hn : 1 ≤ n) : ((pairs n).map tn).Perm (pairs n) := by
  have key : ∀ x ∈ pairs n, tn x ∈ pairs n ∧ tn (tn x) = x := fun x hx => by
    obtain ⟨h1, h2⟩ := mem_pairs.mp hx
    obtain ⟨f1, f2, f3⟩ := turn_facts (by omega : (1 : Int) ≤ n) h1 h2
    exact ⟨mem_pairs.mpr ⟨f2, f1⟩, f3⟩
  refine (List.perm_ext_iff_of_nodup ?_ (pairs_nodup n)).mpr fun x => ?_
  · unfold List.Nodup
    rw [List.pairwise_map]
    refine (List.Pairwise.and_mem.mp (pairs_nodup n)).imp fun {a b} ⟨ha, hb, h⟩ e => h ?_
    rw [← (key a ha).2, e, (key b hb).2]
  · rw [List.mem_map]
    constructor
    · rintro ⟨y, hy, rfl⟩; exact (key y hy).1
    · intro hx; exact ⟨tn x, (key x hx).1, (key x hx).2⟩
theorem perm_sum {l m : List Int} (h : l.Perm m) : l.sum = m.sum := by
  induction h with
  | nil => rfl
  | cons x _ ih => rw [List.sum_cons, List.sum_cons, ih]
  | swap x y l => simp only [List.sum_cons]; omega
  | trans _ _ a b => exact a.trans b
theorem sum_neg (f : Int × List Int → Int) : ∀ l : List (Int × List Int), (l.map fun x => -(f x)).sum = -((l.map f).sum)
  | [] => rfl
  | a :: l => by simp only [List.map_cons, List.sum_cons, sum_neg f l]; omega
theorem pairs_sum {n : Nat} (hn : 1 ≤ n) : ((pairs n).map fun x => sgn x.1).sum = 0 := by
  have h1 := perm_sum ((tn_perm hn).map fun x => sgn x.1)
  rw [List.map_map] at h1
  have h2 : ((pairs n).map ((fun x => sgn x.1) ∘ tn)) = (pairs n).map fun x => -(sgn x.1) := by
    apply List.map_congr_left
    intro x _
    have := turn_abs x.1 x.2
    show sgn (turn x.1 x.2).1 = -(sgn x.1)
    unfold sgn
    omega
  rw [h2, sum_neg (fun x => sgn x.1)] at h1
  omega
def G (n : Nat) (j : Int) : Int := if bg j ≤ n then sgn j * P ((n : Int) - bg j).toNat else 0
theorem const_sum {α : Type} (c : Int) : ∀ l : List α, (l.map fun _ => c).sum = c * l.length
  | [] => by simp
  | a :: l => by rw [List.map_cons, List.sum_cons, const_sum c l, List.length_cons, Int.natCast_add, Int.mul_add]; omega
theorem flat_sum {n : Nat} : ∀ l : List Int, (((l.filter fun j => decide (bg j ≤ n)).flatMap fun j => (parts (n + 1) ((n : Int) - bg j).toNat n).map fun p => (j, p)).map fun x => sgn x.1).sum = (l.map (G n)).sum
  | [] => rfl
  | j :: l => by
    have hb := bg_nonneg j
    by_cases h : bg j ≤ n
    · rw [List.filter_cons_of_pos (by simpa using h), List.flatMap_cons, List.map_append, List.sum_append, flat_sum l, List.map_cons, List.sum_cons, List.map_map]
      congr 1
      show (((parts (n + 1) ((n : Int) - bg j).toNat n).map fun _ => sgn j)).sum = _
      rw [const_sum, G, if_pos h, P, ← cnt_top (k := n) (by omega), cnt, parts_fuel (K := n + 1) (K' := ((n : Int) - bg j).toNat + 1) (by omega) (by omega)]
    · rw [List.filter_cons_of_neg (by simpa using h), flat_sum l, List.map_cons, List.sum_cons, G, if_neg h]; omega
def Hs (n : Nat) : Nat → Int
  | 0 => 0
  | J + 1 => Hs n J + (G n (-((J : Int) + 1)) + G n ((J : Int) + 1))
theorem sym_sum (n : Nat) : ∀ J : Nat, ((symL J).map (G n)).sum = G n 0 + Hs n J
  | 0 => by simp [symL, Hs]
  | J + 1 => by simp only [symL, List.map_cons, List.sum_cons, sym_sum n J, Hs]; omega
/-- the recursion of the counts -/
theorem pent {n : Nat} (hn : 1 ≤ n) : P n = -(Hs n n) := by
  have h := pairs_sum hn
  unfold pairs at h
  rw [flat_sum, sym_sum] at h
  have h0 : G n 0 = P n := by
    unfold G
    rw [if_pos (by simp [bg])]
    simp [bg, sgn]
  omega
theorem bg_neg_mono {i : Nat} : ∀ {J : Nat}, i ≤ J → bg (-(i : Int)) ≤ bg (-(J : Int))
  | 0, h => by rw [show i = 0 by omega]; exact Int.le_refl _
  | J + 1, h => by
    by_cases e : i = J + 1
    · subst e; exact Int.le_refl _
    · have := bg_neg_mono (i := i) (J := J) (by omega)
      have h2 := bg_succ (-((J + 1 : Nat) : Int))
      rw [show -((J + 1 : Nat) : Int) + 1 = -(J : Int) by omega] at h2
      omega
theorem bg_pos_neg (i : Nat) : bg (i : Int) = bg (-(i : Int)) + i := by
  have h1 := even_bg i
  have h2 := even_bg (-(i : Int))
  have e : (-(i : Int)) * (3 * -(i : Int) + 1) = (i : Int) * (3 * i + 1) - 2 * i := by
    rw [Int.neg_mul, ← Int.mul_neg, ← Int.mul_comm (i : Int) 2, ← Int.mul_sub]; congr 1; omega
  omega
theorem Hs_end {n i : Nat} (h : (n : Int) < bg (-((i : Int) + 1))) : ∀ J, i ≤ J → Hs n J = Hs n i
  | 0, hj => by rw [show i = 0 by omega]
  | J + 1, hj => by
    by_cases e : i = J + 1
    · subst e; rfl
    · have ih := Hs_end h J (by omega)
      have h1 := bg_neg_mono (i := i + 1) (J := J + 1) (by omega)
      have h2 := bg_pos_neg (J + 1)
      have e1 : (-((i + 1 : Nat) : Int)) = -((i : Int) + 1) := by omega
      have e2 : (((J + 1 : Nat) : Int)) = (J : Int) + 1 := by omega
      rw [e1] at h1
      rw [e2] at h1 h2
      rw [Hs, ih, G, if_neg (by omega), G, if_neg (by omega)]
      omega
theorem bg_neg_ge (i : Nat) : (i : Int) ≤ bg (-(i : Int)) := by
  have := bg_abs (-(i : Int)); omega
end P55
end
section
namespace P35
open P54 P55
/-- a rule -/
structure Ru where
  m : Nat
  g : List (List Int)
  l : Nat
def Ru.gap (R : Ru) (x y : Int) : Int := (R.g.getD (x % (R.m : Int)).toNat []).getD (y % (R.m : Int)).toNat 0
def Ru.st (R : Ru) (x y : Int) : Bool := decide (0 ≤ R.gap x y) && decide (R.gap x y ≤ x - y)
/-- what may stand behind x -/
def okE (R : Ru) : Int → List Int → Bool
  | _, [] => true
  | x, y :: r => (decide ((R.l : Int) ≤ y) && R.st x y) && okE R y r
def okF (R : Ru) : List Int → Bool
  | [] => true
  | x :: r => decide ((R.l : Int) ≤ x) && okE R x r
def EN (R : Ru) (n x : Nat) : List (List Int) := (parts (n + 1) n x).filter (okE R x)
def blk (R : Ru) (n x : Nat) (y : Nat) : List (List Int) := if (decide ((R.l : Int) ≤ y) && R.st x y) = true then (EN R (n - y) y).map ((y : Int) :: ·) else []
theorem filter_flatMap {α β : Type} (q : β → Bool) (f : α → List β) : ∀ l : List α, (l.flatMap f).filter q = l.flatMap fun a => (f a).filter q
  | [] => rfl
  | a :: l => by rw [List.flatMap_cons, List.flatMap_cons, List.filter_append, filter_flatMap q f l]
theorem EN_zero (R : Ru) (x : Nat) : EN R 0 x = [[]] := rfl
theorem EN_rec (R : Ru) {n x : Nat} (h : n ≠ 0) : EN R n x = (downN (min n x)).flatMap (blk R n x) := by
  unfold EN
  rw [parts, if_neg h, filter_flatMap]
  refine fm_congr fun y hy => ?_
  have hy' := mem_downN.mp hy
  unfold blk
  rw [parts_fuel (K := n) (K' := n - y + 1) (by omega) (by omega)]
  by_cases c : (decide ((R.l : Int) ≤ y) && R.st x y) = true
  · rw [if_pos c]
    unfold EN
    rw [List.filter_map]
    congr 1
    refine List.filter_congr fun p _ => ?_
    show okE R x ((y : Int) :: p) = _
    rw [okE, c]; rfl
  · rw [if_neg c]
    refine List.filter_eq_nil_iff.mpr fun p hp => ?_
    rw [List.mem_map] at hp
    obtain ⟨q, _, rfl⟩ := hp
    rw [okE]
    have : (decide ((R.l : Int) ≤ y) && R.st x y) = false := by simpa using c
    rw [this]; simp
theorem mem_blk {R : Ru} {n x y : Nat} {p : List Int} (h : p ∈ blk R n x y) : ∃ r, p = (y : Int) :: r ∧ r ∈ EN R (n - y) y := by
  unfold blk at h
  split at h
  · rw [List.mem_map] at h
    obtain ⟨r, hr, rfl⟩ := h
    exact ⟨r, rfl, hr⟩
  · cases h
/-- the ones with a first part of at most most -/
def EQ (R : Ru) (n x most : Nat) : List (List Int) := if n = 0 then [[]] else (downN (min (min n x) most)).flatMap (blk R n x)
theorem EQ_self (R : Ru) (n x : Nat) : EQ R n x x = EN R n x := by
  unfold EQ
  by_cases h : n = 0
  · rw [if_pos h, h]; rfl
  · rw [if_neg h, EN_rec R h, Nat.min_assoc, Nat.min_self]
/-! the one after -/
def after {α : Type} [DecidableEq α] (p : α) : List α → Option α
  | [] => none
  | a :: t => if a = p then t.head? else after p t
variable {α : Type} [DecidableEq α]
theorem after_app {p : α} : ∀ {A B : List α}, p ∈ A → after p (A ++ B) = (after p A).or B.head?
  | a :: A, B, h => by
    rw [List.cons_append, after, after]
    by_cases c : a = p
    · rw [if_pos c, if_pos c]
      cases A <;> simp
    · rw [if_neg c, if_neg c]
      refine after_app ?_
      rcases List.mem_cons.mp h with e | e
      · exact absurd e.symm c
      · exact e
theorem after_not {p : α} : ∀ {A B : List α}, p ∉ A → after p (A ++ B) = after p B
  | [], B, _ => rfl
  | a :: A, B, h => by
    rw [List.cons_append, after, if_neg (fun c => h (by simp [c])), after_not fun c => h (by simp [c])]
theorem after_map {y : Int} {r : List Int} : ∀ L : List (List Int), after (y :: r) (L.map (y :: ·)) = (after r L).map (y :: ·)
  | [] => rfl
  | a :: L => by
    rw [List.map_cons, after, after]
    by_cases c : a = r
    · rw [if_pos (by rw [c]), if_pos c]
      cases L <;> rfl
    · rw [if_neg (by simpa using c), if_neg c, after_map L]
theorem after_get {p : α} : ∀ {L : List α} {k : Nat}, L.Nodup → L[k]? = some p → after p L = L[k + 1]?
  | [], k, _, h => by simp at h
  | a :: L, 0, _, h => by
    rw [List.getElem?_cons_zero] at h
    rw [after, if_pos (Option.some.inj h)]
    cases L <;> rfl
  | a :: L, k + 1, hn, h => by
    rw [List.getElem?_cons_succ] at h
    rw [List.nodup_cons] at hn
    have : a ≠ p := fun e => hn.1 (by rw [e]; exact List.mem_of_getElem? h)
    rw [after, if_neg this, after_get hn.2 h, List.getElem?_cons_succ]
theorem after_down {f : Nat → List (List Int)} (hf : ∀ z p, p ∈ f z → ∃ r, p = (z : Int) :: r) {y : Nat} {r : List Int} (hp : ((y : Int) :: r) ∈ f y) : ∀ M, y ≤ M → 1 ≤ y → after ((y : Int) :: r) ((downN M).flatMap f) = (after ((y : Int) :: r) (f y)).or ((downN (y - 1)).flatMap f).head?
  | 0, h, h1 => by omega
  | M + 1, h, h1 => by
    rw [downN, List.flatMap_cons]
    by_cases c : y = M + 1
    · subst c
      rw [after_app hp]
      rfl
    · rw [after_not (fun hm => by
        obtain ⟨r', e⟩ := hf _ _ hm
        injection e with e1
        omega)]
      exact after_down hf hp M (by omega) h1
/-- the next one behind x -/
def nx (R : Ru) : Nat → Nat → List Nat → Option (List Int)
  | _, _, [] => none
  | n, x, y :: r => ((nx R (n - y) y r).map ((y : Int) :: ·)).or (EQ R n x (y - 1)).head?
def I (l : List Nat) : List Int := l.map fun n : Nat => (n : Int)
theorem EN_pos {R : Ru} {n x : Nat} {p : List Int} (h : p ∈ EN R n x) : IsP x p ∧ p.sum = n := by
  unfold EN at h
  exact (mem_parts (k := n + 1) (by omega)).mp (List.mem_filter.mp h).1
theorem nx_ok {R : Ru} : ∀ (r : List Nat) (n x : Nat), I r ∈ EN R n x → after (I r) (EN R n x) = nx R n x r
  | [], n, x, h => by
    have h0 : n = 0 := by
      have := (EN_pos h).2
      simp [I] at this
      omega
    subst h0
    rfl
  | y :: r, n, x, h => by
    have hp := EN_pos h
    have hn : n ≠ 0 := by
      intro e
      subst e
      simp [EN_zero, I] at h
    rw [EN_rec R hn] at h ⊢
    rw [List.mem_flatMap] at h
    obtain ⟨z, hz, h⟩ := h
    have hz' := mem_downN.mp hz
    obtain ⟨r', e, hr⟩ := mem_blk h
    have e1 : (y : Int) = z := by injection e
    have e2 : I r = r' := by injection e
    have e3 : y = z := by omega
    subst e3
    subst e2
    have hd := after_down (f := blk R n x) (fun z p hp => by obtain ⟨r, e, _⟩ := mem_blk hp; exact ⟨r, e⟩) (y := y) (r := I r) h (min n x) hz'.2 hz'.1
    show after ((y : Int) :: I r) _ = _
    rw [hd, nx]
    congr 1
    · have hb : blk R n x y = (EN R (n - y) y).map ((y : Int) :: ·) := by
        unfold blk at h ⊢
        split at h
        · rename_i c; rw [if_pos c]
        · cases h
      rw [hb, after_map, nx_ok r (n - y) y hr]
    · unfold EQ
      rw [if_neg hn, show min (min n x) (y - 1) = y - 1 by omega]
/-- all -/
def LL (R : Ru) (n : Nat) : List (List Int) := (parts 60 n n).filter (okF R)
def blk0 (R : Ru) (n x : Nat) : List (List Int) := if decide ((R.l : Int) ≤ x) = true then (EN R (n - x) x).map ((x : Int) :: ·) else []
theorem LL_rec (R : Ru) {n : Nat} (h : n ≠ 0) (hn : n < 50) : LL R n = (downN n).flatMap (blk0 R n) := by
  unfold LL
  rw [parts, if_neg h, filter_flatMap, Nat.min_self]
  refine fm_congr fun y hy => ?_
  have hy' := mem_downN.mp hy
  unfold blk0
  rw [parts_fuel (K := 59) (K' := n - y + 1) (by omega) (by omega)]
  by_cases c : decide ((R.l : Int) ≤ y) = true
  · rw [if_pos c]
    unfold EN
    rw [List.filter_map]
    congr 1
    refine List.filter_congr fun p _ => ?_
    show okF R ((y : Int) :: p) = _
    rw [okF, c]; rfl
  · rw [if_neg c]
    refine List.filter_eq_nil_iff.mpr fun p hp => ?_
    rw [List.mem_map] at hp
    obtain ⟨q, _, rfl⟩ := hp
    rw [okF]
    have : decide ((R.l : Int) ≤ y) = false := by simpa using c
    rw [this]; simp
theorem mem_blk0 {R : Ru} {n y : Nat} {p : List Int} (h : p ∈ blk0 R n y) : ∃ r, p = (y : Int) :: r ∧ r ∈ EN R (n - y) y := by
  unfold blk0 at h
  split at h
  · rw [List.mem_map] at h
    obtain ⟨r, hr, rfl⟩ := h
    exact ⟨r, rfl, hr⟩
  · cases h
def nx0 (R : Ru) (n : Nat) : List Nat → Option (List Int)
  | [] => none
  | y :: r => ((nx R (n - y) y r).map ((y : Int) :: ·)).or ((downN (y - 1)).flatMap (blk0 R n)).head?
theorem nx0_ok {R : Ru} {n : Nat} (hn : n ≠ 0) (hn2 : n < 50) : ∀ (r : List Nat), I r ∈ LL R n → after (I r) (LL R n) = nx0 R n r
  | [], h => by
    unfold LL at h
    have := ((mem_parts (k := 60) (by omega)).mp (List.mem_filter.mp h).1).2
    simp [I] at this
    omega
  | y :: r, h => by
    rw [LL_rec R hn hn2] at h ⊢
    rw [List.mem_flatMap] at h
    obtain ⟨z, hz, h⟩ := h
    have hz' := mem_downN.mp hz
    obtain ⟨r', e, hr⟩ := mem_blk0 h
    have e1 : (y : Int) = z := by injection e
    have e2 : I r = r' := by injection e
    have e3 : y = z := by omega
    subst e3
    subst e2
    have hd := after_down (f := blk0 R n) (fun z p hp => by obtain ⟨r, e, _⟩ := mem_blk0 hp; exact ⟨r, e⟩) (y := y) (r := I r) h n hz'.2 hz'.1
    show after ((y : Int) :: I r) _ = _
    rw [hd, nx0]
    congr 1
    have hb : blk0 R n y = (EN R (n - y) y).map ((y : Int) :: ·) := by
      unfold blk0 at h ⊢
      split at h
      · rename_i c; rw [if_pos c]
      · cases h
    rw [hb, after_map, nx_ok r (n - y) y hr]
/-- by places, from behind -/
def val (R : Ru) (x : Nat) (r : List Nat) (i : Nat) : Option (List Int) := (EQ R (r.drop i).sum ((x :: r).getD i 0) (r.getD i 0 - 1)).head?.map (I (r.take i) ++ ·)
theorem findSome_map {α β : Type} {f : α → Option β} {g : β → β} : ∀ l : List α, l.findSome? (fun a => (f a).map g) = (l.findSome? f).map g
  | [] => rfl
  | a :: l => by
    rw [List.findSome?_cons, List.findSome?_cons, findSome_map l]
    cases f a <;> rfl
theorem nx_places {R : Ru} : ∀ (r : List Nat) (x : Nat), (List.range r.length).reverse.findSome? (val R x r) = nx R r.sum x r
  | [], x => rfl
  | y :: r, x => by
    rw [List.length_cons, List.range_succ_eq_map, List.reverse_cons, List.findSome?_append, ← List.map_reverse, List.findSome?_map, nx]
    congr 1
    · have e : (val R x (y :: r) ∘ Nat.succ) = fun i => (val R y r i).map ((y : Int) :: ·) := by
        funext i
        simp only [Function.comp, val]
        rw [Option.map_map]
        rfl
      rw [e, findSome_map, nx_places r y, List.sum_cons, show y + r.sum - y = r.sum by omega]
    · rw [List.findSome?_cons, List.findSome?_nil]
      simp only [val]
      rw [List.drop_zero, List.take_zero, List.getD_cons_zero, List.getD_cons_zero]
      cases (EQ R (y :: r).sum x (y - 1)).head? <;> rfl
end P35
end
section
/-! FL: a, b = e1, e2 where one is a new list; tuple(reversed(a list)). -/
namespace FL
open PySem PySem.Spec PyProof.Rows L2
section
variable {X : Cx} {f g : EF} {pos : Pos}
variable {x y : Str} {e1 e2 : Expr} {px py pt pt2 : Pos} {kt k2 : Nat}
/-- the first one new -/
def parOD (i j : Nat) (f g : EF) : SF := fun ρ => bnd (f ρ) fun x => bnd (g ρ) fun y => ret (.nx (sset (sset ρ i (.o x)) j (.d y)))
theorem s_parOD (i j : Nat) (hN : X.N.Nodup) (hij : i ≠ j) (h1 : PE X e1 (tF X.K f)) (h2 : PE X e2 (tE X.K g)) (hi : X.N[i]? = some x := by rfl) (hj : X.N[j]? = some y := by rfl)
    (hx : X.env.scope.names.lookup x = some .local := by rfl) (hy : X.env.scope.names.lookup y = some .local := by rfl) (hc : X.calm = true := by rfl)
    (hw : swappedStores [.Tuple [.Name x px, .Name y py] kt pt] (.Tuple [e1, e2] k2 pt2) X.env = pure (some [x, y]) := by rfl)
    (hs : swapsWithSole [.Tuple [.Name x px, .Name y py] kt pt] (.Tuple [e1, e2] k2 pt2) pos.line X.env = pure false := by rfl)
    (na : starEach [e1, e2] X.env = (false, eval e1 X.env) :: starEach [e2] X.env := by rfl) (nb : starEach [e2] X.env = (false, eval e2 X.env) :: starEach [] X.env := by rfl) :
    PS X (.Assign [.Tuple [.Name x px, .Name y py] kt pt] (.Tuple [e1, e2] k2 pt2) pos) (tS X.K (parOD i j f g)) :=
  ps_weak (ps_par hc hN hi hj hij hx hy (pa_cons h1 (pa_cons h2 pa_nil nb) na) hw hs) fun D σ H ⟨c, F, ρ, ω, o, ω', w, e, k⟩ => by
    obtain ⟨x1, ω1, g1, e⟩ := bnd_some e
    obtain ⟨y1, ω2, g2, e⟩ := bnd_some e
    obtain ⟨rfl, rfl⟩ := ret_some e
    refine ⟨c, F, ρ, ω, x1, ω1, w, g1, fun F1 H1 p p1 np fp rp => ⟨c, F1, ρ, ω1, y1, _, w.ext p1, g2, fun F2 H2 u p2 r2 => ⟨.ref p, u, rfl, k F2 H2 _ ?_⟩⟩⟩
    have qp := qfree_none w.post.ora np
    have w2 := (w.ext p1).ext p2
    have fp2 : F2 p = none := by rw [p2.new p rp.there]; exact fp
    have op : Own X.K c F2 H2 p x1 := ⟨fp2, w.h0_none np, qp, rp.mono p2.le0 fun o h => p2.kept p o h qp⟩
    exact (w2.set_o op i fun j' y' _ hy' => w.fresh_ne np j' y' hy').set_d r2 j
/-- the second one new -/
def parDO (i j : Nat) (f g : EF) : SF := fun ρ => bnd (f ρ) fun x => bnd (g ρ) fun y => ret (.nx (sset (sset ρ i (.d x)) j (.o y)))
theorem s_parDO (i j : Nat) (hN : X.N.Nodup) (hij : i ≠ j) (h1 : PE X e1 (tE X.K f)) (h2 : PE X e2 (tF X.K g)) (hi : X.N[i]? = some x := by rfl) (hj : X.N[j]? = some y := by rfl)
    (hx : X.env.scope.names.lookup x = some .local := by rfl) (hy : X.env.scope.names.lookup y = some .local := by rfl) (hc : X.calm = true := by rfl)
    (hw : swappedStores [.Tuple [.Name x px, .Name y py] kt pt] (.Tuple [e1, e2] k2 pt2) X.env = pure (some [x, y]) := by rfl)
    (hs : swapsWithSole [.Tuple [.Name x px, .Name y py] kt pt] (.Tuple [e1, e2] k2 pt2) pos.line X.env = pure false := by rfl)
    (na : starEach [e1, e2] X.env = (false, eval e1 X.env) :: starEach [e2] X.env := by rfl) (nb : starEach [e2] X.env = (false, eval e2 X.env) :: starEach [] X.env := by rfl) :
    PS X (.Assign [.Tuple [.Name x px, .Name y py] kt pt] (.Tuple [e1, e2] k2 pt2) pos) (tS X.K (parDO i j f g)) :=
  ps_weak (ps_par hc hN hi hj hij hx hy (pa_cons h1 (pa_cons h2 pa_nil nb) na) hw hs) fun D σ H ⟨c, F, ρ, ω, o, ω', w, e, k⟩ => by
    obtain ⟨x1, ω1, g1, e⟩ := bnd_some e
    obtain ⟨y1, ω2, g2, e⟩ := bnd_some e
    obtain ⟨rfl, rfl⟩ := ret_some e
    refine ⟨c, F, ρ, ω, x1, ω1, w, g1, fun F1 H1 v p1 r1 => ⟨c, F1, ρ, ω1, y1, _, w.ext p1, g2, fun F2 H2 t p2 nt ft rt => ⟨v, .ref t, rfl, k F2 H2 _ ?_⟩⟩⟩
    have w1 := w.ext p1
    have qt := qfree_none w1.post.ora nt
    have w2 := (w1.ext p2).set_d (r1.mono p2.le0) i
    have ot : Own X.K c F2 H2 t y1 := ⟨ft, w1.h0_none nt, qt, rt⟩
    refine w2.set_o ot j fun j' y' hj' hy' => ?_
    rw [nth_sset] at hy'
    by_cases hji : j' = i
    · subst hji
      by_cases hl : j' < ρ.length
      · rw [if_pos rfl, if_pos hl] at hy'; cases hy'
      · rw [if_pos rfl, if_neg hl] at hy'; cases hy'
    · rw [if_neg hji] at hy'
      rw [List.getElem?_set_ne (Ne.symm hji)]
      exact w1.fresh_ne nt j' y' hy'
def dTupRev : D → Option D
  | .lst ds => some (.tup ds.reverse)
  | _ => none
variable {e : Expr} {p p2 pos2 : Pos}
theorem e_tupRev (hm : X.mg "tuple" = none) (hm2 : X.mg "reversed" = none) (he : PE X e (tB X.K f)) (hg : Gl X "tuple" := by rfl) (hg2 : Gl X "reversed" := by rfl) (hc : X.calm = true := by rfl)
    (hs : starEach [e] X.env = (false, eval e X.env) :: starEach [] X.env := by rfl)
    (hs2 : starEach [.Call (.Name "reversed" p2) [e] [] pos2] X.env = (false, eval (.Call (.Name "reversed" p2) [e] [] pos2) X.env) :: starEach [] X.env := by rfl) :
    PE X (.Call (.Name "tuple" p) [.Call (.Name "reversed" p2) [e] [] pos2] [] pos) (tE X.K (b1 dTupRev f)) :=
  pe_weak (RT.pe_tupRev hc hg hm hg2 hm2 he hs hs2) fun σ H Q ⟨c, F, ρ, ω, d, ω', w, e, q⟩ => by
    obtain ⟨x, ω1, e1, e⟩ := bnd_some e
    obtain ⟨e4, rfl⟩ := opt_some e
    refine ⟨c, F, ρ, ω, x, _, w, e1, fun F1 H1 v p1 r1 => ?_⟩
    cases x <;> simp only [dTupRev, reduceCtorEq, Option.some.injEq] at e4
    subst e4
    obtain ⟨p, vs, rfl, h1, r⟩ := r1.lst p1.le
    exact ⟨p, vs, rfl, .inl (.inl h1), fun t ht => q _ _ _ (p1.trans (Post.alloc p1.le p1.ora ht)) (.tup (.inl (.inl upd_same)) (r.reverse.mono (same_new (same_none p1.le ht))))⟩
end
end FL
end
section
/-! FL: min of three ints. -/
namespace FL
open PySem PySem.Spec PyProof.Rows L2
def aMin3 : List D → Option D
  | [.int i, .int j, .int k] => some (.int (if k < (if j < i then j else i) then k else (if j < i then j else i)))
  | _ => none
theorem Vws.three {K : PySem.W.Frag} {q : Qa} {F H vs} {d e f : D} (h : Vws K q F H vs [d, e, f]) : ∃ u v w, vs = [u, v, w] ∧ Vw K q F H u d ∧ Vw K q F H v e ∧ Vw K q F H w f := by
  cases h with
  | cons h1 h => cases h with
    | cons h2 h => cases h with
      | cons h3 h => cases h; exact ⟨_, _, _, rfl, h1, h2, h3⟩
theorem min3_pure {K : PySem.W.Frag} : PureA K (rNuC3 nuMin3) aMin3 := by
  intro q F H ω xs a d Q hs ho hx e k
  unfold aMin3 at e
  split at e
  · cases e
    rename_i i j l
    obtain ⟨u, v, w, rfl, h1, h2, h3⟩ := hx.three
    cases h1.int
    cases h2.int
    cases h3.int
    refine ⟨_, _, _, _, rfl, ?_, k F H _ (.mk0 hs ho) (.int _)⟩
    unfold nuMin3 nuMin2 nuLt nuCB
    by_cases c : j < i
    · simp only [c, decide_true, Option.map_some, if_true, Option.bind_some]
      by_cases c2 : l < j
      · simp [c2]
      · simp [c2]
    · simp only [c, decide_false, Option.map_some, if_false, Option.bind_some, Bool.false_eq_true]
      by_cases c2 : l < i
      · simp [c2]
      · simp [c2]
  · cases e
end FL
end
section
namespace K35
open PySem PySem.Spec PyProof.Rows L2 FL
def m_may_stand : List D → M D := runS 7 3 false (seqS (asgS (vr 0) (gT (gsC (gN 3) (gsC (gN 4) (gsC (gN 5) gsN)))))
  (seqS (setD 6 (b2 dIx (b2 dIx (vw 4) (b2 dMod (vw 1) (vw 3))) (b2 dMod (vw 2) (vw 3))))
  (seqS (retS (andV (b2 dGe (vw 6) (cst (.int 0))) (b2 dGe (b2 dSub (vw 1) (vw 2)) (vw 6))))
  (nilS []))))
def b_first_break_1 : SF := (seqS (ifS (notB (truB (callE m_may_stand (aC (vr 0) (aC (b2 dIx (vw 1) (vw 2)) (aC (b2 dIx (vw 1) (b2 dAdd (vw 2) (cst (.int 1)))) aN))))))
  (seqS (retS (vr 2))
  (nilS []))
  (nilS []))
  (nilS [2]))
def m_first_break : List D → M D := runS 3 2 false (seqS (forS (itR1 (b2 dSub (bA aLen (aC (vw 1) aN)) (cst (.int 1)))) (gN 2)
  b_first_break_1)
  (seqS (ifS (andB (isB (b2 dGt (bA aLen (aC (vw 1) aN)) (cst (.int 0)))) (isB (b2 dLt (b2 dIx (vw 1) (b1 dNeg (cst (.int 1)))) (b2 dIx (vw 0) (cst (.int 2))))))
  (seqS (retS (b2 dSub (bA aLen (aC (vw 1) aN)) (cst (.int 1))))
  (nilS []))
  (nilS []))
  (seqS (retS (cst .non))
  (nilS []))))
def m_keeps_gaps : List D → M D := runS 2 2 false (seqS (retS (b2 dIsN (callE m_first_break (aC (vr 0) (aC (vr 1) aN))) (cst .non)))
  (nilS []))
def c_endings_1 (r : List D → M D) : EF := (lcE (itS (callE r (aC (vr 0) (aC (b2 dSub (vw 1) (vw 4)) (aC (vr 4) aN))))) (gN 5) yesB (b2 dAdd (eTup (aC (vr 4) aN)) (vw 5)) [5])
def b_endings_1 (r : List D → M D) : SF := (seqS (ifS (truB (callE m_may_stand (aC (vr 0) (aC (vr 2) (aC (vr 4) aN)))))
  (seqS (setD 3 (b2 dAdd (vw 3) (c_endings_1 r)))
  (nilS []))
  (nilS []))
  (nilS [4]))
def m_endings : Nat → List D → M D
  | 0 => fun _ _ => none
  | k + 1 => runS 6 3 false (seqS (ifS (isB (b2 dEq (vw 1) (cst (.int 0))))
  (seqS (retS (eLst (aC (eTup aN) aN)))
  (nilS []))
  (nilS []))
  (seqS (setD 3 (eLst aN))
  (seqS (forS (itR3 (bA aMin (aC (vw 1) (aC (vw 2) aN))) (b2 dSub (b2 dIx (vw 0) (cst (.int 2))) (cst (.int 1))) (b1 dNeg (cst (.int 1)))) (gN 4)
  (b_endings_1 (m_endings k)))
  (seqS (retS (vr 3))
  (nilS [])))))
def c_partitions_by_gaps_1 : EF := (lcE (itS (callE (m_endings 60) (aC (vr 0) (aC (b2 dSub (vw 1) (vw 3)) (aC (vr 3) aN))))) (gN 4) yesB (b2 dAdd (eTup (aC (vr 3) aN)) (vw 4)) [4])
def b_partitions_by_gaps_1 : SF := (seqS (setD 2 (b2 dAdd (vw 2) c_partitions_by_gaps_1))
  (nilS [3]))
def m_partitions_by_gaps : List D → M D := runS 5 2 false (seqS (ifS (isB (b2 dEq (vw 1) (cst (.int 0))))
  (seqS (retS (eLst (aC (eTup aN) aN)))
  (nilS []))
  (nilS []))
  (seqS (setD 2 (eLst aN))
  (seqS (forS (itR3 (vw 1) (b2 dSub (b2 dIx (vw 0) (cst (.int 2))) (cst (.int 1))) (b1 dNeg (cst (.int 1)))) (gN 3)
  b_partitions_by_gaps_1)
  (seqS (retS (vr 2))
  (nilS [])))))
def b_first_ending_1 (r : List D → M D) : SF := (seqS (ifS (truB (callE m_may_stand (aC (vr 0) (aC (vr 2) (aC (vr 4) aN)))))
  (seqS (setD 5 (callE r (aC (vr 0) (aC (b2 dSub (vw 1) (vw 4)) (aC (vr 4) (aC (vr 4) aN))))))
  (seqS (ifS (isB (b2 dNotN (vw 5) (cst .non)))
  (seqS (retS (b2 dAdd (eTup (aC (vr 4) aN)) (vw 5)))
  (nilS []))
  (nilS []))
  (nilS [5])))
  (nilS []))
  (nilS [4, 5]))
def m_first_ending : Nat → List D → M D
  | 0 => fun _ _ => none
  | k + 1 => runS 6 4 false (seqS (ifS (isB (b2 dEq (vw 1) (cst (.int 0))))
  (seqS (retS (eTup aN))
  (nilS []))
  (nilS []))
  (seqS (forS (itR3 (bA aMin3 (aC (vw 1) (aC (vw 2) (aC (vw 3) aN)))) (b2 dSub (b2 dIx (vw 0) (cst (.int 2))) (cst (.int 1))) (b1 dNeg (cst (.int 1)))) (gN 4)
  (b_first_ending_1 (m_first_ending k)))
  (seqS (retS (cst .non))
  (nilS []))))
def b_next_by_gaps_1 : SF := (seqS (setD 5 (callE (m_first_ending 60) (aC (vr 0) (aC (b2 dSub (vw 3) (vw 4)) (aC (vr 4) (aC (vr 4) aN))))))
  (seqS (ifS (isB (b2 dNotN (vw 5) (cst .non)))
  (seqS (retS (b2 dAdd (eTup (aC (vr 4) aN)) (vw 5)))
  (nilS []))
  (nilS []))
  (nilS [4, 5])))
def b_next_by_gaps_2 : SF := (seqS (setD 3 (bA aSum (aC (slE dSl (vw 1) (oS (vw 2)) oN) aN)))
  (seqS (ifS (isB (b2 dEq (vw 2) (cst (.int 0))))
  (seqS (forS (itR3 (b2 dSub (b2 dIx (vw 1) (cst (.int 0))) (cst (.int 1))) (b2 dSub (b2 dIx (vw 0) (cst (.int 2))) (cst (.int 1))) (b1 dNeg (cst (.int 1)))) (gN 4)
  b_next_by_gaps_1)
  (nilS [4, 5]))
  (seqS (setD 5 (callE (m_first_ending 60) (aC (vr 0) (aC (vr 3) (aC (b2 dIx (vw 1) (b2 dSub (vw 2) (cst (.int 1)))) (aC (b2 dSub (b2 dIx (vw 1) (vw 2)) (cst (.int 1))) aN))))))
  (seqS (ifS (isB (b2 dNotN (vw 5) (cst .non)))
  (seqS (retS (b2 dAdd (slE dSl (vw 1) oN (oS (vw 2))) (vw 5)))
  (nilS []))
  (nilS []))
  (nilS [5]))))
  (nilS [2, 3, 4, 5])))
def m_next_by_gaps : List D → M D := runS 6 2 false (seqS (forS (itR3 (b2 dSub (bA aLen (aC (vw 1) aN)) (cst (.int 1))) (b1 dNeg (cst (.int 1))) (b1 dNeg (cst (.int 1)))) (gN 2)
  b_next_by_gaps_2)
  (seqS (retS (cst .non))
  (nilS [])))
def m__law_pick : List D → M D := runS 2 2 false (seqS (retS (b2 dIx (vw 1) (callE drawM (aC (vr 0) (aC (bA aLen (aC (vw 1) aN)) aN)))))
  (nilS []))
def c__law_eq_1 (r : List D → M D) : EF := (lcE (itR1 (bA aLen (aC (vw 1) aN))) (gN 2) (notB (truB (callE r (aC (b2 dIx (vw 0) (vw 2)) (aC (b2 dIx (vw 1) (vw 2)) aN))))) (vr 2) [2])
def m__law_eq : Nat → List D → M D
  | 0 => fun _ _ => none
  | k + 1 => runS 3 2 false (seqS (ifS (orB (truB (b1 (isiD "list") (vw 1))) (truB (b1 (isiD "tuple") (vw 1))))
  (seqS (ifS (orB (isB (b2 dNe (b1 (isiD "list") (vw 0)) (b1 (isiD "list") (vw 1)))) (isB (b2 dNe (b1 (isiD "tuple") (vw 0)) (b1 (isiD "tuple") (vw 1)))))
  (seqS (retS (cst (.bl false)))
  (nilS []))
  (nilS []))
  (seqS (ifS (isB (b2 dNe (bA aLen (aC (vw 0) aN)) (bA aLen (aC (vw 1) aN))))
  (seqS (retS (cst (.bl false)))
  (nilS []))
  (nilS []))
  (seqS (retS (b2 dEq (c__law_eq_1 (m__law_eq k)) (eLst aN)))
  (nilS []))))
  (nilS []))
  (seqS (ifS (isB (b2 dIsN (vw 1) (cst .non)))
  (seqS (retS (b2 dIsN (vw 0) (cst .non)))
  (nilS []))
  (nilS []))
  (seqS (ifS (truB (b1 (isiD "str") (vw 1)))
  (seqS (retS (andV (b1 (isiD "str") (vw 0)) (b2 dEq (vw 0) (vw 1))))
  (nilS []))
  (nilS []))
  (seqS (ifS (truB (b1 (isiD "bool") (vw 1)))
  (seqS (retS (andV (b1 (isiD "bool") (vw 0)) (b2 dEq (vw 0) (vw 1))))
  (nilS []))
  (nilS []))
  (seqS (retS (andV (b1 (isiD "int") (vw 0)) (andV (notV (b1 (isiD "bool") (vw 0))) (b2 dEq (vw 0) (vw 1)))))
  (nilS []))))))
def c__law_partitions_1 (r : List D → M D) : EF := (lcE (itS (callE r (aC (b2 dSub (vw 0) (vw 3)) (aC (vr 3) aN)))) (gN 4) yesB (b2 dAdd (eTup (aC (vr 3) aN)) (vw 4)) [4])
def b__law_partitions_1 (r : List D → M D) : SF := (seqS (setD 2 (b2 dAdd (vw 2) (c__law_partitions_1 r)))
  (nilS [3]))
def m__law_partitions : Nat → List D → M D
  | 0 => fun _ _ => none
  | k + 1 => runS 5 2 false (seqS (ifS (isB (b2 dEq (vw 0) (cst (.int 0))))
  (seqS (retS (eLst (aC (eTup aN) aN)))
  (nilS []))
  (nilS []))
  (seqS (setD 2 (eLst aN))
  (seqS (forS (itR3 (bA aMin (aC (vw 0) (aC (vw 1) aN))) (cst (.int 0)) (b1 dNeg (cst (.int 1)))) (gN 3)
  (b__law_partitions_1 (m__law_partitions k)))
  (seqS (retS (vr 2))
  (nilS [])))))
def b__law_drawn_1 : SF := (seqS (setD 4 (b2 dAdd (cst (.int 1)) (callE drawM (aC (vr 0) (aC (bA aMin (aC (vw 3) (aC (ifE (isB (b2 dNe (vw 2) (eLst aN))) (b2 dIx (vw 2) (b1 dNeg (cst (.int 1)))) (vr 3)) aN))) aN)))))
  (seqS (appS 2 (vr 4))
  (seqS (setD 3 (b2 dSub (vw 3) (vw 4)))
  (nilS [4]))))
def m__law_drawn : List D → M D := runS 5 2 false (seqS (setO 2 (eLst aN))
  (seqS (setD 3 (vr 1))
  (seqS (whS (isB (b2 dGt (vw 3) (cst (.int 0))))
  b__law_drawn_1)
  (seqS (retS (bA aTuple (aC (vw 2) aN)))
  (nilS [])))))
def c__law_gaps_1 : EF := (lcE (itR1 (vw 2)) (gN 5) yesB (ifE (isB (b2 dGt (callE drawM (aC (vr 0) (aC (cst (.int 4)) aN))) (cst (.int 0)))) (b2 dSub (callE drawM (aC (vr 0) (aC (b2 dAdd (vw 1) (cst (.int 2))) aN))) (cst (.int 1))) (callE drawM (aC (vr 0) (aC (cst (.int 2)) aN)))) [5])
def b__law_gaps_1 : SF := (seqS (appS 3 (bA aTuple (aC c__law_gaps_1 aN)))
  (nilS [4]))
def m__law_gaps : List D → M D := runS 6 2 false (seqS (setD 2 (b2 dAdd (cst (.int 1)) (callE drawM (aC (vr 0) (aC (callE m__law_pick (aC (vr 0) (aC (eLst (aC (cst (.int 2)) (aC (cst (.int 4)) (aC (cst (.int 6)) aN)))) aN))) aN)))))
  (seqS (setO 3 (eLst aN))
  (seqS (forS (itR1 (vw 2)) (gN 4)
  b__law_gaps_1)
  (seqS (retS (eTup (aC (vr 2) (aC (bA aTuple (aC (vw 3) aN)) (aC (b2 dAdd (cst (.int 1)) (callE drawM (aC (vr 0) (aC (cst (.int 4)) aN)))) aN)))))
  (nilS [])))))
def m__law_stands : List D → M D := runS 4 3 false (seqS (setD 3 (b2 dIx (b2 dIx (b2 dIx (vw 0) (cst (.int 1))) (b2 dMod (bA aInt (aC (vw 1) aN)) (b2 dIx (vw 0) (cst (.int 0))))) (b2 dMod (bA aInt (aC (vw 2) aN)) (b2 dIx (vw 0) (cst (.int 0))))))
  (seqS (retS (andV (b2 dGe (vw 3) (cst (.int 0))) (b2 dGe (b2 dSub (vw 1) (vw 2)) (vw 3))))
  (nilS [])))
def c__law_keeps_1 : EF := (lcE (itR1 (b2 dSub (bA aLen (aC (vw 1) aN)) (cst (.int 1)))) (gN 2) (notB (truB (callE m__law_stands (aC (vr 0) (aC (b2 dIx (vw 1) (vw 2)) (aC (b2 dIx (vw 1) (b2 dAdd (vw 2) (cst (.int 1)))) aN)))))) (vr 2) [2])
def m__law_keeps : List D → M D := runS 3 2 false (seqS (ifS (andB (isB (b2 dNe (vw 1) (eTup aN))) (isB (b2 dLt (b2 dIx (vw 1) (b1 dNeg (cst (.int 1)))) (b2 dIx (vw 0) (cst (.int 2))))))
  (seqS (retS (cst (.bl false)))
  (nilS []))
  (nilS []))
  (seqS (retS (b2 dEq c__law_keeps_1 (eLst aN)))
  (nilS [])))
def c__law_break_1 : EF := (lcE (itR1 (b2 dSub (bA aLen (aC (vw 1) aN)) (cst (.int 1)))) (gN 3) (notB (truB (callE m__law_stands (aC (vr 0) (aC (b2 dIx (vw 1) (vw 3)) (aC (b2 dIx (vw 1) (b2 dAdd (vw 3) (cst (.int 1)))) aN)))))) (vr 3) [3])
def m__law_break : List D → M D := runS 4 2 false (seqS (setD 2 c__law_break_1)
  (seqS (ifS (isB (b2 dNe (vw 2) (eLst aN)))
  (seqS (retS (b2 dIx (vw 2) (cst (.int 0))))
  (nilS []))
  (nilS []))
  (seqS (retS (ifE (andB (isB (b2 dNe (vw 1) (eTup aN))) (isB (b2 dLt (b2 dIx (vw 1) (b1 dNeg (cst (.int 1)))) (b2 dIx (vw 0) (cst (.int 2)))))) (b2 dSub (bA aLen (aC (vw 1) aN)) (cst (.int 1))) (cst .non)))
  (nilS []))))
def c_law_1 : EF := (lcE (itS (vr 5)) (gN 8) (truB (callE m__law_keeps (aC (vr 3) (aC (vr 8) aN)))) (vr 8) [8])
def b_law_1 : SF := (seqS (setD 8 (ifE (isB (b2 dLt (vw 7) (cst (.int 4)))) (callE m__law_pick (aC (vr 1) (aC (vr 5) aN))) (callE m__law_drawn (aC (vr 1) (aC (b2 dAdd (cst (.int 1)) (callE drawM (aC (vr 1) (aC (cst (.int 30)) aN)))) aN)))))
  (seqS (ifS (orB (notB (truB (callE (m__law_eq 60) (aC (callE m_keeps_gaps (aC (vr 3) (aC (vr 8) aN))) (aC (callE m__law_keeps (aC (vr 3) (aC (vr 8) aN))) aN))))) (notB (truB (callE (m__law_eq 60) (aC (callE m_first_break (aC (vr 3) (aC (vr 8) aN))) (aC (callE m__law_break (aC (vr 3) (aC (vr 8) aN))) aN))))))
  (seqS (retS (cst (.bl false)))
  (nilS []))
  (nilS []))
  (nilS [7, 8])))
def b_law_2 : SF := (seqS (setD 3 (callE m__law_pick (aC (vr 1) (aC (eLst (aC (callE m__law_gaps (aC (vr 1) (aC (cst (.int 5)) aN))) (aC (callE m__law_gaps (aC (vr 1) (aC (cst (.int 3)) aN))) (aC (eTup (aC (cst (.int 1)) (aC (eTup (aC (eTup (aC (cst (.int 2)) aN)) aN)) (aC (cst (.int 1)) aN)))) (aC (eTup (aC (cst (.int 2)) (aC (eTup (aC (eTup (aC (cst (.int 0)) (aC (cst (.int 2)) aN))) (aC (eTup (aC (cst (.int 2)) (aC (cst (.int 0)) aN))) aN))) (aC (cst (.int 2)) aN)))) aN))))) aN))))
  (seqS (setD 4 (callE drawM (aC (vr 1) (aC (cst (.int 19)) aN))))
  (seqS (setD 5 (callE (m__law_partitions 60) (aC (vr 4) (aC (vr 4) aN))))
  (seqS (setD 6 c_law_1)
  (seqS (ifS (notB (truB (callE (m__law_eq 60) (aC (callE m_partitions_by_gaps (aC (vr 3) (aC (vr 4) aN))) (aC (vr 6) aN)))))
  (seqS (retS (cst (.bl false)))
  (nilS []))
  (nilS []))
  (seqS (forS (itR1 (cst (.int 6))) (gN 7)
  b_law_1)
  (seqS (ifS (andB (isB (b2 dNe (vw 6) (eLst aN))) (isB (b2 dGt (vw 4) (cst (.int 0)))))
  (seqS (setD 9 (callE drawM (aC (vr 1) (aC (bA aLen (aC (vw 6) aN)) aN))))
  (seqS (setD 10 (ifE (isB (b2 dLt (b2 dAdd (vw 9) (cst (.int 1))) (bA aLen (aC (vw 6) aN)))) (b2 dIx (vw 6) (b2 dAdd (vw 9) (cst (.int 1)))) (cst .non)))
  (seqS (ifS (orB (notB (truB (callE (m__law_eq 60) (aC (callE m_next_by_gaps (aC (vr 3) (aC (b2 dIx (vw 6) (vw 9)) aN))) (aC (vr 10) aN))))) (notB (truB (callE (m__law_eq 60) (aC (callE m_next_by_gaps (aC (vr 3) (aC (b2 dIx (vw 6) (b1 dNeg (cst (.int 1)))) aN))) (aC (cst .non) aN))))))
  (seqS (retS (cst (.bl false)))
  (nilS []))
  (nilS []))
  (nilS [9, 10]))))
  (nilS []))
  (nilS [2, 3, 4, 5, 6, 7, 8, 9, 10]))))))))
def m_law : SF := (seqS (forS (itR1 (cst (.int 3))) (gN 2)
  b_law_2)
  (seqS (retS (andV (callE (m__law_eq 60) (aC (callE m_partitions_by_gaps (aC (eTup (aC (cst (.int 1)) (aC (eTup (aC (eTup (aC (cst (.int 2)) aN)) aN)) (aC (cst (.int 1)) aN)))) (aC (cst (.int 0)) aN))) (aC (eLst (aC (eTup aN) aN)) aN))) (callE (m__law_eq 60) (aC (callE m_keeps_gaps (aC (eTup (aC (cst (.int 1)) (aC (eTup (aC (eTup (aC (cst (.int 2)) aN)) aN)) (aC (cst (.int 3)) aN)))) (aC (eTup aN) aN))) (aC (cst (.bl true)) aN)))))
  (nilS [])))
def m_start : FL.Env := .un :: .d .tok :: List.replicate 9 .un
end K35
end
section
set_option maxHeartbeats 1000000
namespace K35
open PySem PySem.Spec PyProof.Rows L2 FL Lb P35
open P54 (downN parts mem_downN)
/-- a loop that ends with the first answer -/
def outO (E : FL.Env) : Option D → Out
  | some d => .rt false d
  | none => .nx E
theorem loopRet {α : Type} {it : AF} {b : GF} {body : SF} (E : FL.Env) (l : List α) (enc : α → D) (f : α → Option D) (hit : it E = ret (l.map enc)) (hb : ∀ a ∈ l, ∃ ρ1, b (enc a) E = some ρ1 ∧ body ρ1 = ret (outO E (f a))) : forS it b body E = ret (outO E (l.findSome? f)) := by
  unfold FL.forS
  rw [hit, bnd_r]
  have main : ∀ r : List α, (∀ a ∈ r, a ∈ l) → forL b body (r.map enc) E = ret (outO E (r.findSome? f)) := by
    intro r
    induction r with
    | nil => intro _; rfl
    | cons a r ih =>
      intro h
      obtain ⟨ρ1, e1, e2⟩ := hb a (h a (by simp))
      rw [List.map_cons, forL_cons, e1, opt_s, bnd_r, e2, bnd_r, List.findSome?_cons]
      cases hf : f a with
      | some d => rfl
      | none => exact ih fun x hx => h x (by simp [hx])
  exact main l fun _ h => h
/-! ranges that fall -/
theorem upC_rng (a : Int) : ∀ n : Nat, upC (a + n - 1) (-1) n = (rng a n).reverse.map .int
  | 0 => rfl
  | n + 1 => by
    rw [rng_snoc, List.reverse_append, upC, show a + ((n + 1 : Nat) : Int) - 1 = a + n by omega, show a + (n : Int) + -1 = a + n - 1 by omega, upC_rng a n]; rfl
theorem rg3_g {v : Int} {n a : Nat} (hv : v + 1 = n) (hn : n < 100000) (ha : a < 100000) : rg3 (.int v) (.int ((a : Int) - 1)) (.int (-1)) = some ((rng a (n - a)).reverse.map .int) := by
  have hsz : Builtin.Range.rangeSize v ((a : Int) - 1) (-1) = ((n - a : Nat) : Int) := by
    unfold Builtin.Range.rangeSize
    rw [if_neg (by decide)]
    by_cases h : a < n
    · rw [if_pos (by omega)]
      show (v - ((a : Int) - 1) - 1) / 1 + 1 = _
      rw [Int.ediv_one]; omega
    · rw [if_neg (by omega)]; omega
  have hok : rgcOk v ((a : Int) - 1) (-1) = true := by
    unfold rgcOk
    rw [hsz, Int.toNat_natCast]
    have hs : Builtin.Range.small v ((a : Int) - 1) (-1) = true := by
      unfold Builtin.Range.small
      rw [hsz]
      simp only [Builtin.Range.rangeFitsLong, Bool.and_eq_true, Bool.or_eq_true, decide_eq_true_eq, beq_iff_eq, show ¬ ((-1 : Int) > 0) by decide, if_false]
      omega
    rw [hs, decide_eq_true rfl]
    rfl
  show (if rgcOk v ((a : Int) - 1) (-1) = true then some (upC v (-1) (Builtin.Range.rangeSize v ((a : Int) - 1) (-1)).toNat) else none) = _
  rw [if_pos hok, hsz, Int.toNat_natCast, ← upC_rng]
  by_cases h : a < n
  · rw [show (a : Int) + ((n - a : Nat) : Int) - 1 = v by omega]
  · rw [show n - a = 0 by omega]; rfl
def dnl (n l : Nat) : List Nat := (downN n).filter fun y => decide ((l : Int) ≤ y)
theorem dnl_rng {a : Nat} (ha : 1 ≤ a) : ∀ n, (rng a (n + 1 - a)).reverse = (dnl n a).map fun y : Nat => (y : Int)
  | 0 => by rw [show 0 + 1 - a = 0 by omega]; rfl
  | n + 1 => by
    unfold dnl
    rw [downN, List.filter_cons]
    by_cases h : a ≤ n + 1
    · rw [if_pos (by simp; omega), List.map_cons, show n + 1 + 1 - a = (n + 1 - a) + 1 by omega, rng_snoc, List.reverse_append, dnl_rng ha n, show (a : Int) + ((n + 1 - a : Nat) : Int) = ((n + 1 : Nat) : Int) by omega]
      rfl
    · rw [if_neg (by simp; omega)]
      have := dnl_rng ha n
      rw [show n + 1 - a = 0 by omega] at this
      rw [show n + 1 + 1 - a = 0 by omega]
      exact this
theorem rg3_dnl {n a : Nat} (hn : n < 10000) (h1 : 1 ≤ a) (ha : a < 10000) : rg3 (.int (n : Int)) (.int ((a : Int) - 1)) (.int (-1)) = some ((dnl n a).map fun y : Nat => D.int (y : Int)) := by
  rw [rg3_g (n := n + 1) (by omega) (by omega) (by omega), dnl_rng h1, List.map_map]; rfl
theorem dnl_flat {β : Type} (l : Nat) (f : Nat → List β) (n : Nat) : (dnl n l).flatMap f = (downN n).flatMap fun y : Nat => if decide ((l : Int) ≤ (y : Int)) = true then f y else [] := by
  unfold dnl
  generalize downN n = L
  induction L with
  | nil => rfl
  | cons a L ih =>
    rw [List.filter_cons, List.flatMap_cons]
    by_cases c : decide ((l : Int) ≤ a) = true
    · rw [if_pos c, if_pos c, List.flatMap_cons, ih]
    · rw [if_neg c, if_neg c, ih]; rfl
theorem mem_dnl {n l y : Nat} (h : y ∈ dnl n l) : 1 ≤ y ∧ y ≤ n ∧ l ≤ y := by
  unfold dnl at h
  rw [List.mem_filter] at h
  have := mem_downN.mp h.1
  have h2 := h.2
  simp at h2
  omega
/-! rules -/
def rE (R : Ru) : D := .tup [.int (R.m : Int), .tup (R.g.map T), .int (R.l : Int)]
structure Wf (R : Ru) : Prop where
  m1 : 1 ≤ R.m
  m2 : R.m ≤ 100
  gl : R.g.length = R.m
  rl : ∀ r ∈ R.g, r.length = R.m
  l1 : 1 ≤ R.l
  l2 : R.l ≤ 100
theorem gap_ix {R : Ru} (h : Wf R) (x y : Int) : ∃ d, dIx (.tup (R.g.map T)) (.int (x % (R.m : Int))) = some d ∧ dIx d (.int (y % (R.m : Int))) = some (.int (R.gap x y)) := by
  have hm : (0 : Int) < (R.m : Int) := by have := h.m1; omega
  have a1 := Int.emod_nonneg x (show (R.m : Int) ≠ 0 by omega)
  have a2 := Int.emod_lt_of_pos x hm
  have b1' := Int.emod_nonneg y (show (R.m : Int) ≠ 0 by omega)
  have b2' := Int.emod_lt_of_pos y hm
  have hi : (x % (R.m : Int)).toNat < R.g.length := by rw [h.gl]; omega
  refine ⟨T (R.g.getD (x % (R.m : Int)).toNat []), ?_, ?_⟩
  · have := ixDt (ds := R.g.map T) (k := (x % (R.m : Int)).toNat) (d := T (R.g.getD (x % (R.m : Int)).toNat [])) (by rw [List.getElem?_map, List.getElem?_eq_getElem hi, List.getD_eq_getElem?_getD, List.getElem?_eq_getElem hi]; rfl)
    rw [Int.toNat_of_nonneg a1] at this
    exact this
  · have hr : (R.g.getD (x % (R.m : Int)).toNat []).length = R.m := by
      rw [List.getD_eq_getElem?_getD, List.getElem?_eq_getElem hi]
      exact h.rl _ (List.getElem_mem hi)
    have := ixT (p := R.g.getD (x % (R.m : Int)).toNat []) (k := (y % (R.m : Int)).toNat) (by rw [hr]; omega)
    rw [Int.toNat_of_nonneg b1'] at this
    exact this
theorem may_eq {R : Ru} (h : Wf R) (x y : Int) : m_may_stand [rE R, .int x, .int y] = ret (.bl (R.st x y)) := by
  unfold m_may_stand
  have hm : (0 : Int) < (R.m : Int) := by have := h.m1; omega
  obtain ⟨d, e1, e2⟩ := gap_ix h x y
  have e0 : asgS (vr 0) (gT (gsC (gN 3) (gsC (gN 4) (gsC (gN 5) gsN)))) [.d (rE R), .d (.int x), .d (.int y), .un, .un, .un, .un] = ret (.nx [.d (rE R), .d (.int x), .d (.int y), .d (.int (R.m : Int)), .d (.tup (R.g.map T)), .d (.int (R.l : Int)), .un]) := rfl
  unfold Ru.st
  by_cases c : 0 ≤ R.gap x y
  · simp only [run_r, seq_r, cont_nx, cont_rt, cont_bk, cont_ct, if_r, sel_t, sel_f, ife_r, sele_t, sele_f, and_r, or_r, sela_t, sela_f, selo_t, selo_f, out_rt, out_rtO, out_nx, setD, setO, retS, retO, retV, retN, nilS, fgt, isB, truB, truD, notB, orV, andV, notV, b1, b2, bA, aC, aN, vr, vw, cst, nth, sset, bnd_r, opt_s, cond_true, cond_false, eTup_0, eTup_1, eTup_2, eTup_3, eLst_0, eLst_1, eLst_2, eLst_3, callE, mkE, List.replicate_succ, List.replicate_zero, List.length_cons, List.length_nil, List.length_map, if_true, if_false, Nat.reduceAdd, Nat.reduceSub, Bool.false_and, Bool.and_true, Bool.true_and, Bool.and_false, Bool.not_true, Bool.not_false, Bool.true_or, Bool.or_true, Bool.false_or, Bool.or_false, reduceIte, Bool.false_eq_true, dGt, dLt, dGe, dLe, dCmp, dSub, dNeg, aLen, seqD_tup, seqD_lst, seqD_T, Option.map_some, dIsN, dNotN, isNonD_non, isNonD_bl, isNonD_int, isNonD_str, isNonD_tup, isNonD_lst, isNonD_T, forL_nil, forL_cons, loop_nx, loop_ct, loop_bk, loop_rt, frzS, frzE, appS, parS, e0, dMod_p hm, e1, e2, c, decide_true]
  · simp only [run_r, seq_r, cont_nx, cont_rt, cont_bk, cont_ct, if_r, sel_t, sel_f, ife_r, sele_t, sele_f, and_r, or_r, sela_t, sela_f, selo_t, selo_f, out_rt, out_rtO, out_nx, setD, setO, retS, retO, retV, retN, nilS, fgt, isB, truB, truD, notB, orV, andV, notV, b1, b2, bA, aC, aN, vr, vw, cst, nth, sset, bnd_r, opt_s, cond_true, cond_false, eTup_0, eTup_1, eTup_2, eTup_3, eLst_0, eLst_1, eLst_2, eLst_3, callE, mkE, List.replicate_succ, List.replicate_zero, List.length_cons, List.length_nil, List.length_map, if_true, if_false, Nat.reduceAdd, Nat.reduceSub, Bool.false_and, Bool.and_true, Bool.true_and, Bool.and_false, Bool.not_true, Bool.not_false, Bool.true_or, Bool.or_true, Bool.false_or, Bool.or_false, reduceIte, Bool.false_eq_true, dGt, dLt, dGe, dLe, dCmp, dSub, dNeg, aLen, seqD_tup, seqD_lst, seqD_T, Option.map_some, dIsN, dNotN, isNonD_non, isNonD_bl, isNonD_int, isNonD_str, isNonD_tup, isNonD_lst, isNonD_T, forL_nil, forL_cons, loop_nx, loop_ct, loop_bk, loop_rt, frzS, frzE, appS, parS, e0, dMod_p hm, e1, e2, c, decide_false]
theorem rE_2 (R : Ru) : dIx (rE R) (.int 2) = some (.int (R.l : Int)) := ixDt (k := 2) rfl
theorem rE_0 (R : Ru) : dIx (rE R) (.int 0) = some (.int (R.m : Int)) := ixDt (k := 0) rfl
theorem rE_1 (R : Ru) : dIx (rE R) (.int 1) = some (.tup (R.g.map T)) := ixDt (k := 1) rfl
theorem lst_eq {R : Ru} (h : Wf R) (x y : Int) : m__law_stands [rE R, .int x, .int y] = ret (.bl (R.st x y)) := by
  unfold m__law_stands
  have hm : (0 : Int) < (R.m : Int) := by have := h.m1; omega
  obtain ⟨d, e1, e2⟩ := gap_ix h x y
  unfold Ru.st
  by_cases c : 0 ≤ R.gap x y
  · simp only [run_r, seq_r, cont_nx, cont_rt, cont_bk, cont_ct, if_r, sel_t, sel_f, ife_r, sele_t, sele_f, and_r, or_r, sela_t, sela_f, selo_t, selo_f, out_rt, out_rtO, out_nx, setD, setO, retS, retO, retV, retN, nilS, fgt, isB, truB, truD, notB, orV, andV, notV, b1, b2, bA, aC, aN, vr, vw, cst, nth, sset, bnd_r, opt_s, cond_true, cond_false, eTup_0, eTup_1, eTup_2, eTup_3, eLst_0, eLst_1, eLst_2, eLst_3, callE, mkE, List.replicate_succ, List.replicate_zero, List.length_cons, List.length_nil, List.length_map, if_true, if_false, Nat.reduceAdd, Nat.reduceSub, Bool.false_and, Bool.and_true, Bool.true_and, Bool.and_false, Bool.not_true, Bool.not_false, Bool.true_or, Bool.or_true, Bool.false_or, Bool.or_false, reduceIte, Bool.false_eq_true, dGt, dLt, dGe, dLe, dCmp, dSub, dNeg, aLen, seqD_tup, seqD_lst, seqD_T, Option.map_some, dIsN, dNotN, isNonD_non, isNonD_bl, isNonD_int, isNonD_str, isNonD_tup, isNonD_lst, isNonD_T, forL_nil, forL_cons, loop_nx, loop_ct, loop_bk, loop_rt, frzS, frzE, appS, parS, rE_1, rE_0, aInt_i, dMod_p hm, e1, e2, c, decide_true]
  · simp only [run_r, seq_r, cont_nx, cont_rt, cont_bk, cont_ct, if_r, sel_t, sel_f, ife_r, sele_t, sele_f, and_r, or_r, sela_t, sela_f, selo_t, selo_f, out_rt, out_rtO, out_nx, setD, setO, retS, retO, retV, retN, nilS, fgt, isB, truB, truD, notB, orV, andV, notV, b1, b2, bA, aC, aN, vr, vw, cst, nth, sset, bnd_r, opt_s, cond_true, cond_false, eTup_0, eTup_1, eTup_2, eTup_3, eLst_0, eLst_1, eLst_2, eLst_3, callE, mkE, List.replicate_succ, List.replicate_zero, List.length_cons, List.length_nil, List.length_map, if_true, if_false, Nat.reduceAdd, Nat.reduceSub, Bool.false_and, Bool.and_true, Bool.true_and, Bool.and_false, Bool.not_true, Bool.not_false, Bool.true_or, Bool.or_true, Bool.false_or, Bool.or_false, reduceIte, Bool.false_eq_true, dGt, dLt, dGe, dLe, dCmp, dSub, dNeg, aLen, seqD_tup, seqD_lst, seqD_T, Option.map_some, dIsN, dNotN, isNonD_non, isNonD_bl, isNonD_int, isNonD_str, isNonD_tup, isNonD_lst, isNonD_T, forL_nil, forL_cons, loop_nx, loop_ct, loop_bk, loop_rt, frzS, frzE, appS, parS, rE_1, rE_0, aInt_i, dMod_p hm, e1, e2, c, decide_false]
/-! all endings -/
theorem EN_len {R : Ru} {n x : Nat} (hn : n ≤ 18) : (EN R n x).length ≤ 262144 := by
  unfold EN
  refine Nat.le_trans (List.length_filter_le _ _) (Nat.le_trans (P54.parts_len _ _ _) ?_)
  exact Nat.pow_le_pow_right (n := 2) (by decide) hn
theorem EN_plen {R : Ru} {n x : Nat} {p : List Int} (h : p ∈ EN R n x) : p.length ≤ n := by
  obtain ⟨h1, h2⟩ := EN_pos h
  have := h1.sum_ge
  omega
theorem endings_eq {R : Ru} (h : Wf R) : ∀ k n x : Nat, n < k → n ≤ 18 → x ≤ 1000 → m_endings k [rE R, .int (n : Int), .int (x : Int)] = ret (.lst ((EN R n x).map T))
  | 0, n, x, hk, _, _ => by omega
  | k + 1, n, x, hk, hn, hx => by
    unfold m_endings
    by_cases h0 : n = 0
    · subst h0
      have e : (EN R 0 x).map T = [.tup []] := rfl
      simp only [run_r, seq_r, cont_nx, cont_rt, cont_bk, cont_ct, if_r, sel_t, sel_f, ife_r, sele_t, sele_f, and_r, or_r, sela_t, sela_f, selo_t, selo_f, out_rt, out_rtO, out_nx, setD, setO, retS, retO, retV, retN, nilS, fgt, isB, truB, truD, notB, orV, andV, notV, b1, b2, bA, aC, aN, vr, vw, cst, nth, sset, bnd_r, opt_s, cond_true, cond_false, eTup_0, eTup_1, eTup_2, eTup_3, eLst_0, eLst_1, eLst_2, eLst_3, callE, mkE, List.replicate_succ, List.replicate_zero, List.length_cons, List.length_nil, List.length_map, if_true, if_false, Nat.reduceAdd, Nat.reduceSub, Bool.false_and, Bool.and_true, Bool.true_and, Bool.and_false, Bool.not_true, Bool.not_false, Bool.true_or, Bool.or_true, Bool.false_or, Bool.or_false, reduceIte, Bool.false_eq_true, dGt, dLt, dGe, dLe, dCmp, dSub, dNeg, aLen, seqD_tup, seqD_lst, seqD_T, Option.map_some, dIsN, dNotN, isNonD_non, isNonD_bl, isNonD_int, isNonD_str, isNonD_tup, isNonD_lst, isNonD_T, forL_nil, forL_cons, loop_nx, loop_ct, loop_bk, loop_rt, frzS, frzE, appS, parS, dEq_int, Int.natCast_zero, decide_true, e]
    · have hz : ¬ (n : Int) = 0 := by omega
      have hl1 := h.l1
      have hl2 := h.l2
      have hflat : (dnl (min n x) R.l).flatMap (fun y : Nat => if R.st x y = true then (EN R (n - y) y).map ((y : Int) :: ·) else []) = EN R n x := by
        rw [EN_rec R h0, dnl_flat]
        refine P55.fm_congr fun y hy => ?_
        unfold blk
        by_cases c1 : decide ((R.l : Int) ≤ y) = true
        · rw [c1, if_pos rfl, Bool.true_and]
        · rw [if_neg c1, show decide ((R.l : Int) ≤ y) = false by simpa using c1, Bool.false_and, if_neg (by decide)]
      have loop := loopAcc (it := itR3 (bA aMin (aC (vw 1) (aC (vw 2) aN))) (b2 dSub (b2 dIx (vw 0) (cst (.int 2))) (cst (.int 1))) (b1 dNeg (cst (.int 1)))) (b := gN 4) (body := b_endings_1 (m_endings k)) (fun acc : List (List Int) => [.d (rE R), .d (.int (n : Int)), .d (.int (x : Int)), .d (.lst (acc.map T)), .un, .un]) (dnl (min n x) R.l) (fun y : Nat => D.int (y : Int)) (fun y : Nat => if R.st x y = true then (EN R (n - y) y).map ((y : Int) :: ·) else [])
        (by simp only [itR3, run_r, seq_r, cont_nx, cont_rt, cont_bk, cont_ct, if_r, sel_t, sel_f, ife_r, sele_t, sele_f, and_r, or_r, sela_t, sela_f, selo_t, selo_f, out_rt, out_rtO, out_nx, setD, setO, retS, retO, retV, retN, nilS, fgt, isB, truB, truD, notB, orV, andV, notV, b1, b2, bA, aC, aN, vr, vw, cst, nth, sset, bnd_r, opt_s, cond_true, cond_false, eTup_0, eTup_1, eTup_2, eTup_3, eLst_0, eLst_1, eLst_2, eLst_3, callE, mkE, List.replicate_succ, List.replicate_zero, List.length_cons, List.length_nil, List.length_map, if_true, if_false, Nat.reduceAdd, Nat.reduceSub, Bool.false_and, Bool.and_true, Bool.true_and, Bool.and_false, Bool.not_true, Bool.not_false, Bool.true_or, Bool.or_true, Bool.false_or, Bool.or_false, reduceIte, Bool.false_eq_true, dGt, dLt, dGe, dLe, dCmp, dSub, dNeg, aLen, seqD_tup, seqD_lst, seqD_T, Option.map_some, dIsN, dNotN, isNonD_non, isNonD_bl, isNonD_int, isNonD_str, isNonD_tup, isNonD_lst, isNonD_T, forL_nil, forL_cons, loop_nx, loop_ct, loop_bk, loop_rt, frzS, frzE, appS, parS, K54.aMin_ii, min_int, rE_2, rg3_dnl (n := min n x) (by omega) hl1 (by omega)])
        (by rw [hflat]; have := EN_len (R := R) (n := n) (x := x) hn; omega)
        (fun y hy acc ha => by
          have hy' := mem_dnl hy
          refine ⟨_, rfl, ?_⟩
          have hms := may_eq h (x : Int) (y : Int)
          unfold b_endings_1
          by_cases c : R.st x y = true
          · have hc : ∀ s3 : SV, c_endings_1 (m_endings k) [.d (rE R), .d (.int (n : Int)), .d (.int (x : Int)), s3, .d (.int (y : Int)), .un] = ret (.lst (((EN R (n - y) y).map ((y : Int) :: ·)).map T)) := fun s3 => by
              have ih := endings_eq h k (n - y) y (by omega) (by omega) (by omega)
              rw [show ((n - y : Nat) : Int) = (n : Int) - (y : Int) by omega] at ih
              unfold c_endings_1
              rw [List.map_map]
              refine lcE_map T _ (EN R (n - y) y) (by simp only [itS, run_r, seq_r, cont_nx, cont_rt, cont_bk, cont_ct, if_r, sel_t, sel_f, ife_r, sele_t, sele_f, and_r, or_r, sela_t, sela_f, selo_t, selo_f, out_rt, out_rtO, out_nx, setD, setO, retS, retO, retV, retN, nilS, fgt, isB, truB, truD, notB, orV, andV, notV, b1, b2, bA, aC, aN, vr, vw, cst, nth, sset, bnd_r, opt_s, cond_true, cond_false, eTup_0, eTup_1, eTup_2, eTup_3, eLst_0, eLst_1, eLst_2, eLst_3, callE, mkE, List.replicate_succ, List.replicate_zero, List.length_cons, List.length_nil, List.length_map, if_true, if_false, Nat.reduceAdd, Nat.reduceSub, Bool.false_and, Bool.and_true, Bool.true_and, Bool.and_false, Bool.not_true, Bool.not_false, Bool.true_or, Bool.or_true, Bool.false_or, Bool.or_false, reduceIte, Bool.false_eq_true, dGt, dLt, dGe, dLe, dCmp, dSub, dNeg, aLen, seqD_tup, seqD_lst, seqD_T, Option.map_some, dIsN, dNotN, isNonD_non, isNonD_bl, isNonD_int, isNonD_str, isNonD_tup, isNonD_lst, isNonD_T, forL_nil, forL_cons, loop_nx, loop_ct, loop_bk, loop_rt, frzS, frzE, appS, parS, ih]) (by rw [sizeLine_eq]; have := EN_len (R := R) (n := n - y) (x := y) (by omega); omega) fun p hp => ⟨_, rfl, ?_⟩
              simp only [run_r, seq_r, cont_nx, cont_rt, cont_bk, cont_ct, if_r, sel_t, sel_f, ife_r, sele_t, sele_f, and_r, or_r, sela_t, sela_f, selo_t, selo_f, out_rt, out_rtO, out_nx, setD, setO, retS, retO, retV, retN, nilS, fgt, isB, truB, truD, notB, orV, andV, notV, b1, b2, bA, aC, aN, vr, vw, cst, nth, sset, bnd_r, opt_s, cond_true, cond_false, eTup_0, eTup_1, eTup_2, eTup_3, eLst_0, eLst_1, eLst_2, eLst_3, callE, mkE, List.replicate_succ, List.replicate_zero, List.length_cons, List.length_nil, List.length_map, if_true, if_false, Nat.reduceAdd, Nat.reduceSub, Bool.false_and, Bool.and_true, Bool.true_and, Bool.and_false, Bool.not_true, Bool.not_false, Bool.true_or, Bool.or_true, Bool.false_or, Bool.or_false, reduceIte, Bool.false_eq_true, dGt, dLt, dGe, dLe, dCmp, dSub, dNeg, aLen, seqD_tup, seqD_lst, seqD_T, Option.map_some, dIsN, dNotN, isNonD_non, isNonD_bl, isNonD_int, isNonD_str, isNonD_tup, isNonD_lst, isNonD_T, forL_nil, forL_cons, loop_nx, loop_ct, loop_bk, loop_rt, frzS, frzE, appS, parS, fgt, dAdd_1T (x := (y : Int)) (q := p) (by have := EN_plen hp; omega)]
              rfl
            rw [if_pos c, List.length_map] at ha
            simp only [run_r, seq_r, cont_nx, cont_rt, cont_bk, cont_ct, if_r, sel_t, sel_f, ife_r, sele_t, sele_f, and_r, or_r, sela_t, sela_f, selo_t, selo_f, out_rt, out_rtO, out_nx, setD, setO, retS, retO, retV, retN, nilS, fgt, isB, truB, truD, notB, orV, andV, notV, b1, b2, bA, aC, aN, vr, vw, cst, nth, sset, bnd_r, opt_s, cond_true, cond_false, eTup_0, eTup_1, eTup_2, eTup_3, eLst_0, eLst_1, eLst_2, eLst_3, callE, mkE, List.replicate_succ, List.replicate_zero, List.length_cons, List.length_nil, List.length_map, if_true, if_false, Nat.reduceAdd, Nat.reduceSub, Bool.false_and, Bool.and_true, Bool.true_and, Bool.and_false, Bool.not_true, Bool.not_false, Bool.true_or, Bool.or_true, Bool.false_or, Bool.or_false, reduceIte, Bool.false_eq_true, dGt, dLt, dGe, dLe, dCmp, dSub, dNeg, aLen, seqD_tup, seqD_lst, seqD_T, Option.map_some, dIsN, dNotN, isNonD_non, isNonD_bl, isNonD_int, isNonD_str, isNonD_tup, isNonD_lst, isNonD_T, forL_nil, forL_cons, loop_nx, loop_ct, loop_bk, loop_rt, frzS, frzE, appS, parS, hms, c, hc, dAdd_ll (xs := acc.map T) (ys := ((EN R (n - y) y).map ((y : Int) :: ·)).map T) (by rw [List.length_map, List.length_map, List.length_map]; omega), List.map_append]
          · have c' : R.st x y = false := by simpa using c
            simp only [run_r, seq_r, cont_nx, cont_rt, cont_bk, cont_ct, if_r, sel_t, sel_f, ife_r, sele_t, sele_f, and_r, or_r, sela_t, sela_f, selo_t, selo_f, out_rt, out_rtO, out_nx, setD, setO, retS, retO, retV, retN, nilS, fgt, isB, truB, truD, notB, orV, andV, notV, b1, b2, bA, aC, aN, vr, vw, cst, nth, sset, bnd_r, opt_s, cond_true, cond_false, eTup_0, eTup_1, eTup_2, eTup_3, eLst_0, eLst_1, eLst_2, eLst_3, callE, mkE, List.replicate_succ, List.replicate_zero, List.length_cons, List.length_nil, List.length_map, if_true, if_false, Nat.reduceAdd, Nat.reduceSub, Bool.false_and, Bool.and_true, Bool.true_and, Bool.and_false, Bool.not_true, Bool.not_false, Bool.true_or, Bool.or_true, Bool.false_or, Bool.or_false, reduceIte, Bool.false_eq_true, dGt, dLt, dGe, dLe, dCmp, dSub, dNeg, aLen, seqD_tup, seqD_lst, seqD_T, Option.map_some, dIsN, dNotN, isNonD_non, isNonD_bl, isNonD_int, isNonD_str, isNonD_tup, isNonD_lst, isNonD_T, forL_nil, forL_cons, loop_nx, loop_ct, loop_bk, loop_rt, frzS, frzE, appS, parS, hms, c', List.append_nil])
      rw [hflat] at loop
      simp only [run_r, seq_r, cont_nx, cont_rt, cont_bk, cont_ct, if_r, sel_t, sel_f, ife_r, sele_t, sele_f, and_r, or_r, sela_t, sela_f, selo_t, selo_f, out_rt, out_rtO, out_nx, setD, setO, retS, retO, retV, retN, nilS, fgt, isB, truB, truD, notB, orV, andV, notV, b1, b2, bA, aC, aN, vr, vw, cst, nth, sset, bnd_r, opt_s, cond_true, cond_false, eTup_0, eTup_1, eTup_2, eTup_3, eLst_0, eLst_1, eLst_2, eLst_3, callE, mkE, List.replicate_succ, List.replicate_zero, List.length_cons, List.length_nil, List.length_map, if_true, if_false, Nat.reduceAdd, Nat.reduceSub, Bool.false_and, Bool.and_true, Bool.true_and, Bool.and_false, Bool.not_true, Bool.not_false, Bool.true_or, Bool.or_true, Bool.false_or, Bool.or_false, reduceIte, Bool.false_eq_true, dGt, dLt, dGe, dLe, dCmp, dSub, dNeg, aLen, seqD_tup, seqD_lst, seqD_T, Option.map_some, dIsN, dNotN, isNonD_non, isNonD_bl, isNonD_int, isNonD_str, isNonD_tup, isNonD_lst, isNonD_T, forL_nil, forL_cons, loop_nx, loop_ct, loop_bk, loop_rt, frzS, frzE, appS, parS, dEq_int, hz, decide_false, List.map_nil] at loop ⊢
      simp only [run_r, seq_r, cont_nx, cont_rt, cont_bk, cont_ct, if_r, sel_t, sel_f, ife_r, sele_t, sele_f, and_r, or_r, sela_t, sela_f, selo_t, selo_f, out_rt, out_rtO, out_nx, setD, setO, retS, retO, retV, retN, nilS, fgt, isB, truB, truD, notB, orV, andV, notV, b1, b2, bA, aC, aN, vr, vw, cst, nth, sset, bnd_r, opt_s, cond_true, cond_false, eTup_0, eTup_1, eTup_2, eTup_3, eLst_0, eLst_1, eLst_2, eLst_3, callE, mkE, List.replicate_succ, List.replicate_zero, List.length_cons, List.length_nil, List.length_map, if_true, if_false, Nat.reduceAdd, Nat.reduceSub, Bool.false_and, Bool.and_true, Bool.true_and, Bool.and_false, Bool.not_true, Bool.not_false, Bool.true_or, Bool.or_true, Bool.false_or, Bool.or_false, reduceIte, Bool.false_eq_true, dGt, dLt, dGe, dLe, dCmp, dSub, dNeg, aLen, seqD_tup, seqD_lst, seqD_T, Option.map_some, dIsN, dNotN, isNonD_non, isNonD_bl, isNonD_int, isNonD_str, isNonD_tup, isNonD_lst, isNonD_T, forL_nil, forL_cons, loop_nx, loop_ct, loop_bk, loop_rt, frzS, frzE, appS, parS, loop]
theorem LL_len {R : Ru} {n : Nat} (hn : n ≤ 18) : (LL R n).length ≤ 262144 := by
  unfold LL
  refine Nat.le_trans (List.length_filter_le _ _) (Nat.le_trans (P54.parts_len _ _ _) ?_)
  exact Nat.pow_le_pow_right (n := 2) (by decide) hn
theorem pbg_eq {R : Ru} (h : Wf R) {n : Nat} (hn : n ≤ 18) : m_partitions_by_gaps [rE R, .int (n : Int)] = ret (.lst ((LL R n).map T)) := by
  unfold m_partitions_by_gaps
  by_cases h0 : n = 0
  · subst h0
    have e : (LL R 0).map T = [.tup []] := rfl
    simp only [run_r, seq_r, cont_nx, cont_rt, cont_bk, cont_ct, if_r, sel_t, sel_f, ife_r, sele_t, sele_f, and_r, or_r, sela_t, sela_f, selo_t, selo_f, out_rt, out_rtO, out_nx, setD, setO, retS, retO, retV, retN, nilS, fgt, isB, truB, truD, notB, orV, andV, notV, b1, b2, bA, aC, aN, vr, vw, cst, nth, sset, bnd_r, opt_s, cond_true, cond_false, eTup_0, eTup_1, eTup_2, eTup_3, eLst_0, eLst_1, eLst_2, eLst_3, callE, mkE, List.replicate_succ, List.replicate_zero, List.length_cons, List.length_nil, List.length_map, if_true, if_false, Nat.reduceAdd, Nat.reduceSub, Bool.false_and, Bool.and_true, Bool.true_and, Bool.and_false, Bool.not_true, Bool.not_false, Bool.true_or, Bool.or_true, Bool.false_or, Bool.or_false, reduceIte, Bool.false_eq_true, dGt, dLt, dGe, dLe, dCmp, dSub, dNeg, aLen, seqD_tup, seqD_lst, seqD_T, Option.map_some, dIsN, dNotN, isNonD_non, isNonD_bl, isNonD_int, isNonD_str, isNonD_tup, isNonD_lst, isNonD_T, forL_nil, forL_cons, loop_nx, loop_ct, loop_bk, loop_rt, frzS, frzE, appS, parS, dEq_int, Int.natCast_zero, decide_true, e]
  · have hz : ¬ (n : Int) = 0 := by omega
    have hl1 := h.l1
    have hl2 := h.l2
    have hflat : (dnl n R.l).flatMap (fun y : Nat => (EN R (n - y) y).map ((y : Int) :: ·)) = LL R n := by
      rw [LL_rec R h0 (by omega), dnl_flat]; rfl
    have loop := loopAcc (it := itR3 (vw 1) (b2 dSub (b2 dIx (vw 0) (cst (.int 2))) (cst (.int 1))) (b1 dNeg (cst (.int 1)))) (b := gN 3) (body := b_partitions_by_gaps_1) (fun acc : List (List Int) => [.d (rE R), .d (.int (n : Int)), .d (.lst (acc.map T)), .un, .un]) (dnl n R.l) (fun y : Nat => D.int (y : Int)) (fun y : Nat => (EN R (n - y) y).map ((y : Int) :: ·))
      (by simp only [itR3, run_r, seq_r, cont_nx, cont_rt, cont_bk, cont_ct, if_r, sel_t, sel_f, ife_r, sele_t, sele_f, and_r, or_r, sela_t, sela_f, selo_t, selo_f, out_rt, out_rtO, out_nx, setD, setO, retS, retO, retV, retN, nilS, fgt, isB, truB, truD, notB, orV, andV, notV, b1, b2, bA, aC, aN, vr, vw, cst, nth, sset, bnd_r, opt_s, cond_true, cond_false, eTup_0, eTup_1, eTup_2, eTup_3, eLst_0, eLst_1, eLst_2, eLst_3, callE, mkE, List.replicate_succ, List.replicate_zero, List.length_cons, List.length_nil, List.length_map, if_true, if_false, Nat.reduceAdd, Nat.reduceSub, Bool.false_and, Bool.and_true, Bool.true_and, Bool.and_false, Bool.not_true, Bool.not_false, Bool.true_or, Bool.or_true, Bool.false_or, Bool.or_false, reduceIte, Bool.false_eq_true, dGt, dLt, dGe, dLe, dCmp, dSub, dNeg, aLen, seqD_tup, seqD_lst, seqD_T, Option.map_some, dIsN, dNotN, isNonD_non, isNonD_bl, isNonD_int, isNonD_str, isNonD_tup, isNonD_lst, isNonD_T, forL_nil, forL_cons, loop_nx, loop_ct, loop_bk, loop_rt, frzS, frzE, appS, parS, rE_2, rg3_dnl (n := n) (by omega) hl1 (by omega)])
      (by rw [hflat]; have := LL_len (R := R) (n := n) hn; omega)
      (fun y hy acc ha => by
        have hy' := mem_dnl hy
        refine ⟨_, rfl, ?_⟩
        unfold b_partitions_by_gaps_1
        have hc : ∀ s3 : SV, c_partitions_by_gaps_1 [.d (rE R), .d (.int (n : Int)), s3, .d (.int (y : Int)), .un] = ret (.lst (((EN R (n - y) y).map ((y : Int) :: ·)).map T)) := fun s3 => by
          have ih := endings_eq h 60 (n - y) y (by omega) (by omega) (by omega)
          rw [show ((n - y : Nat) : Int) = (n : Int) - (y : Int) by omega] at ih
          unfold c_partitions_by_gaps_1
          rw [List.map_map]
          refine lcE_map T _ (EN R (n - y) y) (by simp only [itS, run_r, seq_r, cont_nx, cont_rt, cont_bk, cont_ct, if_r, sel_t, sel_f, ife_r, sele_t, sele_f, and_r, or_r, sela_t, sela_f, selo_t, selo_f, out_rt, out_rtO, out_nx, setD, setO, retS, retO, retV, retN, nilS, fgt, isB, truB, truD, notB, orV, andV, notV, b1, b2, bA, aC, aN, vr, vw, cst, nth, sset, bnd_r, opt_s, cond_true, cond_false, eTup_0, eTup_1, eTup_2, eTup_3, eLst_0, eLst_1, eLst_2, eLst_3, callE, mkE, List.replicate_succ, List.replicate_zero, List.length_cons, List.length_nil, List.length_map, if_true, if_false, Nat.reduceAdd, Nat.reduceSub, Bool.false_and, Bool.and_true, Bool.true_and, Bool.and_false, Bool.not_true, Bool.not_false, Bool.true_or, Bool.or_true, Bool.false_or, Bool.or_false, reduceIte, Bool.false_eq_true, dGt, dLt, dGe, dLe, dCmp, dSub, dNeg, aLen, seqD_tup, seqD_lst, seqD_T, Option.map_some, dIsN, dNotN, isNonD_non, isNonD_bl, isNonD_int, isNonD_str, isNonD_tup, isNonD_lst, isNonD_T, forL_nil, forL_cons, loop_nx, loop_ct, loop_bk, loop_rt, frzS, frzE, appS, parS, ih]) (by rw [sizeLine_eq]; have := EN_len (R := R) (n := n - y) (x := y) (by omega); omega) fun p hp => ⟨_, rfl, ?_⟩
          simp only [run_r, seq_r, cont_nx, cont_rt, cont_bk, cont_ct, if_r, sel_t, sel_f, ife_r, sele_t, sele_f, and_r, or_r, sela_t, sela_f, selo_t, selo_f, out_rt, out_rtO, out_nx, setD, setO, retS, retO, retV, retN, nilS, fgt, isB, truB, truD, notB, orV, andV, notV, b1, b2, bA, aC, aN, vr, vw, cst, nth, sset, bnd_r, opt_s, cond_true, cond_false, eTup_0, eTup_1, eTup_2, eTup_3, eLst_0, eLst_1, eLst_2, eLst_3, callE, mkE, List.replicate_succ, List.replicate_zero, List.length_cons, List.length_nil, List.length_map, if_true, if_false, Nat.reduceAdd, Nat.reduceSub, Bool.false_and, Bool.and_true, Bool.true_and, Bool.and_false, Bool.not_true, Bool.not_false, Bool.true_or, Bool.or_true, Bool.false_or, Bool.or_false, reduceIte, Bool.false_eq_true, dGt, dLt, dGe, dLe, dCmp, dSub, dNeg, aLen, seqD_tup, seqD_lst, seqD_T, Option.map_some, dIsN, dNotN, isNonD_non, isNonD_bl, isNonD_int, isNonD_str, isNonD_tup, isNonD_lst, isNonD_T, forL_nil, forL_cons, loop_nx, loop_ct, loop_bk, loop_rt, frzS, frzE, appS, parS, fgt, dAdd_1T (x := (y : Int)) (q := p) (by have := EN_plen hp; omega)]
          rfl
        rw [List.length_map] at ha
        simp only [run_r, seq_r, cont_nx, cont_rt, cont_bk, cont_ct, if_r, sel_t, sel_f, ife_r, sele_t, sele_f, and_r, or_r, sela_t, sela_f, selo_t, selo_f, out_rt, out_rtO, out_nx, setD, setO, retS, retO, retV, retN, nilS, fgt, isB, truB, truD, notB, orV, andV, notV, b1, b2, bA, aC, aN, vr, vw, cst, nth, sset, bnd_r, opt_s, cond_true, cond_false, eTup_0, eTup_1, eTup_2, eTup_3, eLst_0, eLst_1, eLst_2, eLst_3, callE, mkE, List.replicate_succ, List.replicate_zero, List.length_cons, List.length_nil, List.length_map, if_true, if_false, Nat.reduceAdd, Nat.reduceSub, Bool.false_and, Bool.and_true, Bool.true_and, Bool.and_false, Bool.not_true, Bool.not_false, Bool.true_or, Bool.or_true, Bool.false_or, Bool.or_false, reduceIte, Bool.false_eq_true, dGt, dLt, dGe, dLe, dCmp, dSub, dNeg, aLen, seqD_tup, seqD_lst, seqD_T, Option.map_some, dIsN, dNotN, isNonD_non, isNonD_bl, isNonD_int, isNonD_str, isNonD_tup, isNonD_lst, isNonD_T, forL_nil, forL_cons, loop_nx, loop_ct, loop_bk, loop_rt, frzS, frzE, appS, parS, hc, dAdd_ll (xs := acc.map T) (ys := ((EN R (n - y) y).map ((y : Int) :: ·)).map T) (by rw [List.length_map, List.length_map, List.length_map]; omega), List.map_append])
    rw [hflat] at loop
    simp only [run_r, seq_r, cont_nx, cont_rt, cont_bk, cont_ct, if_r, sel_t, sel_f, ife_r, sele_t, sele_f, and_r, or_r, sela_t, sela_f, selo_t, selo_f, out_rt, out_rtO, out_nx, setD, setO, retS, retO, retV, retN, nilS, fgt, isB, truB, truD, notB, orV, andV, notV, b1, b2, bA, aC, aN, vr, vw, cst, nth, sset, bnd_r, opt_s, cond_true, cond_false, eTup_0, eTup_1, eTup_2, eTup_3, eLst_0, eLst_1, eLst_2, eLst_3, callE, mkE, List.replicate_succ, List.replicate_zero, List.length_cons, List.length_nil, List.length_map, if_true, if_false, Nat.reduceAdd, Nat.reduceSub, Bool.false_and, Bool.and_true, Bool.true_and, Bool.and_false, Bool.not_true, Bool.not_false, Bool.true_or, Bool.or_true, Bool.false_or, Bool.or_false, reduceIte, Bool.false_eq_true, dGt, dLt, dGe, dLe, dCmp, dSub, dNeg, aLen, seqD_tup, seqD_lst, seqD_T, Option.map_some, dIsN, dNotN, isNonD_non, isNonD_bl, isNonD_int, isNonD_str, isNonD_tup, isNonD_lst, isNonD_T, forL_nil, forL_cons, loop_nx, loop_ct, loop_bk, loop_rt, frzS, frzE, appS, parS, dEq_int, hz, decide_false, List.map_nil] at loop ⊢
    simp only [run_r, seq_r, cont_nx, cont_rt, cont_bk, cont_ct, if_r, sel_t, sel_f, ife_r, sele_t, sele_f, and_r, or_r, sela_t, sela_f, selo_t, selo_f, out_rt, out_rtO, out_nx, setD, setO, retS, retO, retV, retN, nilS, fgt, isB, truB, truD, notB, orV, andV, notV, b1, b2, bA, aC, aN, vr, vw, cst, nth, sset, bnd_r, opt_s, cond_true, cond_false, eTup_0, eTup_1, eTup_2, eTup_3, eLst_0, eLst_1, eLst_2, eLst_3, callE, mkE, List.replicate_succ, List.replicate_zero, List.length_cons, List.length_nil, List.length_map, if_true, if_false, Nat.reduceAdd, Nat.reduceSub, Bool.false_and, Bool.and_true, Bool.true_and, Bool.and_false, Bool.not_true, Bool.not_false, Bool.true_or, Bool.or_true, Bool.false_or, Bool.or_false, reduceIte, Bool.false_eq_true, dGt, dLt, dGe, dLe, dCmp, dSub, dNeg, aLen, seqD_tup, seqD_lst, seqD_T, Option.map_some, dIsN, dNotN, isNonD_non, isNonD_bl, isNonD_int, isNonD_str, isNonD_tup, isNonD_lst, isNonD_T, forL_nil, forL_cons, loop_nx, loop_ct, loop_bk, loop_rt, frzS, frzE, appS, parS, loop]
end K35
end
section
set_option maxHeartbeats 1000000
namespace K35
open PySem PySem.Spec PyProof.Rows L2 FL Lb P35
open P54 (downN parts mem_downN IsP)
def optT : Option (List Int) → D
  | none => .non
  | some p => T p
def optN : Option Nat → D
  | none => .non
  | some k => .int (k : Int)
theorem aMin3_nat (a b c : Nat) : aMin3 [.int (a : Int), .int (b : Int), .int (c : Int)] = some (.int ((min (min a b) c : Nat) : Int)) := by
  show some (D.int (if (c : Int) < (if (b : Int) < (a : Int) then (b : Int) else (a : Int)) then (c : Int) else (if (b : Int) < (a : Int) then (b : Int) else (a : Int)))) = _
  congr 2
  split <;> split <;> omega
/-- the first of the endings -/
theorem fe_val (R : Ru) (n x : Nat) : ∀ L : List Nat, ((L.filter fun y : Nat => decide ((R.l : Int) ≤ (y : Int))).findSome? fun y : Nat => if R.st x y = true then ((EN R (n - y) y).head?).map (fun r => T ((y : Int) :: r)) else none) = (L.flatMap (blk R n x)).head?.map T
  | [] => rfl
  | y :: L => by
    rw [List.flatMap_cons, List.head?_append, List.filter_cons]
    by_cases c1 : decide ((R.l : Int) ≤ y) = true
    · rw [if_pos c1, List.findSome?_cons, fe_val R n x L]
      unfold blk
      rw [c1, Bool.true_and]
      by_cases c : R.st x y = true
      · rw [if_pos c, if_pos c, List.head?_map]
        cases (EN R (n - y) y).head? <;> rfl
      · rw [if_neg c, if_neg c]; rfl
    · rw [if_neg c1, fe_val R n x L]
      have : decide ((R.l : Int) ≤ y) = false := by simpa using c1
      have hb : blk R n x y = [] := by unfold blk; rw [this, Bool.false_and, if_neg (by decide)]
      rw [hb]; rfl
theorem optT_map (o : Option (List Int)) (y : Int) : o.map (fun r => T (y :: r)) = (o.map (y :: ·)).map T := by cases o <;> rfl
theorem fe_eq {R : Ru} (h : Wf R) : ∀ k n x most : Nat, n < k → n ≤ 18 → x ≤ 1000 → most ≤ 1000 → m_first_ending k [rE R, .int (n : Int), .int (x : Int), .int (most : Int)] = ret (optT (EQ R n x most).head?)
  | 0, n, x, most, hk, _, _, _ => by omega
  | k + 1, n, x, most, hk, hn, hx, hmo => by
    unfold m_first_ending
    by_cases h0 : n = 0
    · subst h0
      have e : optT (EQ R 0 x most).head? = .tup [] := rfl
      simp only [run_r, seq_r, cont_nx, cont_rt, cont_bk, cont_ct, if_r, sel_t, sel_f, ife_r, sele_t, sele_f, and_r, or_r, sela_t, sela_f, selo_t, selo_f, out_rt, out_rtO, out_nx, setD, setO, retS, retO, retV, retN, nilS, fgt, isB, truB, truD, notB, orV, andV, notV, b1, b2, bA, aC, aN, vr, vw, cst, nth, sset, bnd_r, opt_s, cond_true, cond_false, eTup_0, eTup_1, eTup_2, eTup_3, eLst_0, eLst_1, eLst_2, eLst_3, callE, mkE, List.replicate_succ, List.replicate_zero, List.length_cons, List.length_nil, List.length_map, if_true, if_false, Nat.reduceAdd, Nat.reduceSub, Bool.false_and, Bool.and_true, Bool.true_and, Bool.and_false, Bool.not_true, Bool.not_false, Bool.true_or, Bool.or_true, Bool.false_or, Bool.or_false, reduceIte, Bool.false_eq_true, dGt, dLt, dGe, dLe, dCmp, dSub, dNeg, aLen, seqD_tup, seqD_lst, seqD_T, Option.map_some, dIsN, dNotN, isNonD_non, isNonD_bl, isNonD_int, isNonD_str, isNonD_tup, isNonD_lst, isNonD_T, forL_nil, forL_cons, loop_nx, loop_ct, loop_bk, loop_rt, frzS, frzE, appS, parS, dEq_int, Int.natCast_zero, decide_true, e]
    · have hz : ¬ (n : Int) = 0 := by omega
      have hl1 := h.l1
      have hl2 := h.l2
      have loop := loopRet (it := itR3 (bA aMin3 (aC (vw 1) (aC (vw 2) (aC (vw 3) aN)))) (b2 dSub (b2 dIx (vw 0) (cst (.int 2))) (cst (.int 1))) (b1 dNeg (cst (.int 1)))) (b := gN 4) (body := b_first_ending_1 (m_first_ending k)) [.d (rE R), .d (.int (n : Int)), .d (.int (x : Int)), .d (.int (most : Int)), .un, .un] (dnl (min (min n x) most) R.l) (fun y : Nat => D.int (y : Int)) (fun y : Nat => if R.st x y = true then ((EN R (n - y) y).head?).map (fun r => T ((y : Int) :: r)) else none)
        (by simp only [itR3, run_r, seq_r, cont_nx, cont_rt, cont_bk, cont_ct, if_r, sel_t, sel_f, ife_r, sele_t, sele_f, and_r, or_r, sela_t, sela_f, selo_t, selo_f, out_rt, out_rtO, out_nx, setD, setO, retS, retO, retV, retN, nilS, fgt, isB, truB, truD, notB, orV, andV, notV, b1, b2, bA, aC, aN, vr, vw, cst, nth, sset, bnd_r, opt_s, cond_true, cond_false, eTup_0, eTup_1, eTup_2, eTup_3, eLst_0, eLst_1, eLst_2, eLst_3, callE, mkE, List.replicate_succ, List.replicate_zero, List.length_cons, List.length_nil, List.length_map, if_true, if_false, Nat.reduceAdd, Nat.reduceSub, Bool.false_and, Bool.and_true, Bool.true_and, Bool.and_false, Bool.not_true, Bool.not_false, Bool.true_or, Bool.or_true, Bool.false_or, Bool.or_false, reduceIte, Bool.false_eq_true, dGt, dLt, dGe, dLe, dCmp, dSub, dNeg, aLen, seqD_tup, seqD_lst, seqD_T, Option.map_some, dIsN, dNotN, isNonD_non, isNonD_bl, isNonD_int, isNonD_str, isNonD_tup, isNonD_lst, isNonD_T, forL_nil, forL_cons, loop_nx, loop_ct, loop_bk, loop_rt, frzS, frzE, appS, parS, aMin3_nat, rE_2, rg3_dnl (n := min (min n x) most) (by omega) hl1 (by omega)])
        (fun y hy => by
          have hy' := mem_dnl hy
          refine ⟨_, rfl, ?_⟩
          have hms := may_eq h (x : Int) (y : Int)
          have ih := fe_eq h k (n - y) y y (by omega) (by omega) (by omega) (by omega)
          rw [show ((n - y : Nat) : Int) = (n : Int) - (y : Int) by omega, EQ_self] at ih
          unfold b_first_ending_1
          by_cases c : R.st x y = true
          · rw [if_pos c]
            cases hr : (EN R (n - y) y).head? with
            | none =>
              rw [hr] at ih
              have ih' : m_first_ending k [rE R, .int ((n : Int) - (y : Int)), .int (y : Int), .int (y : Int)] = ret .non := ih
              simp only [run_r, seq_r, cont_nx, cont_rt, cont_bk, cont_ct, if_r, sel_t, sel_f, ife_r, sele_t, sele_f, and_r, or_r, sela_t, sela_f, selo_t, selo_f, out_rt, out_rtO, out_nx, setD, setO, retS, retO, retV, retN, nilS, fgt, isB, truB, truD, notB, orV, andV, notV, b1, b2, bA, aC, aN, vr, vw, cst, nth, sset, bnd_r, opt_s, cond_true, cond_false, eTup_0, eTup_1, eTup_2, eTup_3, eLst_0, eLst_1, eLst_2, eLst_3, callE, mkE, List.replicate_succ, List.replicate_zero, List.length_cons, List.length_nil, List.length_map, if_true, if_false, Nat.reduceAdd, Nat.reduceSub, Bool.false_and, Bool.and_true, Bool.true_and, Bool.and_false, Bool.not_true, Bool.not_false, Bool.true_or, Bool.or_true, Bool.false_or, Bool.or_false, reduceIte, Bool.false_eq_true, dGt, dLt, dGe, dLe, dCmp, dSub, dNeg, aLen, seqD_tup, seqD_lst, seqD_T, Option.map_some, dIsN, dNotN, isNonD_non, isNonD_bl, isNonD_int, isNonD_str, isNonD_tup, isNonD_lst, isNonD_T, forL_nil, forL_cons, loop_nx, loop_ct, loop_bk, loop_rt, frzS, frzE, appS, parS, hms, c, ih']
              rfl
            | some r =>
              rw [hr] at ih
              have ih' : m_first_ending k [rE R, .int ((n : Int) - (y : Int)), .int (y : Int), .int (y : Int)] = ret (T r) := ih
              have hlen := EN_plen (List.mem_of_head? hr)
              simp only [run_r, seq_r, cont_nx, cont_rt, cont_bk, cont_ct, if_r, sel_t, sel_f, ife_r, sele_t, sele_f, and_r, or_r, sela_t, sela_f, selo_t, selo_f, out_rt, out_rtO, out_nx, setD, setO, retS, retO, retV, retN, nilS, fgt, isB, truB, truD, notB, orV, andV, notV, b1, b2, bA, aC, aN, vr, vw, cst, nth, sset, bnd_r, opt_s, cond_true, cond_false, eTup_0, eTup_1, eTup_2, eTup_3, eLst_0, eLst_1, eLst_2, eLst_3, callE, mkE, List.replicate_succ, List.replicate_zero, List.length_cons, List.length_nil, List.length_map, if_true, if_false, Nat.reduceAdd, Nat.reduceSub, Bool.false_and, Bool.and_true, Bool.true_and, Bool.and_false, Bool.not_true, Bool.not_false, Bool.true_or, Bool.or_true, Bool.false_or, Bool.or_false, reduceIte, Bool.false_eq_true, dGt, dLt, dGe, dLe, dCmp, dSub, dNeg, aLen, seqD_tup, seqD_lst, seqD_T, Option.map_some, dIsN, dNotN, isNonD_non, isNonD_bl, isNonD_int, isNonD_str, isNonD_tup, isNonD_lst, isNonD_T, forL_nil, forL_cons, loop_nx, loop_ct, loop_bk, loop_rt, frzS, frzE, appS, parS, hms, c, ih', dAdd_1T (x := (y : Int)) (q := r) (by omega)]
              rfl
          · have c' : R.st x y = false := by simpa using c
            rw [if_neg c]
            simp only [run_r, seq_r, cont_nx, cont_rt, cont_bk, cont_ct, if_r, sel_t, sel_f, ife_r, sele_t, sele_f, and_r, or_r, sela_t, sela_f, selo_t, selo_f, out_rt, out_rtO, out_nx, setD, setO, retS, retO, retV, retN, nilS, fgt, isB, truB, truD, notB, orV, andV, notV, b1, b2, bA, aC, aN, vr, vw, cst, nth, sset, bnd_r, opt_s, cond_true, cond_false, eTup_0, eTup_1, eTup_2, eTup_3, eLst_0, eLst_1, eLst_2, eLst_3, callE, mkE, List.replicate_succ, List.replicate_zero, List.length_cons, List.length_nil, List.length_map, if_true, if_false, Nat.reduceAdd, Nat.reduceSub, Bool.false_and, Bool.and_true, Bool.true_and, Bool.and_false, Bool.not_true, Bool.not_false, Bool.true_or, Bool.or_true, Bool.false_or, Bool.or_false, reduceIte, Bool.false_eq_true, dGt, dLt, dGe, dLe, dCmp, dSub, dNeg, aLen, seqD_tup, seqD_lst, seqD_T, Option.map_some, dIsN, dNotN, isNonD_non, isNonD_bl, isNonD_int, isNonD_str, isNonD_tup, isNonD_lst, isNonD_T, forL_nil, forL_cons, loop_nx, loop_ct, loop_bk, loop_rt, frzS, frzE, appS, parS, hms, c']
            rfl)
      have hv := fe_val R n x (downN (min (min n x) most))
      unfold dnl at loop
      rw [hv] at loop
      have hE : EQ R n x most = (downN (min (min n x) most)).flatMap (blk R n x) := by unfold EQ; rw [if_neg h0]
      rw [← hE] at loop
      cases ho : (EQ R n x most).head? with
      | none =>
        rw [ho] at loop
        have loop' : forS _ _ _ _ = ret (Out.nx _) := loop
        simp only [run_r, seq_r, cont_nx, cont_rt, cont_bk, cont_ct, if_r, sel_t, sel_f, ife_r, sele_t, sele_f, and_r, or_r, sela_t, sela_f, selo_t, selo_f, out_rt, out_rtO, out_nx, setD, setO, retS, retO, retV, retN, nilS, fgt, isB, truB, truD, notB, orV, andV, notV, b1, b2, bA, aC, aN, vr, vw, cst, nth, sset, bnd_r, opt_s, cond_true, cond_false, eTup_0, eTup_1, eTup_2, eTup_3, eLst_0, eLst_1, eLst_2, eLst_3, callE, mkE, List.replicate_succ, List.replicate_zero, List.length_cons, List.length_nil, List.length_map, if_true, if_false, Nat.reduceAdd, Nat.reduceSub, Bool.false_and, Bool.and_true, Bool.true_and, Bool.and_false, Bool.not_true, Bool.not_false, Bool.true_or, Bool.or_true, Bool.false_or, Bool.or_false, reduceIte, Bool.false_eq_true, dGt, dLt, dGe, dLe, dCmp, dSub, dNeg, aLen, seqD_tup, seqD_lst, seqD_T, Option.map_some, dIsN, dNotN, isNonD_non, isNonD_bl, isNonD_int, isNonD_str, isNonD_tup, isNonD_lst, isNonD_T, forL_nil, forL_cons, loop_nx, loop_ct, loop_bk, loop_rt, frzS, frzE, appS, parS, dEq_int, hz, decide_false] at loop' ⊢
        simp only [run_r, seq_r, cont_nx, cont_rt, cont_bk, cont_ct, if_r, sel_t, sel_f, ife_r, sele_t, sele_f, and_r, or_r, sela_t, sela_f, selo_t, selo_f, out_rt, out_rtO, out_nx, setD, setO, retS, retO, retV, retN, nilS, fgt, isB, truB, truD, notB, orV, andV, notV, b1, b2, bA, aC, aN, vr, vw, cst, nth, sset, bnd_r, opt_s, cond_true, cond_false, eTup_0, eTup_1, eTup_2, eTup_3, eLst_0, eLst_1, eLst_2, eLst_3, callE, mkE, List.replicate_succ, List.replicate_zero, List.length_cons, List.length_nil, List.length_map, if_true, if_false, Nat.reduceAdd, Nat.reduceSub, Bool.false_and, Bool.and_true, Bool.true_and, Bool.and_false, Bool.not_true, Bool.not_false, Bool.true_or, Bool.or_true, Bool.false_or, Bool.or_false, reduceIte, Bool.false_eq_true, dGt, dLt, dGe, dLe, dCmp, dSub, dNeg, aLen, seqD_tup, seqD_lst, seqD_T, Option.map_some, dIsN, dNotN, isNonD_non, isNonD_bl, isNonD_int, isNonD_str, isNonD_tup, isNonD_lst, isNonD_T, forL_nil, forL_cons, loop_nx, loop_ct, loop_bk, loop_rt, frzS, frzE, appS, parS, loop']
        rfl
      | some r =>
        rw [ho] at loop
        have loop' : forS _ _ _ _ = ret (Out.rt false (T r)) := loop
        simp only [run_r, seq_r, cont_nx, cont_rt, cont_bk, cont_ct, if_r, sel_t, sel_f, ife_r, sele_t, sele_f, and_r, or_r, sela_t, sela_f, selo_t, selo_f, out_rt, out_rtO, out_nx, setD, setO, retS, retO, retV, retN, nilS, fgt, isB, truB, truD, notB, orV, andV, notV, b1, b2, bA, aC, aN, vr, vw, cst, nth, sset, bnd_r, opt_s, cond_true, cond_false, eTup_0, eTup_1, eTup_2, eTup_3, eLst_0, eLst_1, eLst_2, eLst_3, callE, mkE, List.replicate_succ, List.replicate_zero, List.length_cons, List.length_nil, List.length_map, if_true, if_false, Nat.reduceAdd, Nat.reduceSub, Bool.false_and, Bool.and_true, Bool.true_and, Bool.and_false, Bool.not_true, Bool.not_false, Bool.true_or, Bool.or_true, Bool.false_or, Bool.or_false, reduceIte, Bool.false_eq_true, dGt, dLt, dGe, dLe, dCmp, dSub, dNeg, aLen, seqD_tup, seqD_lst, seqD_T, Option.map_some, dIsN, dNotN, isNonD_non, isNonD_bl, isNonD_int, isNonD_str, isNonD_tup, isNonD_lst, isNonD_T, forL_nil, forL_cons, loop_nx, loop_ct, loop_bk, loop_rt, frzS, frzE, appS, parS, dEq_int, hz, decide_false] at loop' ⊢
        simp only [run_r, seq_r, cont_nx, cont_rt, cont_bk, cont_ct, if_r, sel_t, sel_f, ife_r, sele_t, sele_f, and_r, or_r, sela_t, sela_f, selo_t, selo_f, out_rt, out_rtO, out_nx, setD, setO, retS, retO, retV, retN, nilS, fgt, isB, truB, truD, notB, orV, andV, notV, b1, b2, bA, aC, aN, vr, vw, cst, nth, sset, bnd_r, opt_s, cond_true, cond_false, eTup_0, eTup_1, eTup_2, eTup_3, eLst_0, eLst_1, eLst_2, eLst_3, callE, mkE, List.replicate_succ, List.replicate_zero, List.length_cons, List.length_nil, List.length_map, if_true, if_false, Nat.reduceAdd, Nat.reduceSub, Bool.false_and, Bool.and_true, Bool.true_and, Bool.and_false, Bool.not_true, Bool.not_false, Bool.true_or, Bool.or_true, Bool.false_or, Bool.or_false, reduceIte, Bool.false_eq_true, dGt, dLt, dGe, dLe, dCmp, dSub, dNeg, aLen, seqD_tup, seqD_lst, seqD_T, Option.map_some, dIsN, dNotN, isNonD_non, isNonD_bl, isNonD_int, isNonD_str, isNonD_tup, isNonD_lst, isNonD_T, forL_nil, forL_cons, loop_nx, loop_ct, loop_bk, loop_rt, frzS, frzE, appS, parS, loop']
        rfl
/-! the next one -/
theorem at_I (r : List Nat) (i : Nat) : at' (I r) i = ((r.getD i 0 : Nat) : Int) := by
  unfold Lb.at' I
  rw [List.getD_eq_getElem?_getD, List.getElem?_map, List.getD_eq_getElem?_getD]
  cases r[i]? <;> rfl
theorem sum_I : ∀ r : List Nat, (I r).sum = ((r.sum : Nat) : Int)
  | [] => rfl
  | y :: r => by
    show (y : Int) + (I r).sum = _
    rw [sum_I r, List.sum_cons]; omega
theorem drop_sum_le : ∀ (r : List Nat) (i : Nat), (r.drop i).sum ≤ r.sum
  | [], i => by simp
  | y :: r, 0 => by simp
  | y :: r, i + 1 => by rw [List.drop_succ_cons, List.sum_cons]; have := drop_sum_le r i; omega
theorem get_le : ∀ (r : List Nat) (i : Nat), r.getD i 0 ≤ r.sum
  | [], i => by simp
  | y :: r, 0 => by simp
  | y :: r, i + 1 => by rw [List.getD_cons_succ, List.sum_cons]; have := get_le r i; omega
theorem findSome_map' {α β γ : Type} {f : α → Option β} {g : β → γ} : ∀ l : List α, l.findSome? (fun a => (f a).map g) = (l.findSome? f).map g
  | [] => rfl
  | a :: l => by
    rw [List.findSome?_cons, List.findSome?_cons, findSome_map' l]
    cases f a <;> rfl
theorem top_val (R : Ru) (n : Nat) : ∀ L : List Nat, ((L.filter fun y : Nat => decide ((R.l : Int) ≤ (y : Int))).findSome? fun z : Nat => ((EN R (n - z) z).head?).map (fun r => T ((z : Int) :: r))) = (L.flatMap (blk0 R n)).head?.map T
  | [] => rfl
  | y :: L => by
    rw [List.flatMap_cons, List.head?_append, List.filter_cons]
    unfold blk0
    by_cases c1 : decide ((R.l : Int) ≤ y) = true
    · rw [if_pos c1, if_pos c1, List.findSome?_cons, top_val R n L, List.head?_map]
      cases (EN R (n - y) y).head? <;> rfl
    · rw [if_neg c1, if_neg c1, top_val R n L]; rfl
/-- the answer by places -/
def nf (R : Ru) (n y : Nat) (r : List Nat) : Nat → Option D
  | 0 => (dnl (y - 1) R.l).findSome? fun z : Nat => ((EN R (n - z) z).head?).map (fun r => T ((z : Int) :: r))
  | j + 1 => (val R y r j).map fun q => T ((y : Int) :: q)
theorem nf_all (R : Ru) {n y : Nat} {r : List Nat} (hs : (y :: r).sum = n) : (List.range (y :: r).length).reverse.findSome? (nf R n y r) = (nx0 R n (y :: r)).map T := by
  rw [List.length_cons, List.range_succ_eq_map, List.reverse_cons, List.findSome?_append, ← List.map_reverse, List.findSome?_map, nx0]
  have e : (nf R n y r ∘ Nat.succ) = fun j => (val R y r j).map fun q => T ((y : Int) :: q) := rfl
  rw [e, findSome_map', nx_places, List.findSome?_cons, List.findSome?_nil]
  rw [List.sum_cons] at hs
  rw [show n - y = r.sum by omega, optT_map]
  simp only [nf]
  have := top_val R n (downN (y - 1))
  unfold dnl
  rw [this]
  cases (nx R r.sum y r).map ((y : Int) :: ·) with
  | some q => rfl
  | none => cases ((downN (y - 1)).flatMap (blk0 R n)).head? <;> rfl
theorem inner_top {R : Ru} (h : Wf R) {n y : Nat} {p : D} (hn : n ≤ 18) (hy : y ≤ n) (h1 : 1 ≤ y) (hp : dIx p (.int 0) = some (.int (y : Int))) : forS (itR3 (b2 dSub (b2 dIx (vw 1) (cst (.int 0))) (cst (.int 1))) (b2 dSub (b2 dIx (vw 0) (cst (.int 2))) (cst (.int 1))) (b1 dNeg (cst (.int 1)))) (gN 4) b_next_by_gaps_1 [.d (rE R), .d p, .d (.int 0), .d (.int (n : Int)), .un, .un] = ret (outO [.d (rE R), .d p, .d (.int 0), .d (.int (n : Int)), .un, .un] ((dnl (y - 1) R.l).findSome? fun z : Nat => ((EN R (n - z) z).head?).map (fun r => T ((z : Int) :: r)))) := by
  have hl1 := h.l1
  have hl2 := h.l2
  have hr := rg3_dnl (n := y - 1) (a := R.l) (by omega) hl1 (by omega)
  rw [show ((y - 1 : Nat) : Int) = (y : Int) - 1 by omega] at hr
  refine loopRet [.d (rE R), .d p, .d (.int 0), .d (.int (n : Int)), .un, .un] (dnl (y - 1) R.l) (fun y : Nat => D.int (y : Int)) _ (by simp only [itR3, run_r, seq_r, cont_nx, cont_rt, cont_bk, cont_ct, if_r, sel_t, sel_f, ife_r, sele_t, sele_f, and_r, or_r, sela_t, sela_f, selo_t, selo_f, out_rt, out_rtO, out_nx, setD, setO, retS, retO, retV, retN, nilS, fgt, isB, truB, truD, notB, orV, andV, notV, b1, b2, bA, aC, aN, vr, vw, cst, nth, sset, bnd_r, opt_s, cond_true, cond_false, eTup_0, eTup_1, eTup_2, eTup_3, eLst_0, eLst_1, eLst_2, eLst_3, callE, mkE, List.replicate_succ, List.replicate_zero, List.length_cons, List.length_nil, List.length_map, if_true, if_false, Nat.reduceAdd, Nat.reduceSub, Bool.false_and, Bool.and_true, Bool.true_and, Bool.and_false, Bool.not_true, Bool.not_false, Bool.true_or, Bool.or_true, Bool.false_or, Bool.or_false, reduceIte, Bool.false_eq_true, dGt, dLt, dGe, dLe, dCmp, dSub, dNeg, aLen, seqD_tup, seqD_lst, seqD_T, Option.map_some, dIsN, dNotN, isNonD_non, isNonD_bl, isNonD_int, isNonD_str, isNonD_tup, isNonD_lst, isNonD_T, forL_nil, forL_cons, loop_nx, loop_ct, loop_bk, loop_rt, frzS, frzE, appS, parS, hp, rE_2, hr]) fun z hz => ?_
  have hz' := mem_dnl hz
  refine ⟨_, rfl, ?_⟩
  have ih := fe_eq h 60 (n - z) z z (by omega) (by omega) (by omega) (by omega)
  rw [show ((n - z : Nat) : Int) = (n : Int) - (z : Int) by omega, EQ_self] at ih
  unfold b_next_by_gaps_1
  cases hr : (EN R (n - z) z).head? with
  | none =>
    rw [hr] at ih
    have ih' : m_first_ending 60 [rE R, .int ((n : Int) - (z : Int)), .int (z : Int), .int (z : Int)] = ret .non := ih
    simp only [run_r, seq_r, cont_nx, cont_rt, cont_bk, cont_ct, if_r, sel_t, sel_f, ife_r, sele_t, sele_f, and_r, or_r, sela_t, sela_f, selo_t, selo_f, out_rt, out_rtO, out_nx, setD, setO, retS, retO, retV, retN, nilS, fgt, isB, truB, truD, notB, orV, andV, notV, b1, b2, bA, aC, aN, vr, vw, cst, nth, sset, bnd_r, opt_s, cond_true, cond_false, eTup_0, eTup_1, eTup_2, eTup_3, eLst_0, eLst_1, eLst_2, eLst_3, callE, mkE, List.replicate_succ, List.replicate_zero, List.length_cons, List.length_nil, List.length_map, if_true, if_false, Nat.reduceAdd, Nat.reduceSub, Bool.false_and, Bool.and_true, Bool.true_and, Bool.and_false, Bool.not_true, Bool.not_false, Bool.true_or, Bool.or_true, Bool.false_or, Bool.or_false, reduceIte, Bool.false_eq_true, dGt, dLt, dGe, dLe, dCmp, dSub, dNeg, aLen, seqD_tup, seqD_lst, seqD_T, Option.map_some, dIsN, dNotN, isNonD_non, isNonD_bl, isNonD_int, isNonD_str, isNonD_tup, isNonD_lst, isNonD_T, forL_nil, forL_cons, loop_nx, loop_ct, loop_bk, loop_rt, frzS, frzE, appS, parS, ih']
    rfl
  | some r =>
    rw [hr] at ih
    have ih' : m_first_ending 60 [rE R, .int ((n : Int) - (z : Int)), .int (z : Int), .int (z : Int)] = ret (T r) := ih
    have hlen := EN_plen (List.mem_of_head? hr)
    simp only [run_r, seq_r, cont_nx, cont_rt, cont_bk, cont_ct, if_r, sel_t, sel_f, ife_r, sele_t, sele_f, and_r, or_r, sela_t, sela_f, selo_t, selo_f, out_rt, out_rtO, out_nx, setD, setO, retS, retO, retV, retN, nilS, fgt, isB, truB, truD, notB, orV, andV, notV, b1, b2, bA, aC, aN, vr, vw, cst, nth, sset, bnd_r, opt_s, cond_true, cond_false, eTup_0, eTup_1, eTup_2, eTup_3, eLst_0, eLst_1, eLst_2, eLst_3, callE, mkE, List.replicate_succ, List.replicate_zero, List.length_cons, List.length_nil, List.length_map, if_true, if_false, Nat.reduceAdd, Nat.reduceSub, Bool.false_and, Bool.and_true, Bool.true_and, Bool.and_false, Bool.not_true, Bool.not_false, Bool.true_or, Bool.or_true, Bool.false_or, Bool.or_false, reduceIte, Bool.false_eq_true, dGt, dLt, dGe, dLe, dCmp, dSub, dNeg, aLen, seqD_tup, seqD_lst, seqD_T, Option.map_some, dIsN, dNotN, isNonD_non, isNonD_bl, isNonD_int, isNonD_str, isNonD_tup, isNonD_lst, isNonD_T, forL_nil, forL_cons, loop_nx, loop_ct, loop_bk, loop_rt, frzS, frzE, appS, parS, ih', dAdd_1T (x := (z : Int)) (q := r) (by omega)]
    rfl
theorem place_eq {R : Ru} (h : Wf R) {n y : Nat} {r : List Nat} (hn : n ≤ 18) (hs : (y :: r).sum = n) (hp : ∀ z ∈ y :: r, 1 ≤ z) (i : Nat) (hi : i < (y :: r).length) : b_next_by_gaps_2 [.d (rE R), .d (T (I (y :: r))), .d (.int (i : Int)), .un, .un, .un] = ret (outO [.d (rE R), .d (T (I (y :: r))), .un, .un, .un, .un] (nf R n y r i)) := by
  have hsl := slT_from (I (y :: r)) i
  have hsum : aSum [T ((I (y :: r)).drop i)] = some (.int ((((y :: r).drop i).sum : Nat) : Int)) := by
    rw [aSum_T]
    unfold I
    rw [← List.map_drop]
    exact congrArg (fun z => some (D.int z)) (sum_I _)
  have hlen : (I (y :: r)).length = (y :: r).length := by unfold I; rw [List.length_map]
  unfold b_next_by_gaps_2
  cases i with
  | zero =>
    have hx0 : dIx (T (I (y :: r))) (.int 0) = some (.int (y : Int)) := ixT (p := I (y :: r)) (k := 0) (by rw [hlen]; exact hi)
    have hin := inner_top h (n := n) (y := y) (p := T (I (y :: r))) hn (by rw [← hs, List.sum_cons]; omega) (hp y (by simp)) hx0
    simp only [List.drop_zero, hs] at hsum
    simp only [Int.natCast_zero, List.drop_zero] at hsl
    show _ = ret (outO _ ((dnl (y - 1) R.l).findSome? _))
    cases ho : (dnl (y - 1) R.l).findSome? fun z : Nat => ((EN R (n - z) z).head?).map (fun r => T ((z : Int) :: r)) with
    | none =>
      rw [ho] at hin
      have hin' : forS _ _ _ _ = ret (Out.nx _) := hin
      simp only [slE, oS, oN, run_r, seq_r, cont_nx, cont_rt, cont_bk, cont_ct, if_r, sel_t, sel_f, ife_r, sele_t, sele_f, and_r, or_r, sela_t, sela_f, selo_t, selo_f, out_rt, out_rtO, out_nx, setD, setO, retS, retO, retV, retN, nilS, fgt, isB, truB, truD, notB, orV, andV, notV, b1, b2, bA, aC, aN, vr, vw, cst, nth, sset, bnd_r, opt_s, cond_true, cond_false, eTup_0, eTup_1, eTup_2, eTup_3, eLst_0, eLst_1, eLst_2, eLst_3, callE, mkE, List.replicate_succ, List.replicate_zero, List.length_cons, List.length_nil, List.length_map, if_true, if_false, Nat.reduceAdd, Nat.reduceSub, Bool.false_and, Bool.and_true, Bool.true_and, Bool.and_false, Bool.not_true, Bool.not_false, Bool.true_or, Bool.or_true, Bool.false_or, Bool.or_false, reduceIte, Bool.false_eq_true, dGt, dLt, dGe, dLe, dCmp, dSub, dNeg, aLen, seqD_tup, seqD_lst, seqD_T, Option.map_some, dIsN, dNotN, isNonD_non, isNonD_bl, isNonD_int, isNonD_str, isNonD_tup, isNonD_lst, isNonD_T, forL_nil, forL_cons, loop_nx, loop_ct, loop_bk, loop_rt, frzS, frzE, appS, parS, Int.natCast_zero, hsl, hsum, dEq_int, decide_true] at hin' ⊢
      simp only [run_r, seq_r, cont_nx, cont_rt, cont_bk, cont_ct, if_r, sel_t, sel_f, ife_r, sele_t, sele_f, and_r, or_r, sela_t, sela_f, selo_t, selo_f, out_rt, out_rtO, out_nx, setD, setO, retS, retO, retV, retN, nilS, fgt, isB, truB, truD, notB, orV, andV, notV, b1, b2, bA, aC, aN, vr, vw, cst, nth, sset, bnd_r, opt_s, cond_true, cond_false, eTup_0, eTup_1, eTup_2, eTup_3, eLst_0, eLst_1, eLst_2, eLst_3, callE, mkE, List.replicate_succ, List.replicate_zero, List.length_cons, List.length_nil, List.length_map, if_true, if_false, Nat.reduceAdd, Nat.reduceSub, Bool.false_and, Bool.and_true, Bool.true_and, Bool.and_false, Bool.not_true, Bool.not_false, Bool.true_or, Bool.or_true, Bool.false_or, Bool.or_false, reduceIte, Bool.false_eq_true, dGt, dLt, dGe, dLe, dCmp, dSub, dNeg, aLen, seqD_tup, seqD_lst, seqD_T, Option.map_some, dIsN, dNotN, isNonD_non, isNonD_bl, isNonD_int, isNonD_str, isNonD_tup, isNonD_lst, isNonD_T, forL_nil, forL_cons, loop_nx, loop_ct, loop_bk, loop_rt, frzS, frzE, appS, parS, hin']
      rfl
    | some d =>
      rw [ho] at hin
      have hin' : forS _ _ _ _ = ret (Out.rt false d) := hin
      simp only [slE, oS, oN, run_r, seq_r, cont_nx, cont_rt, cont_bk, cont_ct, if_r, sel_t, sel_f, ife_r, sele_t, sele_f, and_r, or_r, sela_t, sela_f, selo_t, selo_f, out_rt, out_rtO, out_nx, setD, setO, retS, retO, retV, retN, nilS, fgt, isB, truB, truD, notB, orV, andV, notV, b1, b2, bA, aC, aN, vr, vw, cst, nth, sset, bnd_r, opt_s, cond_true, cond_false, eTup_0, eTup_1, eTup_2, eTup_3, eLst_0, eLst_1, eLst_2, eLst_3, callE, mkE, List.replicate_succ, List.replicate_zero, List.length_cons, List.length_nil, List.length_map, if_true, if_false, Nat.reduceAdd, Nat.reduceSub, Bool.false_and, Bool.and_true, Bool.true_and, Bool.and_false, Bool.not_true, Bool.not_false, Bool.true_or, Bool.or_true, Bool.false_or, Bool.or_false, reduceIte, Bool.false_eq_true, dGt, dLt, dGe, dLe, dCmp, dSub, dNeg, aLen, seqD_tup, seqD_lst, seqD_T, Option.map_some, dIsN, dNotN, isNonD_non, isNonD_bl, isNonD_int, isNonD_str, isNonD_tup, isNonD_lst, isNonD_T, forL_nil, forL_cons, loop_nx, loop_ct, loop_bk, loop_rt, frzS, frzE, appS, parS, Int.natCast_zero, hsl, hsum, dEq_int, decide_true] at hin' ⊢
      simp only [run_r, seq_r, cont_nx, cont_rt, cont_bk, cont_ct, if_r, sel_t, sel_f, ife_r, sele_t, sele_f, and_r, or_r, sela_t, sela_f, selo_t, selo_f, out_rt, out_rtO, out_nx, setD, setO, retS, retO, retV, retN, nilS, fgt, isB, truB, truD, notB, orV, andV, notV, b1, b2, bA, aC, aN, vr, vw, cst, nth, sset, bnd_r, opt_s, cond_true, cond_false, eTup_0, eTup_1, eTup_2, eTup_3, eLst_0, eLst_1, eLst_2, eLst_3, callE, mkE, List.replicate_succ, List.replicate_zero, List.length_cons, List.length_nil, List.length_map, if_true, if_false, Nat.reduceAdd, Nat.reduceSub, Bool.false_and, Bool.and_true, Bool.true_and, Bool.and_false, Bool.not_true, Bool.not_false, Bool.true_or, Bool.or_true, Bool.false_or, Bool.or_false, reduceIte, Bool.false_eq_true, dGt, dLt, dGe, dLe, dCmp, dSub, dNeg, aLen, seqD_tup, seqD_lst, seqD_T, Option.map_some, dIsN, dNotN, isNonD_non, isNonD_bl, isNonD_int, isNonD_str, isNonD_tup, isNonD_lst, isNonD_T, forL_nil, forL_cons, loop_nx, loop_ct, loop_bk, loop_rt, frzS, frzE, appS, parS, hin']
      rfl
  | succ j =>
    have hj : j < r.length := by rw [List.length_cons] at hi; omega
    have hz : ¬ ((j + 1 : Nat) : Int) = 0 := by omega
    rw [List.drop_succ_cons] at hsum
    have hge : 1 ≤ r.getD j 0 := by
      rw [List.getD_eq_getElem?_getD, List.getElem?_eq_getElem hj]
      exact hp _ (by simp)
    have x1 := ixT (p := I (y :: r)) (k := j) (by rw [hlen, List.length_cons]; omega)
    have x2 := ixT (p := I (y :: r)) (k := j + 1) (by rw [hlen]; exact hi)
    rw [at_I] at x1 x2
    rw [List.getD_cons_succ] at x2
    rw [show (j : Int) = ((j + 1 : Nat) : Int) - 1 by omega] at x1
    have b1' := get_le (y :: r) j
    have b2' := get_le r j
    have b3' := drop_sum_le r j
    rw [List.sum_cons] at hs b1'
    have hfe := fe_eq h 60 (r.drop j).sum ((y :: r).getD j 0) (r.getD j 0 - 1) (by omega) (by omega) (by omega) (by omega)
    rw [show ((r.getD j 0 - 1 : Nat) : Int) = ((r.getD j 0 : Nat) : Int) - 1 by omega] at hfe
    have hto := slT_to (I (y :: r)) (j + 1)
    have htk : (I (y :: r)).take (j + 1) = (y : Int) :: I (r.take j) := by
      unfold I
      rw [List.map_cons, List.take_succ_cons, List.map_take]
    rw [htk] at hto
    simp only [nf, val]
    generalize hA : (r.drop j).sum = A at *
    generalize hB : (y :: r).getD j 0 = B at *
    generalize hC : r.getD j 0 = C at *
    have lR : r.length ≤ 18 := by
      have key : ∀ l : List Nat, (∀ z ∈ l, 1 ≤ z) → l.length ≤ l.sum := by
        intro l
        induction l with
        | nil => intro _; simp
        | cons a l ih => intro ha; rw [List.length_cons, List.sum_cons]; have := ih fun z hz => ha z (by simp [hz]); have := ha a (by simp); omega
      have := key r fun z hz => hp z (by simp [hz])
      omega
    cases ho : (EQ R A B (C - 1)).head? with
    | none =>
      rw [ho] at hfe
      have hfe' : m_first_ending 60 [rE R, .int (A : Int), .int (B : Int), .int ((C : Int) - 1)] = ret .non := hfe
      simp only [slE, oS, oN, run_r, seq_r, cont_nx, cont_rt, cont_bk, cont_ct, if_r, sel_t, sel_f, ife_r, sele_t, sele_f, and_r, or_r, sela_t, sela_f, selo_t, selo_f, out_rt, out_rtO, out_nx, setD, setO, retS, retO, retV, retN, nilS, fgt, isB, truB, truD, notB, orV, andV, notV, b1, b2, bA, aC, aN, vr, vw, cst, nth, sset, bnd_r, opt_s, cond_true, cond_false, eTup_0, eTup_1, eTup_2, eTup_3, eLst_0, eLst_1, eLst_2, eLst_3, callE, mkE, List.replicate_succ, List.replicate_zero, List.length_cons, List.length_nil, List.length_map, if_true, if_false, Nat.reduceAdd, Nat.reduceSub, Bool.false_and, Bool.and_true, Bool.true_and, Bool.and_false, Bool.not_true, Bool.not_false, Bool.true_or, Bool.or_true, Bool.false_or, Bool.or_false, reduceIte, Bool.false_eq_true, dGt, dLt, dGe, dLe, dCmp, dSub, dNeg, aLen, seqD_tup, seqD_lst, seqD_T, Option.map_some, dIsN, dNotN, isNonD_non, isNonD_bl, isNonD_int, isNonD_str, isNonD_tup, isNonD_lst, isNonD_T, forL_nil, forL_cons, loop_nx, loop_ct, loop_bk, loop_rt, frzS, frzE, appS, parS, hsl, hsum, dEq_int, hz, decide_false, x1, x2, hfe']
      rfl
    | some q =>
      rw [ho] at hfe
      have hfe' : m_first_ending 60 [rE R, .int (A : Int), .int (B : Int), .int ((C : Int) - 1)] = ret (T q) := hfe
      have hql : q.length ≤ 18 := by
        by_cases hA0 : A = 0
        · subst hA0
          have : q = [] := by
            have e : (EQ R 0 B (C - 1)).head? = some [] := rfl
            rw [e] at ho
            exact (Option.some.inj ho).symm
          rw [this]; simp
        · have hm := List.mem_of_head? ho
          unfold EQ at hm
          rw [if_neg hA0, List.mem_flatMap] at hm
          obtain ⟨z, hz, hm⟩ := hm
          have hz2 := mem_downN.mp hz
          obtain ⟨r', rfl, hr'⟩ := mem_blk hm
          have := EN_plen hr'
          rw [List.length_cons]; omega
      have hadd : dAdd (T ((y : Int) :: I (r.take j))) (T q) = some (T ((y : Int) :: (I (r.take j) ++ q))) := dAdd_TT (p := (y : Int) :: I (r.take j)) (q := q) (by
        unfold I
        rw [List.length_cons, List.length_map, List.length_take]; omega)
      simp only [slE, oS, oN, run_r, seq_r, cont_nx, cont_rt, cont_bk, cont_ct, if_r, sel_t, sel_f, ife_r, sele_t, sele_f, and_r, or_r, sela_t, sela_f, selo_t, selo_f, out_rt, out_rtO, out_nx, setD, setO, retS, retO, retV, retN, nilS, fgt, isB, truB, truD, notB, orV, andV, notV, b1, b2, bA, aC, aN, vr, vw, cst, nth, sset, bnd_r, opt_s, cond_true, cond_false, eTup_0, eTup_1, eTup_2, eTup_3, eLst_0, eLst_1, eLst_2, eLst_3, callE, mkE, List.replicate_succ, List.replicate_zero, List.length_cons, List.length_nil, List.length_map, if_true, if_false, Nat.reduceAdd, Nat.reduceSub, Bool.false_and, Bool.and_true, Bool.true_and, Bool.and_false, Bool.not_true, Bool.not_false, Bool.true_or, Bool.or_true, Bool.false_or, Bool.or_false, reduceIte, Bool.false_eq_true, dGt, dLt, dGe, dLe, dCmp, dSub, dNeg, aLen, seqD_tup, seqD_lst, seqD_T, Option.map_some, dIsN, dNotN, isNonD_non, isNonD_bl, isNonD_int, isNonD_str, isNonD_tup, isNonD_lst, isNonD_T, forL_nil, forL_cons, loop_nx, loop_ct, loop_bk, loop_rt, frzS, frzE, appS, parS, hsl, hsum, dEq_int, hz, decide_false, x1, x2, hfe', hto, hadd]
      rfl
theorem next_eq {R : Ru} (h : Wf R) {n y : Nat} {r : List Nat} (hn : n ≤ 18) (hs : (y :: r).sum = n) (hp : ∀ z ∈ y :: r, 1 ≤ z) : m_next_by_gaps [rE R, T (I (y :: r))] = ret (optT (nx0 R n (y :: r))) := by
  unfold m_next_by_gaps
  have hlen : (I (y :: r)).length = (y :: r).length := by unfold I; rw [List.length_map]
  have lR : (y :: r).length ≤ 100 := by
    have key : ∀ l : List Nat, (∀ z ∈ l, 1 ≤ z) → l.length ≤ l.sum := by
      intro l
      induction l with
      | nil => intro _; simp
      | cons a l ih => intro ha; rw [List.length_cons, List.sum_cons]; have := ih fun z hz => ha z (by simp [hz]); have := ha a (by simp); omega
    have := key _ hp
    omega
  have hr := rg3_g (v := ((y :: r).length : Int) - 1) (n := (y :: r).length) (a := 0) (by omega) (by omega) (by omega)
  have loop := loopRet (it := itR3 (b2 dSub (bA aLen (aC (vw 1) aN)) (cst (.int 1))) (b1 dNeg (cst (.int 1))) (b1 dNeg (cst (.int 1)))) (b := gN 2) (body := b_next_by_gaps_2) [.d (rE R), .d (T (I (y :: r))), .un, .un, .un, .un] (List.range (y :: r).length).reverse (fun i : Nat => D.int (i : Int)) (nf R n y r)
    (by
      have e : ((0 : Nat) : Int) - 1 = -1 := by decide
      rw [e, Nat.sub_zero] at hr
      have e2 : (rng ((0 : Nat) : Int) (y :: r).length).reverse.map D.int = ((List.range (y :: r).length).reverse).map fun i : Nat => D.int (i : Int) := by
        unfold rng
        rw [List.map_reverse, List.map_map, List.map_reverse]
        congr 1
        refine List.map_congr_left fun k _ => ?_
        simp only [Function.comp, Int.natCast_zero, Int.zero_add]
      rw [e2] at hr
      rw [← hlen] at hr ⊢
      simp only [itR3, bA, b1, b2, aC, aN, vw, nth, bnd_r, cst, aLen, seqD_T, Option.map_some, List.length_map, opt_s, dSub_ii, dNeg]
      exact congrArg opt hr)
    (fun i hi => ⟨_, rfl, place_eq h hn hs hp i (List.mem_range.mp (List.mem_reverse.mp hi))⟩)
  rw [nf_all R hs] at loop
  cases ho : nx0 R n (y :: r) with
  | none =>
    rw [ho] at loop
    have loop' : forS _ _ _ _ = ret (Out.nx _) := loop
    simp only [run_r, seq_r, cont_nx, cont_rt, cont_bk, cont_ct, if_r, sel_t, sel_f, ife_r, sele_t, sele_f, and_r, or_r, sela_t, sela_f, selo_t, selo_f, out_rt, out_rtO, out_nx, setD, setO, retS, retO, retV, retN, nilS, fgt, isB, truB, truD, notB, orV, andV, notV, b1, b2, bA, aC, aN, vr, vw, cst, nth, sset, bnd_r, opt_s, cond_true, cond_false, eTup_0, eTup_1, eTup_2, eTup_3, eLst_0, eLst_1, eLst_2, eLst_3, callE, mkE, List.replicate_succ, List.replicate_zero, List.length_cons, List.length_nil, List.length_map, if_true, if_false, Nat.reduceAdd, Nat.reduceSub, Bool.false_and, Bool.and_true, Bool.true_and, Bool.and_false, Bool.not_true, Bool.not_false, Bool.true_or, Bool.or_true, Bool.false_or, Bool.or_false, reduceIte, Bool.false_eq_true, dGt, dLt, dGe, dLe, dCmp, dSub, dNeg, aLen, seqD_tup, seqD_lst, seqD_T, Option.map_some, dIsN, dNotN, isNonD_non, isNonD_bl, isNonD_int, isNonD_str, isNonD_tup, isNonD_lst, isNonD_T, forL_nil, forL_cons, loop_nx, loop_ct, loop_bk, loop_rt, frzS, frzE, appS, parS] at loop' ⊢
    simp only [run_r, seq_r, cont_nx, cont_rt, cont_bk, cont_ct, if_r, sel_t, sel_f, ife_r, sele_t, sele_f, and_r, or_r, sela_t, sela_f, selo_t, selo_f, out_rt, out_rtO, out_nx, setD, setO, retS, retO, retV, retN, nilS, fgt, isB, truB, truD, notB, orV, andV, notV, b1, b2, bA, aC, aN, vr, vw, cst, nth, sset, bnd_r, opt_s, cond_true, cond_false, eTup_0, eTup_1, eTup_2, eTup_3, eLst_0, eLst_1, eLst_2, eLst_3, callE, mkE, List.replicate_succ, List.replicate_zero, List.length_cons, List.length_nil, List.length_map, if_true, if_false, Nat.reduceAdd, Nat.reduceSub, Bool.false_and, Bool.and_true, Bool.true_and, Bool.and_false, Bool.not_true, Bool.not_false, Bool.true_or, Bool.or_true, Bool.false_or, Bool.or_false, reduceIte, Bool.false_eq_true, dGt, dLt, dGe, dLe, dCmp, dSub, dNeg, aLen, seqD_tup, seqD_lst, seqD_T, Option.map_some, dIsN, dNotN, isNonD_non, isNonD_bl, isNonD_int, isNonD_str, isNonD_tup, isNonD_lst, isNonD_T, forL_nil, forL_cons, loop_nx, loop_ct, loop_bk, loop_rt, frzS, frzE, appS, parS, loop']
    rfl
  | some q =>
    rw [ho] at loop
    have loop' : forS _ _ _ _ = ret (Out.rt false (T q)) := loop
    simp only [run_r, seq_r, cont_nx, cont_rt, cont_bk, cont_ct, if_r, sel_t, sel_f, ife_r, sele_t, sele_f, and_r, or_r, sela_t, sela_f, selo_t, selo_f, out_rt, out_rtO, out_nx, setD, setO, retS, retO, retV, retN, nilS, fgt, isB, truB, truD, notB, orV, andV, notV, b1, b2, bA, aC, aN, vr, vw, cst, nth, sset, bnd_r, opt_s, cond_true, cond_false, eTup_0, eTup_1, eTup_2, eTup_3, eLst_0, eLst_1, eLst_2, eLst_3, callE, mkE, List.replicate_succ, List.replicate_zero, List.length_cons, List.length_nil, List.length_map, if_true, if_false, Nat.reduceAdd, Nat.reduceSub, Bool.false_and, Bool.and_true, Bool.true_and, Bool.and_false, Bool.not_true, Bool.not_false, Bool.true_or, Bool.or_true, Bool.false_or, Bool.or_false, reduceIte, Bool.false_eq_true, dGt, dLt, dGe, dLe, dCmp, dSub, dNeg, aLen, seqD_tup, seqD_lst, seqD_T, Option.map_some, dIsN, dNotN, isNonD_non, isNonD_bl, isNonD_int, isNonD_str, isNonD_tup, isNonD_lst, isNonD_T, forL_nil, forL_cons, loop_nx, loop_ct, loop_bk, loop_rt, frzS, frzE, appS, parS] at loop' ⊢
    simp only [run_r, seq_r, cont_nx, cont_rt, cont_bk, cont_ct, if_r, sel_t, sel_f, ife_r, sele_t, sele_f, and_r, or_r, sela_t, sela_f, selo_t, selo_f, out_rt, out_rtO, out_nx, setD, setO, retS, retO, retV, retN, nilS, fgt, isB, truB, truD, notB, orV, andV, notV, b1, b2, bA, aC, aN, vr, vw, cst, nth, sset, bnd_r, opt_s, cond_true, cond_false, eTup_0, eTup_1, eTup_2, eTup_3, eLst_0, eLst_1, eLst_2, eLst_3, callE, mkE, List.replicate_succ, List.replicate_zero, List.length_cons, List.length_nil, List.length_map, if_true, if_false, Nat.reduceAdd, Nat.reduceSub, Bool.false_and, Bool.and_true, Bool.true_and, Bool.and_false, Bool.not_true, Bool.not_false, Bool.true_or, Bool.or_true, Bool.false_or, Bool.or_false, reduceIte, Bool.false_eq_true, dGt, dLt, dGe, dLe, dCmp, dSub, dNeg, aLen, seqD_tup, seqD_lst, seqD_T, Option.map_some, dIsN, dNotN, isNonD_non, isNonD_bl, isNonD_int, isNonD_str, isNonD_tup, isNonD_lst, isNonD_T, forL_nil, forL_cons, loop_nx, loop_ct, loop_bk, loop_rt, frzS, frzE, appS, parS, loop']
    rfl
end K35
end
section
set_option maxHeartbeats 1000000
namespace K35
open PySem PySem.Spec PyProof.Rows L2 FL Lb P35
open P54 (downN parts mem_downN IsP)
theorem lastD_get {p : List Int} (h : p ≠ []) : ∃ q, p = q ++ [p.getLastD 0] := by
  refine ⟨p.dropLast, ?_⟩
  rw [List.getLastD_eq_getLast?, List.getLast?_eq_some_getLast h]
  exact (List.dropLast_concat_getLast h).symm
theorem ix_last {p : List Int} (h : p ≠ []) : dIx (T p) (.int (-1)) = some (.int (p.getLastD 0)) := by
  obtain ⟨q, e⟩ := lastD_get h
  generalize p.getLastD 0 = z at *
  subst e
  exact ixT_last q z
theorem rg1_any {i : Int} (h1 : -100000 < i) (h2 : i < 100000) : rg1 (.int i) = some ((List.range i.toNat).map fun k : Nat => D.int (k : Int)) := by
  show (if rgOk i = true then some (upI 0 i.toNat) else none) = _
  rw [if_pos (by unfold rgOk; rw [decide_eq_true (show -(2 ^ 62) ≤ i by omega), decide_eq_true (show i < 2 ^ 62 by omega)]; rfl), upI_rng]
  unfold rng
  rw [List.map_map]
  congr 1
  refine List.map_congr_left fun k _ => ?_
  simp only [Function.comp, Int.zero_add]
def lowB (R : Ru) (p : List Int) : Bool := !p.isEmpty && decide (p.getLastD 0 < (R.l : Int))
def bad (R : Ru) (p : List Int) (k : Nat) : Bool := !R.st (Lb.at' p k) (Lb.at' p (k + 1))
def wr (R : Ru) (p : List Int) : List Nat := (List.range (p.length - 1)).filter (bad R p)
def brk (R : Ru) (p : List Int) : Option Nat := (wr R p).head?.or (if lowB R p = true then some (p.length - 1) else none)
theorem low_ev (R : Ru) {p : List Int} (f g : EF) (ρ : FL.Env) (hf : f ρ = ret (T p)) (hg : g ρ = ret (rE R)) : isB (b2 dLt (b2 dIx f (b1 dNeg (cst (.int 1)))) (b2 dIx g (cst (.int 2)))) ρ = if p = [] then isB (b2 dLt (b2 dIx f (b1 dNeg (cst (.int 1)))) (b2 dIx g (cst (.int 2)))) ρ else ret (decide (p.getLastD 0 < (R.l : Int))) := by
  by_cases h : p = []
  · rw [if_pos h]
  · rw [if_neg h]
    simp only [run_r, seq_r, cont_nx, cont_rt, cont_bk, cont_ct, if_r, sel_t, sel_f, ife_r, sele_t, sele_f, and_r, or_r, sela_t, sela_f, selo_t, selo_f, out_rt, out_rtO, out_nx, setD, setO, retS, retO, retV, retN, nilS, fgt, isB, truB, truD, notB, orV, andV, notV, b1, b2, bA, aC, aN, vr, vw, cst, nth, sset, bnd_r, opt_s, cond_true, cond_false, eTup_0, eTup_1, eTup_2, eTup_3, eLst_0, eLst_1, eLst_2, eLst_3, callE, mkE, List.replicate_succ, List.replicate_zero, List.length_cons, List.length_nil, List.length_map, if_true, if_false, Nat.reduceAdd, Nat.reduceSub, Bool.false_and, Bool.and_true, Bool.true_and, Bool.and_false, Bool.not_true, Bool.not_false, Bool.true_or, Bool.or_true, Bool.false_or, Bool.or_false, reduceIte, Bool.false_eq_true, dGt, dLt, dGe, dLe, dCmp, dSub, dNeg, aLen, seqD_tup, seqD_lst, seqD_T, Option.map_some, dIsN, dNotN, isNonD_non, isNonD_bl, isNonD_int, isNonD_str, isNonD_tup, isNonD_lst, isNonD_T, forL_nil, forL_cons, loop_nx, loop_ct, loop_bk, loop_rt, frzS, frzE, appS, parS, hf, hg, ix_last h, rE_2]
theorem fb_val (R : Ru) (p : List Int) : ∀ L : List Nat, (L.findSome? fun k : Nat => if bad R p k = true then some (D.int (k : Int)) else none) = (L.filter (bad R p)).head?.map fun k : Nat => D.int (k : Int)
  | [] => rfl
  | k :: L => by
    rw [List.findSome?_cons, List.filter_cons]
    by_cases c : bad R p k = true
    · rw [if_pos c, if_pos c]; rfl
    · rw [if_neg c, if_neg c]; exact fb_val R p L
theorem first_break_eq {R : Ru} (h : Wf R) {p : List Int} (hp : p.length ≤ 1000) : m_first_break [rE R, T p] = ret (optN (brk R p)) := by
  unfold m_first_break
  have loop := loopRet (it := itR1 (b2 dSub (bA aLen (aC (vw 1) aN)) (cst (.int 1)))) (b := gN 2) (body := b_first_break_1) [.d (rE R), .d (T p), .un] (List.range (p.length - 1)) (fun k : Nat => D.int (k : Int)) (fun k : Nat => if bad R p k = true then some (D.int (k : Int)) else none)
    (by
      simp only [itR1, run_r, seq_r, cont_nx, cont_rt, cont_bk, cont_ct, if_r, sel_t, sel_f, ife_r, sele_t, sele_f, and_r, or_r, sela_t, sela_f, selo_t, selo_f, out_rt, out_rtO, out_nx, setD, setO, retS, retO, retV, retN, nilS, fgt, isB, truB, truD, notB, orV, andV, notV, b1, b2, bA, aC, aN, vr, vw, cst, nth, sset, bnd_r, opt_s, cond_true, cond_false, eTup_0, eTup_1, eTup_2, eTup_3, eLst_0, eLst_1, eLst_2, eLst_3, callE, mkE, List.replicate_succ, List.replicate_zero, List.length_cons, List.length_nil, List.length_map, if_true, if_false, Nat.reduceAdd, Nat.reduceSub, Bool.false_and, Bool.and_true, Bool.true_and, Bool.and_false, Bool.not_true, Bool.not_false, Bool.true_or, Bool.or_true, Bool.false_or, Bool.or_false, reduceIte, Bool.false_eq_true, dGt, dLt, dGe, dLe, dCmp, dSub, dNeg, aLen, seqD_tup, seqD_lst, seqD_T, Option.map_some, dIsN, dNotN, isNonD_non, isNonD_bl, isNonD_int, isNonD_str, isNonD_tup, isNonD_lst, isNonD_T, forL_nil, forL_cons, loop_nx, loop_ct, loop_bk, loop_rt, frzS, frzE, appS, parS]
      rw [rg1_any (by omega) (by omega), opt_s, show ((p.length : Int) - 1).toNat = p.length - 1 by omega])
    (fun k hk => by
      have hk' := List.mem_range.mp hk
      refine ⟨_, rfl, ?_⟩
      have x1 := ixT (p := p) (k := k) (by omega)
      have x2 := ixT (p := p) (k := k + 1) (by omega)
      rw [show ((k + 1 : Nat) : Int) = (k : Int) + 1 by omega] at x2
      have hm := may_eq h (Lb.at' p k) (Lb.at' p (k + 1))
      unfold b_first_break_1 bad
      by_cases c : R.st (Lb.at' p k) (Lb.at' p (k + 1)) = true
      · simp only [run_r, seq_r, cont_nx, cont_rt, cont_bk, cont_ct, if_r, sel_t, sel_f, ife_r, sele_t, sele_f, and_r, or_r, sela_t, sela_f, selo_t, selo_f, out_rt, out_rtO, out_nx, setD, setO, retS, retO, retV, retN, nilS, fgt, isB, truB, truD, notB, orV, andV, notV, b1, b2, bA, aC, aN, vr, vw, cst, nth, sset, bnd_r, opt_s, cond_true, cond_false, eTup_0, eTup_1, eTup_2, eTup_3, eLst_0, eLst_1, eLst_2, eLst_3, callE, mkE, List.replicate_succ, List.replicate_zero, List.length_cons, List.length_nil, List.length_map, if_true, if_false, Nat.reduceAdd, Nat.reduceSub, Bool.false_and, Bool.and_true, Bool.true_and, Bool.and_false, Bool.not_true, Bool.not_false, Bool.true_or, Bool.or_true, Bool.false_or, Bool.or_false, reduceIte, Bool.false_eq_true, dGt, dLt, dGe, dLe, dCmp, dSub, dNeg, aLen, seqD_tup, seqD_lst, seqD_T, Option.map_some, dIsN, dNotN, isNonD_non, isNonD_bl, isNonD_int, isNonD_str, isNonD_tup, isNonD_lst, isNonD_T, forL_nil, forL_cons, loop_nx, loop_ct, loop_bk, loop_rt, frzS, frzE, appS, parS, x1, dAdd_ii, x2, hm, c]
        rfl
      · have c' : R.st (Lb.at' p k) (Lb.at' p (k + 1)) = false := by simpa using c
        simp only [run_r, seq_r, cont_nx, cont_rt, cont_bk, cont_ct, if_r, sel_t, sel_f, ife_r, sele_t, sele_f, and_r, or_r, sela_t, sela_f, selo_t, selo_f, out_rt, out_rtO, out_nx, setD, setO, retS, retO, retV, retN, nilS, fgt, isB, truB, truD, notB, orV, andV, notV, b1, b2, bA, aC, aN, vr, vw, cst, nth, sset, bnd_r, opt_s, cond_true, cond_false, eTup_0, eTup_1, eTup_2, eTup_3, eLst_0, eLst_1, eLst_2, eLst_3, callE, mkE, List.replicate_succ, List.replicate_zero, List.length_cons, List.length_nil, List.length_map, if_true, if_false, Nat.reduceAdd, Nat.reduceSub, Bool.false_and, Bool.and_true, Bool.true_and, Bool.and_false, Bool.not_true, Bool.not_false, Bool.true_or, Bool.or_true, Bool.false_or, Bool.or_false, reduceIte, Bool.false_eq_true, dGt, dLt, dGe, dLe, dCmp, dSub, dNeg, aLen, seqD_tup, seqD_lst, seqD_T, Option.map_some, dIsN, dNotN, isNonD_non, isNonD_bl, isNonD_int, isNonD_str, isNonD_tup, isNonD_lst, isNonD_T, forL_nil, forL_cons, loop_nx, loop_ct, loop_bk, loop_rt, frzS, frzE, appS, parS, x1, dAdd_ii, x2, hm, c']
        rfl)
  rw [fb_val] at loop
  unfold brk wr
  cases ho : ((List.range (p.length - 1)).filter (bad R p)).head? with
  | some k =>
    rw [ho] at loop
    have loop' : forS _ _ _ _ = ret (Out.rt false (.int (k : Int))) := loop
    simp only [run_r, seq_r, cont_nx, cont_rt, cont_bk, cont_ct, if_r, sel_t, sel_f, ife_r, sele_t, sele_f, and_r, or_r, sela_t, sela_f, selo_t, selo_f, out_rt, out_rtO, out_nx, setD, setO, retS, retO, retV, retN, nilS, fgt, isB, truB, truD, notB, orV, andV, notV, b1, b2, bA, aC, aN, vr, vw, cst, nth, sset, bnd_r, opt_s, cond_true, cond_false, eTup_0, eTup_1, eTup_2, eTup_3, eLst_0, eLst_1, eLst_2, eLst_3, callE, mkE, List.replicate_succ, List.replicate_zero, List.length_cons, List.length_nil, List.length_map, if_true, if_false, Nat.reduceAdd, Nat.reduceSub, Bool.false_and, Bool.and_true, Bool.true_and, Bool.and_false, Bool.not_true, Bool.not_false, Bool.true_or, Bool.or_true, Bool.false_or, Bool.or_false, reduceIte, Bool.false_eq_true, dGt, dLt, dGe, dLe, dCmp, dSub, dNeg, aLen, seqD_tup, seqD_lst, seqD_T, Option.map_some, dIsN, dNotN, isNonD_non, isNonD_bl, isNonD_int, isNonD_str, isNonD_tup, isNonD_lst, isNonD_T, forL_nil, forL_cons, loop_nx, loop_ct, loop_bk, loop_rt, frzS, frzE, appS, parS] at loop' ⊢
    simp only [run_r, seq_r, cont_nx, cont_rt, cont_bk, cont_ct, if_r, sel_t, sel_f, ife_r, sele_t, sele_f, and_r, or_r, sela_t, sela_f, selo_t, selo_f, out_rt, out_rtO, out_nx, setD, setO, retS, retO, retV, retN, nilS, fgt, isB, truB, truD, notB, orV, andV, notV, b1, b2, bA, aC, aN, vr, vw, cst, nth, sset, bnd_r, opt_s, cond_true, cond_false, eTup_0, eTup_1, eTup_2, eTup_3, eLst_0, eLst_1, eLst_2, eLst_3, callE, mkE, List.replicate_succ, List.replicate_zero, List.length_cons, List.length_nil, List.length_map, if_true, if_false, Nat.reduceAdd, Nat.reduceSub, Bool.false_and, Bool.and_true, Bool.true_and, Bool.and_false, Bool.not_true, Bool.not_false, Bool.true_or, Bool.or_true, Bool.false_or, Bool.or_false, reduceIte, Bool.false_eq_true, dGt, dLt, dGe, dLe, dCmp, dSub, dNeg, aLen, seqD_tup, seqD_lst, seqD_T, Option.map_some, dIsN, dNotN, isNonD_non, isNonD_bl, isNonD_int, isNonD_str, isNonD_tup, isNonD_lst, isNonD_T, forL_nil, forL_cons, loop_nx, loop_ct, loop_bk, loop_rt, frzS, frzE, appS, parS, loop']
    rfl
  | none =>
    rw [ho] at loop
    have loop' : forS _ _ _ _ = ret (Out.nx _) := loop
    unfold lowB
    by_cases hp0 : p = []
    · subst hp0
      have hl : seqD (T []) = some [] := rfl
      simp only [run_r, seq_r, cont_nx, cont_rt, cont_bk, cont_ct, if_r, sel_t, sel_f, ife_r, sele_t, sele_f, and_r, or_r, sela_t, sela_f, selo_t, selo_f, out_rt, out_rtO, out_nx, setD, setO, retS, retO, retV, retN, nilS, fgt, isB, truB, truD, notB, orV, andV, notV, b1, b2, bA, aC, aN, vr, vw, cst, nth, sset, bnd_r, opt_s, cond_true, cond_false, eTup_0, eTup_1, eTup_2, eTup_3, eLst_0, eLst_1, eLst_2, eLst_3, callE, mkE, List.replicate_succ, List.replicate_zero, List.length_cons, List.length_nil, List.length_map, if_true, if_false, Nat.reduceAdd, Nat.reduceSub, Bool.false_and, Bool.and_true, Bool.true_and, Bool.and_false, Bool.not_true, Bool.not_false, Bool.true_or, Bool.or_true, Bool.false_or, Bool.or_false, reduceIte, Bool.false_eq_true, dGt, dLt, dGe, dLe, dCmp, dSub, dNeg, aLen, seqD_tup, seqD_lst, seqD_T, Option.map_some, dIsN, dNotN, isNonD_non, isNonD_bl, isNonD_int, isNonD_str, isNonD_tup, isNonD_lst, isNonD_T, forL_nil, forL_cons, loop_nx, loop_ct, loop_bk, loop_rt, frzS, frzE, appS, parS] at loop' ⊢
      simp only [run_r, seq_r, cont_nx, cont_rt, cont_bk, cont_ct, if_r, sel_t, sel_f, ife_r, sele_t, sele_f, and_r, or_r, sela_t, sela_f, selo_t, selo_f, out_rt, out_rtO, out_nx, setD, setO, retS, retO, retV, retN, nilS, fgt, isB, truB, truD, notB, orV, andV, notV, b1, b2, bA, aC, aN, vr, vw, cst, nth, sset, bnd_r, opt_s, cond_true, cond_false, eTup_0, eTup_1, eTup_2, eTup_3, eLst_0, eLst_1, eLst_2, eLst_3, callE, mkE, List.replicate_succ, List.replicate_zero, List.length_cons, List.length_nil, List.length_map, if_true, if_false, Nat.reduceAdd, Nat.reduceSub, Bool.false_and, Bool.and_true, Bool.true_and, Bool.and_false, Bool.not_true, Bool.not_false, Bool.true_or, Bool.or_true, Bool.false_or, Bool.or_false, reduceIte, Bool.false_eq_true, dGt, dLt, dGe, dLe, dCmp, dSub, dNeg, aLen, seqD_tup, seqD_lst, seqD_T, Option.map_some, dIsN, dNotN, isNonD_non, isNonD_bl, isNonD_int, isNonD_str, isNonD_tup, isNonD_lst, isNonD_T, forL_nil, forL_cons, loop_nx, loop_ct, loop_bk, loop_rt, frzS, frzE, appS, parS, loop', hl]
      rfl
    · have hpos : (0 : Int) < (p.length : Int) := by
        have := List.length_pos_iff.mpr hp0
        omega
      have he : p.isEmpty = false := by cases p with | nil => exact absurd rfl hp0 | cons _ _ => rfl
      by_cases c : p.getLastD 0 < (R.l : Int)
      · simp only [run_r, seq_r, cont_nx, cont_rt, cont_bk, cont_ct, if_r, sel_t, sel_f, ife_r, sele_t, sele_f, and_r, or_r, sela_t, sela_f, selo_t, selo_f, out_rt, out_rtO, out_nx, setD, setO, retS, retO, retV, retN, nilS, fgt, isB, truB, truD, notB, orV, andV, notV, b1, b2, bA, aC, aN, vr, vw, cst, nth, sset, bnd_r, opt_s, cond_true, cond_false, eTup_0, eTup_1, eTup_2, eTup_3, eLst_0, eLst_1, eLst_2, eLst_3, callE, mkE, List.replicate_succ, List.replicate_zero, List.length_cons, List.length_nil, List.length_map, if_true, if_false, Nat.reduceAdd, Nat.reduceSub, Bool.false_and, Bool.and_true, Bool.true_and, Bool.and_false, Bool.not_true, Bool.not_false, Bool.true_or, Bool.or_true, Bool.false_or, Bool.or_false, reduceIte, Bool.false_eq_true, dGt, dLt, dGe, dLe, dCmp, dSub, dNeg, aLen, seqD_tup, seqD_lst, seqD_T, Option.map_some, dIsN, dNotN, isNonD_non, isNonD_bl, isNonD_int, isNonD_str, isNonD_tup, isNonD_lst, isNonD_T, forL_nil, forL_cons, loop_nx, loop_ct, loop_bk, loop_rt, frzS, frzE, appS, parS] at loop' ⊢
        simp only [run_r, seq_r, cont_nx, cont_rt, cont_bk, cont_ct, if_r, sel_t, sel_f, ife_r, sele_t, sele_f, and_r, or_r, sela_t, sela_f, selo_t, selo_f, out_rt, out_rtO, out_nx, setD, setO, retS, retO, retV, retN, nilS, fgt, isB, truB, truD, notB, orV, andV, notV, b1, b2, bA, aC, aN, vr, vw, cst, nth, sset, bnd_r, opt_s, cond_true, cond_false, eTup_0, eTup_1, eTup_2, eTup_3, eLst_0, eLst_1, eLst_2, eLst_3, callE, mkE, List.replicate_succ, List.replicate_zero, List.length_cons, List.length_nil, List.length_map, if_true, if_false, Nat.reduceAdd, Nat.reduceSub, Bool.false_and, Bool.and_true, Bool.true_and, Bool.and_false, Bool.not_true, Bool.not_false, Bool.true_or, Bool.or_true, Bool.false_or, Bool.or_false, reduceIte, Bool.false_eq_true, dGt, dLt, dGe, dLe, dCmp, dSub, dNeg, aLen, seqD_tup, seqD_lst, seqD_T, Option.map_some, dIsN, dNotN, isNonD_non, isNonD_bl, isNonD_int, isNonD_str, isNonD_tup, isNonD_lst, isNonD_T, forL_nil, forL_cons, loop_nx, loop_ct, loop_bk, loop_rt, frzS, frzE, appS, parS, loop', hpos, decide_true, ix_last hp0, rE_2, c, he]
        have e : ((p.length - 1 : Nat) : Int) = (p.length : Int) - 1 := by omega
        show ret (D.int ((p.length : Int) - 1)) = ret (D.int ((p.length - 1 : Nat) : Int))
        rw [e]
      · simp only [run_r, seq_r, cont_nx, cont_rt, cont_bk, cont_ct, if_r, sel_t, sel_f, ife_r, sele_t, sele_f, and_r, or_r, sela_t, sela_f, selo_t, selo_f, out_rt, out_rtO, out_nx, setD, setO, retS, retO, retV, retN, nilS, fgt, isB, truB, truD, notB, orV, andV, notV, b1, b2, bA, aC, aN, vr, vw, cst, nth, sset, bnd_r, opt_s, cond_true, cond_false, eTup_0, eTup_1, eTup_2, eTup_3, eLst_0, eLst_1, eLst_2, eLst_3, callE, mkE, List.replicate_succ, List.replicate_zero, List.length_cons, List.length_nil, List.length_map, if_true, if_false, Nat.reduceAdd, Nat.reduceSub, Bool.false_and, Bool.and_true, Bool.true_and, Bool.and_false, Bool.not_true, Bool.not_false, Bool.true_or, Bool.or_true, Bool.false_or, Bool.or_false, reduceIte, Bool.false_eq_true, dGt, dLt, dGe, dLe, dCmp, dSub, dNeg, aLen, seqD_tup, seqD_lst, seqD_T, Option.map_some, dIsN, dNotN, isNonD_non, isNonD_bl, isNonD_int, isNonD_str, isNonD_tup, isNonD_lst, isNonD_T, forL_nil, forL_cons, loop_nx, loop_ct, loop_bk, loop_rt, frzS, frzE, appS, parS] at loop' ⊢
        simp only [run_r, seq_r, cont_nx, cont_rt, cont_bk, cont_ct, if_r, sel_t, sel_f, ife_r, sele_t, sele_f, and_r, or_r, sela_t, sela_f, selo_t, selo_f, out_rt, out_rtO, out_nx, setD, setO, retS, retO, retV, retN, nilS, fgt, isB, truB, truD, notB, orV, andV, notV, b1, b2, bA, aC, aN, vr, vw, cst, nth, sset, bnd_r, opt_s, cond_true, cond_false, eTup_0, eTup_1, eTup_2, eTup_3, eLst_0, eLst_1, eLst_2, eLst_3, callE, mkE, List.replicate_succ, List.replicate_zero, List.length_cons, List.length_nil, List.length_map, if_true, if_false, Nat.reduceAdd, Nat.reduceSub, Bool.false_and, Bool.and_true, Bool.true_and, Bool.and_false, Bool.not_true, Bool.not_false, Bool.true_or, Bool.or_true, Bool.false_or, Bool.or_false, reduceIte, Bool.false_eq_true, dGt, dLt, dGe, dLe, dCmp, dSub, dNeg, aLen, seqD_tup, seqD_lst, seqD_T, Option.map_some, dIsN, dNotN, isNonD_non, isNonD_bl, isNonD_int, isNonD_str, isNonD_tup, isNonD_lst, isNonD_T, forL_nil, forL_cons, loop_nx, loop_ct, loop_bk, loop_rt, frzS, frzE, appS, parS, loop', hpos, decide_true, ix_last hp0, rE_2, c, decide_false, he]
        rfl
def keep (R : Ru) (p : List Int) : Bool := !lowB R p && (wr R p).isEmpty
theorem keeps_eq {R : Ru} (h : Wf R) {p : List Int} (hp : p.length ≤ 1000) : m_keeps_gaps [rE R, T p] = ret (.bl (keep R p)) := by
  unfold m_keeps_gaps keep
  simp only [run_r, seq_r, cont_nx, cont_rt, cont_bk, cont_ct, if_r, sel_t, sel_f, ife_r, sele_t, sele_f, and_r, or_r, sela_t, sela_f, selo_t, selo_f, out_rt, out_rtO, out_nx, setD, setO, retS, retO, retV, retN, nilS, fgt, isB, truB, truD, notB, orV, andV, notV, b1, b2, bA, aC, aN, vr, vw, cst, nth, sset, bnd_r, opt_s, cond_true, cond_false, eTup_0, eTup_1, eTup_2, eTup_3, eLst_0, eLst_1, eLst_2, eLst_3, callE, mkE, List.replicate_succ, List.replicate_zero, List.length_cons, List.length_nil, List.length_map, if_true, if_false, Nat.reduceAdd, Nat.reduceSub, Bool.false_and, Bool.and_true, Bool.true_and, Bool.and_false, Bool.not_true, Bool.not_false, Bool.true_or, Bool.or_true, Bool.false_or, Bool.or_false, reduceIte, Bool.false_eq_true, dGt, dLt, dGe, dLe, dCmp, dSub, dNeg, aLen, seqD_tup, seqD_lst, seqD_T, Option.map_some, dIsN, dNotN, isNonD_non, isNonD_bl, isNonD_int, isNonD_str, isNonD_tup, isNonD_lst, isNonD_T, forL_nil, forL_cons, loop_nx, loop_ct, loop_bk, loop_rt, frzS, frzE, appS, parS, first_break_eq h hp]
  unfold brk
  cases ho : wr R p with
  | cons k L =>
    simp only [List.head?_cons, Option.or_some, Option.some_or, optN, List.isEmpty_cons, Bool.and_false, isNonD_int]
  | nil =>
    cases hb : lowB R p with
    | true => simp only [List.head?_nil, Option.none_or, if_true, optN, isNonD_int, Bool.not_true, Bool.false_and]
    | false => simp only [List.head?_nil, Option.none_or, Bool.false_eq_true, if_false, optN, isNonD_non, Bool.not_false, Bool.true_and, List.isEmpty_nil]
theorem dEq_nilL {ds : List D} (h : okd 60 (.lst ds) = true) : dEq (.lst ds) (.lst []) = some (.bl ds.isEmpty) := by
  unfold dEq
  rw [if_pos (by rw [h]; rfl)]
  cases ds with
  | nil => rfl
  | cons d ds => rfl
theorem dNe_nilL {ds : List D} (h : okd 60 (.lst ds) = true) : dNe (.lst ds) (.lst []) = some (.bl (!ds.isEmpty)) := by
  unfold dNe
  rw [if_pos (by rw [h]; rfl)]
  cases ds with
  | nil => rfl
  | cons d ds => rfl
theorem okN (L : List Nat) : okd 60 (.lst (L.map fun k : Nat => D.int (k : Int))) = true := by
  show (L.map fun k : Nat => D.int (k : Int)).all (okd 59) = true
  rw [List.all_eq_true]
  intro d hd
  rw [List.mem_map] at hd
  obtain ⟨k, _, rfl⟩ := hd
  rfl
theorem wr_eq {R : Ru} (h : Wf R) {p : List Int} (hp : p.length ≤ 1000) (i : Nat) (ρ : FL.Env) {c : EF} (hc : c = lcE (itR1 (b2 dSub (bA aLen (aC (vw 1) aN)) (cst (.int 1)))) (gN i) (notB (truB (callE m__law_stands (aC (vr 0) (aC (b2 dIx (vw 1) (vw i)) (aC (b2 dIx (vw 1) (b2 dAdd (vw i) (cst (.int 1)))) aN)))))) (vr i) [i]) (h1 : vw 1 ρ = ret (T p)) (h0 : ∀ d, vr 0 (sset (fgt [i] ρ) i (.d d)) = ret (rE R)) (h2 : ∀ d, vw 1 (sset (fgt [i] ρ) i (.d d)) = ret (T p)) (h3 : ∀ d, vw i (sset (fgt [i] ρ) i (.d d)) = ret d) (h4 : ∀ d, vr i (sset (fgt [i] ρ) i (.d d)) = ret d) : c ρ = ret (.lst ((wr R p).map fun k : Nat => D.int (k : Int))) := by
  subst hc
  unfold wr
  refine lcFil (fun k : Nat => D.int (k : Int)) (bad R p) _ (List.range (p.length - 1)) ?_ (by rw [List.length_range]; omega) fun k hk => ⟨_, rfl, ?_, fun _ => h4 _⟩
  · simp only [itR1, b2, bA, aC, aN, h1, bnd_r, aLen, seqD_T, Option.map_some, List.length_map, opt_s, cst, dSub_ii]
    rw [rg1_any (by omega) (by omega), opt_s, show ((p.length : Int) - 1).toNat = p.length - 1 by omega]
  · have hk' := List.mem_range.mp hk
    have x1 := ixT (p := p) (k := k) (by omega)
    have x2 := ixT (p := p) (k := k + 1) (by omega)
    rw [show ((k + 1 : Nat) : Int) = (k : Int) + 1 by omega] at x2
    have hm := lst_eq h (Lb.at' p k) (Lb.at' p (k + 1))
    unfold bad
    by_cases c : R.st (Lb.at' p k) (Lb.at' p (k + 1)) = true
    · simp only [notB, truB, callE, b2, aC, aN, h0, h2, h3, cst, bnd_r, x1, dAdd_ii, x2, hm, c, opt_s, truD, Bool.not_true]
    · have c' : R.st (Lb.at' p k) (Lb.at' p (k + 1)) = false := by simpa using c
      simp only [notB, truB, callE, b2, aC, aN, h0, h2, h3, cst, bnd_r, x1, dAdd_ii, x2, hm, c', opt_s, truD, Bool.not_false]
theorem lkeeps_eq {R : Ru} (h : Wf R) {p : List Int} (hp : p.length ≤ 1000) : m__law_keeps [rE R, T p] = ret (.bl (keep R p)) := by
  unfold m__law_keeps keep lowB
  have hw := wr_eq h hp 2 [.d (rE R), .d (T p), .un] (c := c__law_keeps_1) rfl rfl (fun _ => rfl) (fun _ => rfl) (fun _ => rfl) (fun _ => rfl)
  have he := dEq_nilL (okN (wr R p))
  rw [List.isEmpty_map] at he
  by_cases hp0 : p = []
  · subst hp0
    simp only [run_r, seq_r, cont_nx, cont_rt, cont_bk, cont_ct, if_r, sel_t, sel_f, ife_r, sele_t, sele_f, and_r, or_r, sela_t, sela_f, selo_t, selo_f, out_rt, out_rtO, out_nx, setD, setO, retS, retO, retV, retN, nilS, fgt, isB, truB, truD, notB, orV, andV, notV, b1, b2, bA, aC, aN, vr, vw, cst, nth, sset, bnd_r, opt_s, cond_true, cond_false, eTup_0, eTup_1, eTup_2, eTup_3, eLst_0, eLst_1, eLst_2, eLst_3, callE, mkE, List.replicate_succ, List.replicate_zero, List.length_cons, List.length_nil, List.length_map, if_true, if_false, Nat.reduceAdd, Nat.reduceSub, Bool.false_and, Bool.and_true, Bool.true_and, Bool.and_false, Bool.not_true, Bool.not_false, Bool.true_or, Bool.or_true, Bool.false_or, Bool.or_false, reduceIte, Bool.false_eq_true, dGt, dLt, dGe, dLe, dCmp, dSub, dNeg, aLen, seqD_tup, seqD_lst, seqD_T, Option.map_some, dIsN, dNotN, isNonD_non, isNonD_bl, isNonD_int, isNonD_str, isNonD_tup, isNonD_lst, isNonD_T, forL_nil, forL_cons, loop_nx, loop_ct, loop_bk, loop_rt, frzS, frzE, appS, parS, dNe_Te, decide_true, hw, he, List.isEmpty_nil]
  · have he0 : p.isEmpty = false := by cases p with | nil => exact absurd rfl hp0 | cons _ _ => rfl
    by_cases c : p.getLastD 0 < (R.l : Int)
    · simp only [run_r, seq_r, cont_nx, cont_rt, cont_bk, cont_ct, if_r, sel_t, sel_f, ife_r, sele_t, sele_f, and_r, or_r, sela_t, sela_f, selo_t, selo_f, out_rt, out_rtO, out_nx, setD, setO, retS, retO, retV, retN, nilS, fgt, isB, truB, truD, notB, orV, andV, notV, b1, b2, bA, aC, aN, vr, vw, cst, nth, sset, bnd_r, opt_s, cond_true, cond_false, eTup_0, eTup_1, eTup_2, eTup_3, eLst_0, eLst_1, eLst_2, eLst_3, callE, mkE, List.replicate_succ, List.replicate_zero, List.length_cons, List.length_nil, List.length_map, if_true, if_false, Nat.reduceAdd, Nat.reduceSub, Bool.false_and, Bool.and_true, Bool.true_and, Bool.and_false, Bool.not_true, Bool.not_false, Bool.true_or, Bool.or_true, Bool.false_or, Bool.or_false, reduceIte, Bool.false_eq_true, dGt, dLt, dGe, dLe, dCmp, dSub, dNeg, aLen, seqD_tup, seqD_lst, seqD_T, Option.map_some, dIsN, dNotN, isNonD_non, isNonD_bl, isNonD_int, isNonD_str, isNonD_tup, isNonD_lst, isNonD_T, forL_nil, forL_cons, loop_nx, loop_ct, loop_bk, loop_rt, frzS, frzE, appS, parS, dNe_Te, hp0, decide_false, ix_last hp0, rE_2, c, decide_true, he0]
    · simp only [run_r, seq_r, cont_nx, cont_rt, cont_bk, cont_ct, if_r, sel_t, sel_f, ife_r, sele_t, sele_f, and_r, or_r, sela_t, sela_f, selo_t, selo_f, out_rt, out_rtO, out_nx, setD, setO, retS, retO, retV, retN, nilS, fgt, isB, truB, truD, notB, orV, andV, notV, b1, b2, bA, aC, aN, vr, vw, cst, nth, sset, bnd_r, opt_s, cond_true, cond_false, eTup_0, eTup_1, eTup_2, eTup_3, eLst_0, eLst_1, eLst_2, eLst_3, callE, mkE, List.replicate_succ, List.replicate_zero, List.length_cons, List.length_nil, List.length_map, if_true, if_false, Nat.reduceAdd, Nat.reduceSub, Bool.false_and, Bool.and_true, Bool.true_and, Bool.and_false, Bool.not_true, Bool.not_false, Bool.true_or, Bool.or_true, Bool.false_or, Bool.or_false, reduceIte, Bool.false_eq_true, dGt, dLt, dGe, dLe, dCmp, dSub, dNeg, aLen, seqD_tup, seqD_lst, seqD_T, Option.map_some, dIsN, dNotN, isNonD_non, isNonD_bl, isNonD_int, isNonD_str, isNonD_tup, isNonD_lst, isNonD_T, forL_nil, forL_cons, loop_nx, loop_ct, loop_bk, loop_rt, frzS, frzE, appS, parS, dNe_Te, hp0, decide_false, ix_last hp0, rE_2, c, hw, he, he0]
theorem lbreak_eq {R : Ru} (h : Wf R) {p : List Int} (hp : p.length ≤ 1000) : m__law_break [rE R, T p] = ret (optN (brk R p)) := by
  unfold m__law_break brk lowB
  have hw := wr_eq h hp 3 [.d (rE R), .d (T p), .un, .un] (c := c__law_break_1) rfl rfl (fun _ => rfl) (fun _ => rfl) (fun _ => rfl) (fun _ => rfl)
  have he := dNe_nilL (okN (wr R p))
  rw [List.isEmpty_map] at he
  cases ho : wr R p with
  | cons k L =>
    rw [ho] at hw he
    have hx : dIx (.lst ((k :: L).map fun k : Nat => D.int (k : Int))) (.int 0) = some (.int (k : Int)) := ixD (k := 0) rfl
    simp only [run_r, seq_r, cont_nx, cont_rt, cont_bk, cont_ct, if_r, sel_t, sel_f, ife_r, sele_t, sele_f, and_r, or_r, sela_t, sela_f, selo_t, selo_f, out_rt, out_rtO, out_nx, setD, setO, retS, retO, retV, retN, nilS, fgt, isB, truB, truD, notB, orV, andV, notV, b1, b2, bA, aC, aN, vr, vw, cst, nth, sset, bnd_r, opt_s, cond_true, cond_false, eTup_0, eTup_1, eTup_2, eTup_3, eLst_0, eLst_1, eLst_2, eLst_3, callE, mkE, List.replicate_succ, List.replicate_zero, List.length_cons, List.length_nil, List.length_map, if_true, if_false, Nat.reduceAdd, Nat.reduceSub, Bool.false_and, Bool.and_true, Bool.true_and, Bool.and_false, Bool.not_true, Bool.not_false, Bool.true_or, Bool.or_true, Bool.false_or, Bool.or_false, reduceIte, Bool.false_eq_true, dGt, dLt, dGe, dLe, dCmp, dSub, dNeg, aLen, seqD_tup, seqD_lst, seqD_T, Option.map_some, dIsN, dNotN, isNonD_non, isNonD_bl, isNonD_int, isNonD_str, isNonD_tup, isNonD_lst, isNonD_T, forL_nil, forL_cons, loop_nx, loop_ct, loop_bk, loop_rt, frzS, frzE, appS, parS, hw, he, List.isEmpty_cons, hx]
    rfl
  | nil =>
    rw [ho] at hw he
    by_cases hp0 : p = []
    · subst hp0
      simp only [run_r, seq_r, cont_nx, cont_rt, cont_bk, cont_ct, if_r, sel_t, sel_f, ife_r, sele_t, sele_f, and_r, or_r, sela_t, sela_f, selo_t, selo_f, out_rt, out_rtO, out_nx, setD, setO, retS, retO, retV, retN, nilS, fgt, isB, truB, truD, notB, orV, andV, notV, b1, b2, bA, aC, aN, vr, vw, cst, nth, sset, bnd_r, opt_s, cond_true, cond_false, eTup_0, eTup_1, eTup_2, eTup_3, eLst_0, eLst_1, eLst_2, eLst_3, callE, mkE, List.replicate_succ, List.replicate_zero, List.length_cons, List.length_nil, List.length_map, if_true, if_false, Nat.reduceAdd, Nat.reduceSub, Bool.false_and, Bool.and_true, Bool.true_and, Bool.and_false, Bool.not_true, Bool.not_false, Bool.true_or, Bool.or_true, Bool.false_or, Bool.or_false, reduceIte, Bool.false_eq_true, dGt, dLt, dGe, dLe, dCmp, dSub, dNeg, aLen, seqD_tup, seqD_lst, seqD_T, Option.map_some, dIsN, dNotN, isNonD_non, isNonD_bl, isNonD_int, isNonD_str, isNonD_tup, isNonD_lst, isNonD_T, forL_nil, forL_cons, loop_nx, loop_ct, loop_bk, loop_rt, frzS, frzE, appS, parS, hw, he, List.isEmpty_nil, dNe_Te, decide_true]
      rfl
    · have he0 : p.isEmpty = false := by cases p with | nil => exact absurd rfl hp0 | cons _ _ => rfl
      have hpos := List.length_pos_iff.mpr hp0
      by_cases c : p.getLastD 0 < (R.l : Int)
      · simp only [run_r, seq_r, cont_nx, cont_rt, cont_bk, cont_ct, if_r, sel_t, sel_f, ife_r, sele_t, sele_f, and_r, or_r, sela_t, sela_f, selo_t, selo_f, out_rt, out_rtO, out_nx, setD, setO, retS, retO, retV, retN, nilS, fgt, isB, truB, truD, notB, orV, andV, notV, b1, b2, bA, aC, aN, vr, vw, cst, nth, sset, bnd_r, opt_s, cond_true, cond_false, eTup_0, eTup_1, eTup_2, eTup_3, eLst_0, eLst_1, eLst_2, eLst_3, callE, mkE, List.replicate_succ, List.replicate_zero, List.length_cons, List.length_nil, List.length_map, if_true, if_false, Nat.reduceAdd, Nat.reduceSub, Bool.false_and, Bool.and_true, Bool.true_and, Bool.and_false, Bool.not_true, Bool.not_false, Bool.true_or, Bool.or_true, Bool.false_or, Bool.or_false, reduceIte, Bool.false_eq_true, dGt, dLt, dGe, dLe, dCmp, dSub, dNeg, aLen, seqD_tup, seqD_lst, seqD_T, Option.map_some, dIsN, dNotN, isNonD_non, isNonD_bl, isNonD_int, isNonD_str, isNonD_tup, isNonD_lst, isNonD_T, forL_nil, forL_cons, loop_nx, loop_ct, loop_bk, loop_rt, frzS, frzE, appS, parS, hw, he, List.isEmpty_nil, dNe_Te, hp0, decide_false, ix_last hp0, rE_2, c, decide_true, he0]
        show ret (D.int ((p.length : Int) - 1)) = ret (D.int ((p.length - 1 : Nat) : Int))
        rw [show ((p.length - 1 : Nat) : Int) = (p.length : Int) - 1 by omega]
      · simp only [run_r, seq_r, cont_nx, cont_rt, cont_bk, cont_ct, if_r, sel_t, sel_f, ife_r, sele_t, sele_f, and_r, or_r, sela_t, sela_f, selo_t, selo_f, out_rt, out_rtO, out_nx, setD, setO, retS, retO, retV, retN, nilS, fgt, isB, truB, truD, notB, orV, andV, notV, b1, b2, bA, aC, aN, vr, vw, cst, nth, sset, bnd_r, opt_s, cond_true, cond_false, eTup_0, eTup_1, eTup_2, eTup_3, eLst_0, eLst_1, eLst_2, eLst_3, callE, mkE, List.replicate_succ, List.replicate_zero, List.length_cons, List.length_nil, List.length_map, if_true, if_false, Nat.reduceAdd, Nat.reduceSub, Bool.false_and, Bool.and_true, Bool.true_and, Bool.and_false, Bool.not_true, Bool.not_false, Bool.true_or, Bool.or_true, Bool.false_or, Bool.or_false, reduceIte, Bool.false_eq_true, dGt, dLt, dGe, dLe, dCmp, dSub, dNeg, aLen, seqD_tup, seqD_lst, seqD_T, Option.map_some, dIsN, dNotN, isNonD_non, isNonD_bl, isNonD_int, isNonD_str, isNonD_tup, isNonD_lst, isNonD_T, forL_nil, forL_cons, loop_nx, loop_ct, loop_bk, loop_rt, frzS, frzE, appS, parS, hw, he, List.isEmpty_nil, dNe_Te, hp0, decide_false, ix_last hp0, rE_2, c, he0]
        rfl
/-! keeping and the filter -/
theorem wr_cons (R : Ru) (x y : Int) (r : List Int) : (wr R (x :: y :: r)).isEmpty = (R.st x y && (wr R (y :: r)).isEmpty) := by
  unfold wr
  rw [show (x :: y :: r).length - 1 = (y :: r).length - 1 + 1 by simp, List.range_succ_eq_map, List.filter_cons]
  have hb : bad R (x :: y :: r) 0 = !R.st x y := rfl
  have hm : ((List.range ((y :: r).length - 1)).map Nat.succ).filter (bad R (x :: y :: r)) = ((List.range ((y :: r).length - 1)).filter (bad R (y :: r))).map Nat.succ := by
    rw [List.filter_map]; rfl
  rw [hb, hm]
  cases c : R.st x y
  · rw [if_pos (by decide)]; rfl
  · rw [if_neg (by decide), List.isEmpty_map, Bool.true_and]
theorem okF_keep (R : Ru) : ∀ (p : List Int) (m : Int), IsP m p → okF R p = keep R p
  | [], m, _ => rfl
  | [x], m, h => by
    unfold keep lowB
    have e : (wr R [x]).isEmpty = true := rfl
    rw [e]
    show (decide ((R.l : Int) ≤ x) && true) = (!(true && decide (x < (R.l : Int))) && true)
    by_cases c : (R.l : Int) ≤ x
    · rw [decide_eq_true c, decide_eq_false (by omega)]; rfl
    · rw [decide_eq_false c, decide_eq_true (by omega)]; rfl
  | x :: y :: r, m, h => by
    rw [P54.isP_cons] at h
    have h2 := h.2.2
    have ih := okF_keep R (y :: r) x h2
    rw [P54.isP_cons] at h2
    unfold keep lowB at ih ⊢
    rw [wr_cons]
    have e1 : (x :: y :: r).getLastD 0 = (y :: r).getLastD 0 := rfl
    have e2 : okF R (x :: y :: r) = (decide ((R.l : Int) ≤ x) && ((decide ((R.l : Int) ≤ y) && R.st x y) && okE R y r)) := rfl
    have e3 : okF R (y :: r) = (decide ((R.l : Int) ≤ y) && okE R y r) := rfl
    have e4 : (x :: y :: r).isEmpty = (y :: r).isEmpty := rfl
    rw [e3] at ih
    rw [e1, e2, e4]
    generalize (!(y :: r).isEmpty && decide ((y :: r).getLastD 0 < (R.l : Int))) = A at *
    generalize (wr R (y :: r)).isEmpty = B at *
    by_cases c : (R.l : Int) ≤ y
    · rw [decide_eq_true c] at ih ⊢
      rw [decide_eq_true (show (R.l : Int) ≤ x by omega)]
      rw [Bool.true_and] at ih
      rw [ih]
      cases A <;> cases B <;> cases R.st x y <;> rfl
    · rw [decide_eq_false c] at ih ⊢
      rw [Bool.false_and] at ih
      rw [Bool.false_and, Bool.false_and, Bool.and_false]
      cases A <;> cases B <;> cases R.st x y <;> first | rfl | exact absurd ih (by decide)
theorem LL_keep (R : Ru) {n : Nat} (h : n < 60) : LL R n = (parts 60 n n).filter (keep R) :=
  List.filter_congr fun p hp => okF_keep R p n ((P54.mem_parts (k := 60) h).mp hp).1
end K35
end
section
set_option maxHeartbeats 1000000
namespace K35
open PySem PySem.Spec PyProof.Rows L2 FL Lb P35
open P54 (downN parts mem_downN IsP)
theorem leq_eq : ∀ k, m__law_eq k = lawEqM k
  | 0 => rfl
  | k + 1 => by unfold m__law_eq lawEqM; rw [leq_eq k]; rfl
theorem leqB (b : Bool) : m__law_eq 60 [.bl b, .bl b] = ret (.bl true) := by
  rw [leq_eq]; exact lawEq60 rfl
theorem leqN (o : Option Nat) : m__law_eq 60 [optN o, optN o] = ret (.bl true) := by
  rw [leq_eq]; cases o <;> exact lawEq60 rfl
theorem leqO {o : Option (List Int)} (h : ∀ p, o = some p → p.length ≤ 1000) : m__law_eq 60 [optT o, optT o] = ret (.bl true) := by
  rw [leq_eq]
  cases o with
  | none => exact lawEq60 rfl
  | some p => exact lawEq60 (gdT (by rw [sizeLine_eq]; have := h p rfl; omega))
theorem leqL {L : List (List Int)} (hL : L.length < 1000000) (h : ∀ p ∈ L, p.length < 1000000) : m__law_eq 60 [.lst (L.map T), .lst (L.map T)] = ret (.bl true) := by
  rw [leq_eq]
  exact lawEq60 (gdRows L hL h)
theorem lawp_eq : ∀ k, m__law_partitions k = K54.m__law_partitions k
  | 0 => rfl
  | k + 1 => by unfold m__law_partitions K54.m__law_partitions; rw [lawp_eq k]; rfl
theorem drawn_same : m__law_drawn = K54.m__law_drawn := rfl
theorem pick_same : m__law_pick = Lb.pickM := rfl
/-- a comprehension with draws -/
theorem lcE_tr {it : AF} {b : GF} {el : EF} {vs : List Nat} {ρ : FL.Env} {l : List D} {Q : D → Prop} (hit : it ρ = ret l) (hz : l.length ≤ sizeLine) (h : ∀ d ∈ l, ∃ ρ1, b d (fgt vs ρ) = some ρ1 ∧ Tr (el ρ1) Q) : Tr (lcE it b yesB el vs ρ) (fun d => ∃ ds, d = .lst ds ∧ ds.length = l.length ∧ ∀ x ∈ ds, Q x) := by
  unfold lcE
  rw [hit, bnd_r, if_pos hz]
  have main : ∀ r : List D, (∀ d ∈ r, d ∈ l) → Tr (lcL b yesB el (fgt vs ρ) r) (fun ds => ds.length = r.length ∧ ∀ x ∈ ds, Q x) := by
    intro r
    induction r with
    | nil => intro _; exact Tr.ret ⟨rfl, by simp⟩
    | cons d r ih =>
      intro hr
      obtain ⟨ρ1, e1, e2⟩ := h d (hr d (by simp))
      rw [lcL, e1]
      simp only [opt_s, bnd_r, yesB, cond_true]
      refine Tr.bnd e2 fun x hx => ?_
      refine Tr.bnd (ih fun y hy => hr y (by simp [hy])) ?_
      rintro ds ⟨h1, h2⟩
      refine Tr.ret ⟨by simp [h1], fun y hy => ?_⟩
      rcases List.mem_cons.mp hy with rfl | hy
      · exact hx
      · exact h2 y hy
  refine Tr.bnd (main l fun _ h => h) ?_
  rintro ds ⟨h1, h2⟩
  exact Tr.ret ⟨ds, rfl, h1, h2⟩
theorem ints_of : ∀ (ds : List D), (∀ x ∈ ds, ∃ z : Int, x = D.int z) → ∃ p : List Int, ds = p.map D.int ∧ p.length = ds.length
  | [], _ => ⟨[], rfl, rfl⟩
  | d :: ds, h => by
    obtain ⟨z, e⟩ := h d List.mem_cons_self
    obtain ⟨p, e1, e2⟩ := ints_of ds fun x hx => h x (List.mem_cons_of_mem _ hx)
    exact ⟨z :: p, by rw [e, e1]; rfl, by rw [List.length_cons, List.length_cons, e2]⟩
theorem bnd_id {α : Type} (m : M α) : bnd m (fun x => ret x) = m := by
  funext ω
  unfold FL.bnd
  cases h : m ω with
  | none => rfl
  | some x => rfl
theorem entry_tr {top : Nat} {a b c d : SV} (ht : top ≤ 10) : Tr (ifE (isB (b2 dGt (callE drawM (aC (vr 0) (aC (cst (.int 4)) aN))) (cst (.int 0)))) (b2 dSub (callE drawM (aC (vr 0) (aC (b2 dAdd (vw 1) (cst (.int 2))) aN))) (cst (.int 1))) (callE drawM (aC (vr 0) (aC (cst (.int 2)) aN))) [.d .tok, .d (.int (top : Int)), a, b, c, d]) (fun x => ∃ z : Int, x = .int z) := by
  simp only [run_r, seq_r, cont_nx, cont_rt, cont_bk, cont_ct, if_r, sel_t, sel_f, ife_r, sele_t, sele_f, and_r, or_r, sela_t, sela_f, selo_t, selo_f, out_rt, out_rtO, out_nx, setD, setO, retS, retO, retV, retN, nilS, fgt, isB, truB, truD, notB, orV, andV, notV, b1, b2, bA, aC, aN, vr, vw, cst, nth, sset, bnd_r, opt_s, cond_true, cond_false, eTup_0, eTup_1, eTup_2, eTup_3, eLst_0, eLst_1, eLst_2, eLst_3, callE, mkE, List.replicate_succ, List.replicate_zero, List.length_cons, List.length_nil, List.length_map, if_true, if_false, Nat.reduceAdd, Nat.reduceSub, Bool.false_and, Bool.and_true, Bool.true_and, Bool.and_false, Bool.not_true, Bool.not_false, Bool.true_or, Bool.or_true, Bool.false_or, Bool.or_false, reduceIte, Bool.false_eq_true, dGt, dLt, dGe, dLe, dCmp, dSub, dNeg, aLen, seqD_tup, seqD_lst, seqD_T, Option.map_some, dIsN, dNotN, isNonD_non, isNonD_bl, isNonD_int, isNonD_str, isNonD_tup, isNonD_lst, isNonD_T, forL_nil, forL_cons, loop_nx, loop_ct, loop_bk, loop_rt, frzS, frzE, appS, parS, bnd_assoc]
  refine tr_drawN (by decide) (by decide) fun v h1 => ?_
  by_cases hv : (0 : Int) < (v : Int)
  · simp only [run_r, seq_r, cont_nx, cont_rt, cont_bk, cont_ct, if_r, sel_t, sel_f, ife_r, sele_t, sele_f, and_r, or_r, sela_t, sela_f, selo_t, selo_f, out_rt, out_rtO, out_nx, setD, setO, retS, retO, retV, retN, nilS, fgt, isB, truB, truD, notB, orV, andV, notV, b1, b2, bA, aC, aN, vr, vw, cst, nth, sset, bnd_r, opt_s, cond_true, cond_false, eTup_0, eTup_1, eTup_2, eTup_3, eLst_0, eLst_1, eLst_2, eLst_3, callE, mkE, List.replicate_succ, List.replicate_zero, List.length_cons, List.length_nil, List.length_map, if_true, if_false, Nat.reduceAdd, Nat.reduceSub, Bool.false_and, Bool.and_true, Bool.true_and, Bool.and_false, Bool.not_true, Bool.not_false, Bool.true_or, Bool.or_true, Bool.false_or, Bool.or_false, reduceIte, Bool.false_eq_true, dGt, dLt, dGe, dLe, dCmp, dSub, dNeg, aLen, seqD_tup, seqD_lst, seqD_T, Option.map_some, dIsN, dNotN, isNonD_non, isNonD_bl, isNonD_int, isNonD_str, isNonD_tup, isNonD_lst, isNonD_T, forL_nil, forL_cons, loop_nx, loop_ct, loop_bk, loop_rt, frzS, frzE, appS, parS, hv, decide_true, dAdd_ii, bnd_assoc]
    refine tr_drawN (by omega) (by omega) fun u h2 => ?_
    simp only [run_r, seq_r, cont_nx, cont_rt, cont_bk, cont_ct, if_r, sel_t, sel_f, ife_r, sele_t, sele_f, and_r, or_r, sela_t, sela_f, selo_t, selo_f, out_rt, out_rtO, out_nx, setD, setO, retS, retO, retV, retN, nilS, fgt, isB, truB, truD, notB, orV, andV, notV, b1, b2, bA, aC, aN, vr, vw, cst, nth, sset, bnd_r, opt_s, cond_true, cond_false, eTup_0, eTup_1, eTup_2, eTup_3, eLst_0, eLst_1, eLst_2, eLst_3, callE, mkE, List.replicate_succ, List.replicate_zero, List.length_cons, List.length_nil, List.length_map, if_true, if_false, Nat.reduceAdd, Nat.reduceSub, Bool.false_and, Bool.and_true, Bool.true_and, Bool.and_false, Bool.not_true, Bool.not_false, Bool.true_or, Bool.or_true, Bool.false_or, Bool.or_false, reduceIte, Bool.false_eq_true, dGt, dLt, dGe, dLe, dCmp, dSub, dNeg, aLen, seqD_tup, seqD_lst, seqD_T, Option.map_some, dIsN, dNotN, isNonD_non, isNonD_bl, isNonD_int, isNonD_str, isNonD_tup, isNonD_lst, isNonD_T, forL_nil, forL_cons, loop_nx, loop_ct, loop_bk, loop_rt, frzS, frzE, appS, parS]
    exact Tr.ret ⟨_, rfl⟩
  · simp only [run_r, seq_r, cont_nx, cont_rt, cont_bk, cont_ct, if_r, sel_t, sel_f, ife_r, sele_t, sele_f, and_r, or_r, sela_t, sela_f, selo_t, selo_f, out_rt, out_rtO, out_nx, setD, setO, retS, retO, retV, retN, nilS, fgt, isB, truB, truD, notB, orV, andV, notV, b1, b2, bA, aC, aN, vr, vw, cst, nth, sset, bnd_r, opt_s, cond_true, cond_false, eTup_0, eTup_1, eTup_2, eTup_3, eLst_0, eLst_1, eLst_2, eLst_3, callE, mkE, List.replicate_succ, List.replicate_zero, List.length_cons, List.length_nil, List.length_map, if_true, if_false, Nat.reduceAdd, Nat.reduceSub, Bool.false_and, Bool.and_true, Bool.true_and, Bool.and_false, Bool.not_true, Bool.not_false, Bool.true_or, Bool.or_true, Bool.false_or, Bool.or_false, reduceIte, Bool.false_eq_true, dGt, dLt, dGe, dLe, dCmp, dSub, dNeg, aLen, seqD_tup, seqD_lst, seqD_T, Option.map_some, dIsN, dNotN, isNonD_non, isNonD_bl, isNonD_int, isNonD_str, isNonD_tup, isNonD_lst, isNonD_T, forL_nil, forL_cons, loop_nx, loop_ct, loop_bk, loop_rt, frzS, frzE, appS, parS, hv, decide_false, bnd_assoc]
    have := tr_drawN (m := 2) (k := fun x => ret x) (P := fun x => ∃ z : Int, x = .int z) (by decide) (by decide) fun v _ => Tr.ret ⟨_, rfl⟩
    rw [bnd_id] at this
    exact this
end K35
end
section
set_option maxHeartbeats 1000000
namespace K35
open PySem PySem.Spec PyProof.Rows L2 FL Lb P35
open P54 (downN parts mem_downN IsP)
theorem gaps_tr {top : Nat} (ht : top ≤ 10) : Tr (m__law_gaps [.tok, .int (top : Int)]) (fun d => ∃ R, Wf R ∧ d = rE R) := by
  unfold m__law_gaps
  refine tr_runS rfl ?_
  refine tr_seq' (fun ρ => ∃ m : Nat, (1 ≤ m ∧ m ≤ 6) ∧ ρ = [.d .tok, .d (.int (top : Int)), .d (.int (m : Int)), .un, .un, .un]) ?_ ?_
  · have hp := pick_tr (L := [.int 2, .int 4, .int 6]) (by simp) (by simp)
    simp only [run_r, seq_r, cont_nx, cont_rt, cont_bk, cont_ct, if_r, sel_t, sel_f, ife_r, sele_t, sele_f, and_r, or_r, sela_t, sela_f, selo_t, selo_f, out_rt, out_rtO, out_nx, setD, setO, retS, retO, retV, retN, nilS, fgt, isB, truB, truD, notB, orV, andV, notV, b1, b2, bA, aC, aN, vr, vw, cst, nth, sset, bnd_r, opt_s, cond_true, cond_false, eTup_0, eTup_1, eTup_2, eTup_3, eLst_0, eLst_1, eLst_2, eLst_3, callE, mkE, List.replicate_succ, List.replicate_zero, List.length_cons, List.length_nil, List.length_map, if_true, if_false, Nat.reduceAdd, Nat.reduceSub, Bool.false_and, Bool.and_true, Bool.true_and, Bool.and_false, Bool.not_true, Bool.not_false, Bool.true_or, Bool.or_true, Bool.false_or, Bool.or_false, reduceIte, Bool.false_eq_true, dGt, dLt, dGe, dLe, dCmp, dSub, dNeg, aLen, seqD_tup, seqD_lst, seqD_T, Option.map_some, dIsN, dNotN, isNonD_non, isNonD_bl, isNonD_int, isNonD_str, isNonD_tup, isNonD_lst, isNonD_T, forL_nil, forL_cons, loop_nx, loop_ct, loop_bk, loop_rt, frzS, frzE, appS, parS, pick_same, bnd_assoc, mkE]
    refine Tr.bnd hp ?_
    intro d hd
    have : d = .int 2 ∨ d = .int 4 ∨ d = .int 6 := by simpa using hd
    rcases this with rfl | rfl | rfl
    all_goals
      refine tr_drawN (by decide) (by decide) fun v h1 => ?_
      simp only [run_r, seq_r, cont_nx, cont_rt, cont_bk, cont_ct, if_r, sel_t, sel_f, ife_r, sele_t, sele_f, and_r, or_r, sela_t, sela_f, selo_t, selo_f, out_rt, out_rtO, out_nx, setD, setO, retS, retO, retV, retN, nilS, fgt, isB, truB, truD, notB, orV, andV, notV, b1, b2, bA, aC, aN, vr, vw, cst, nth, sset, bnd_r, opt_s, cond_true, cond_false, eTup_0, eTup_1, eTup_2, eTup_3, eLst_0, eLst_1, eLst_2, eLst_3, callE, mkE, List.replicate_succ, List.replicate_zero, List.length_cons, List.length_nil, List.length_map, if_true, if_false, Nat.reduceAdd, Nat.reduceSub, Bool.false_and, Bool.and_true, Bool.true_and, Bool.and_false, Bool.not_true, Bool.not_false, Bool.true_or, Bool.or_true, Bool.false_or, Bool.or_false, reduceIte, Bool.false_eq_true, dGt, dLt, dGe, dLe, dCmp, dSub, dNeg, aLen, seqD_tup, seqD_lst, seqD_T, Option.map_some, dIsN, dNotN, isNonD_non, isNonD_bl, isNonD_int, isNonD_str, isNonD_tup, isNonD_lst, isNonD_T, forL_nil, forL_cons, loop_nx, loop_ct, loop_bk, loop_rt, frzS, frzE, appS, parS, dAdd_ii]
      refine Tr.ret ⟨_, rfl, v + 1, by omega, ?_⟩
      rw [show ((v + 1 : Nat) : Int) = 1 + (v : Int) by omega]
  rintro _ ⟨m, ⟨m1, m2⟩, rfl⟩
  refine tr_seq' (fun ρ => ρ = [.d .tok, .d (.int (top : Int)), .d (.int (m : Int)), .o (.lst []), .un, .un]) (tr_nx (by simp only [run_r, seq_r, cont_nx, cont_rt, cont_bk, cont_ct, if_r, sel_t, sel_f, ife_r, sele_t, sele_f, and_r, or_r, sela_t, sela_f, selo_t, selo_f, out_rt, out_rtO, out_nx, setD, setO, retS, retO, retV, retN, nilS, fgt, isB, truB, truD, notB, orV, andV, notV, b1, b2, bA, aC, aN, vr, vw, cst, nth, sset, bnd_r, opt_s, cond_true, cond_false, eTup_0, eTup_1, eTup_2, eTup_3, eLst_0, eLst_1, eLst_2, eLst_3, callE, mkE, List.replicate_succ, List.replicate_zero, List.length_cons, List.length_nil, List.length_map, if_true, if_false, Nat.reduceAdd, Nat.reduceSub, Bool.false_and, Bool.and_true, Bool.true_and, Bool.and_false, Bool.not_true, Bool.not_false, Bool.true_or, Bool.or_true, Bool.false_or, Bool.or_false, reduceIte, Bool.false_eq_true, dGt, dLt, dGe, dLe, dCmp, dSub, dNeg, aLen, seqD_tup, seqD_lst, seqD_T, Option.map_some, dIsN, dNotN, isNonD_non, isNonD_bl, isNonD_int, isNonD_str, isNonD_tup, isNonD_lst, isNonD_T, forL_nil, forL_cons, loop_nx, loop_ct, loop_bk, loop_rt, frzS, frzE, appS, parS]) rfl) ?_
  rintro _ rfl
  refine tr_seq' (fun ρ => ∃ g : List (List Int), (∀ r ∈ g, r.length = m) ∧ g.length = m ∧ ρ = [.d .tok, .d (.int (top : Int)), .d (.int (m : Int)), .o (.lst (g.map T)), .un, .un]) ?_ ?_
  · refine tr_forS (ds := (List.range m).map fun k : Nat => D.int (k : Int)) (I := fun ds ρ => ∃ g : List (List Int), (∀ r ∈ g, r.length = m) ∧ g.length + ds.length = m ∧ ρ = [.d .tok, .d (.int (top : Int)), .d (.int (m : Int)), .o (.lst (g.map T)), .un, .un]) ?_ ⟨[], by simp, by simp, rfl⟩ ?_ ?_
    · simp only [itR1, run_r, seq_r, cont_nx, cont_rt, cont_bk, cont_ct, if_r, sel_t, sel_f, ife_r, sele_t, sele_f, and_r, or_r, sela_t, sela_f, selo_t, selo_f, out_rt, out_rtO, out_nx, setD, setO, retS, retO, retV, retN, nilS, fgt, isB, truB, truD, notB, orV, andV, notV, b1, b2, bA, aC, aN, vr, vw, cst, nth, sset, bnd_r, opt_s, cond_true, cond_false, eTup_0, eTup_1, eTup_2, eTup_3, eLst_0, eLst_1, eLst_2, eLst_3, callE, mkE, List.replicate_succ, List.replicate_zero, List.length_cons, List.length_nil, List.length_map, if_true, if_false, Nat.reduceAdd, Nat.reduceSub, Bool.false_and, Bool.and_true, Bool.true_and, Bool.and_false, Bool.not_true, Bool.not_false, Bool.true_or, Bool.or_true, Bool.false_or, Bool.or_false, reduceIte, Bool.false_eq_true, dGt, dLt, dGe, dLe, dCmp, dSub, dNeg, aLen, seqD_tup, seqD_lst, seqD_T, Option.map_some, dIsN, dNotN, isNonD_non, isNonD_bl, isNonD_int, isNonD_str, isNonD_tup, isNonD_lst, isNonD_T, forL_nil, forL_cons, loop_nx, loop_ct, loop_bk, loop_rt, frzS, frzE, appS, parS]
      rw [rg1_any (by omega) (by omega), opt_s, Int.toNat_natCast]
    · rintro d ds ρ _ ⟨g, h1, h2, rfl⟩
      refine ⟨_, rfl, ?_⟩
      have hc : Tr (c__law_gaps_1 [.d .tok, .d (.int (top : Int)), .d (.int (m : Int)), .o (.lst (g.map T)), .d d, .un]) (fun d => ∃ ds, d = .lst ds ∧ ds.length = m ∧ ∀ x ∈ ds, ∃ z : Int, x = .int z) := by
        unfold c__law_gaps_1
        have := lcE_tr (it := itR1 (vw 2)) (b := gN 5) (vs := [5]) (el := (ifE (isB (b2 dGt (callE drawM (aC (vr 0) (aC (cst (.int 4)) aN))) (cst (.int 0)))) (b2 dSub (callE drawM (aC (vr 0) (aC (b2 dAdd (vw 1) (cst (.int 2))) aN))) (cst (.int 1))) (callE drawM (aC (vr 0) (aC (cst (.int 2)) aN))))) (ρ := [.d .tok, .d (.int (top : Int)), .d (.int (m : Int)), .o (.lst (g.map T)), .d d, .un]) (l := (List.range m).map fun k : Nat => D.int (k : Int)) (Q := fun x => ∃ z : Int, x = .int z)
          (by
            simp only [itR1, run_r, seq_r, cont_nx, cont_rt, cont_bk, cont_ct, if_r, sel_t, sel_f, ife_r, sele_t, sele_f, and_r, or_r, sela_t, sela_f, selo_t, selo_f, out_rt, out_rtO, out_nx, setD, setO, retS, retO, retV, retN, nilS, fgt, isB, truB, truD, notB, orV, andV, notV, b1, b2, bA, aC, aN, vr, vw, cst, nth, sset, bnd_r, opt_s, cond_true, cond_false, eTup_0, eTup_1, eTup_2, eTup_3, eLst_0, eLst_1, eLst_2, eLst_3, callE, mkE, List.replicate_succ, List.replicate_zero, List.length_cons, List.length_nil, List.length_map, if_true, if_false, Nat.reduceAdd, Nat.reduceSub, Bool.false_and, Bool.and_true, Bool.true_and, Bool.and_false, Bool.not_true, Bool.not_false, Bool.true_or, Bool.or_true, Bool.false_or, Bool.or_false, reduceIte, Bool.false_eq_true, dGt, dLt, dGe, dLe, dCmp, dSub, dNeg, aLen, seqD_tup, seqD_lst, seqD_T, Option.map_some, dIsN, dNotN, isNonD_non, isNonD_bl, isNonD_int, isNonD_str, isNonD_tup, isNonD_lst, isNonD_T, forL_nil, forL_cons, loop_nx, loop_ct, loop_bk, loop_rt, frzS, frzE, appS, parS]
            rw [rg1_any (by omega) (by omega), opt_s, Int.toNat_natCast])
          (by rw [List.length_map, List.length_range, sizeLine_eq]; omega)
          (fun d' hd => ⟨_, rfl, entry_tr ht⟩)
        rw [List.length_map, List.length_range] at this
        exact this
      unfold b__law_gaps_1
      simp only [run_r, seq_r, cont_nx, cont_rt, cont_bk, cont_ct, if_r, sel_t, sel_f, ife_r, sele_t, sele_f, and_r, or_r, sela_t, sela_f, selo_t, selo_f, out_rt, out_rtO, out_nx, setD, setO, retS, retO, retV, retN, nilS, fgt, isB, truB, truD, notB, orV, andV, notV, b1, b2, bA, aC, aN, vr, vw, cst, nth, sset, bnd_r, opt_s, cond_true, cond_false, eTup_0, eTup_1, eTup_2, eTup_3, eLst_0, eLst_1, eLst_2, eLst_3, callE, mkE, List.replicate_succ, List.replicate_zero, List.length_cons, List.length_nil, List.length_map, if_true, if_false, Nat.reduceAdd, Nat.reduceSub, Bool.false_and, Bool.and_true, Bool.true_and, Bool.and_false, Bool.not_true, Bool.not_false, Bool.true_or, Bool.or_true, Bool.false_or, Bool.or_false, reduceIte, Bool.false_eq_true, dGt, dLt, dGe, dLe, dCmp, dSub, dNeg, aLen, seqD_tup, seqD_lst, seqD_T, Option.map_some, dIsN, dNotN, isNonD_non, isNonD_bl, isNonD_int, isNonD_str, isNonD_tup, isNonD_lst, isNonD_T, forL_nil, forL_cons, loop_nx, loop_ct, loop_bk, loop_rt, frzS, frzE, appS, parS, bnd_assoc]
      refine Tr.bnd hc ?_
      rintro _ ⟨ds', rfl, hl, hq⟩
      obtain ⟨p, rfl, hpl⟩ := ints_of ds' hq
      rw [hl] at hpl
      have hgl : g.length ≤ m := by omega
      have e1 : aTuple [.lst (p.map D.int)] = some (T p) := rfl
      simp only [run_r, seq_r, cont_nx, cont_rt, cont_bk, cont_ct, if_r, sel_t, sel_f, ife_r, sele_t, sele_f, and_r, or_r, sela_t, sela_f, selo_t, selo_f, out_rt, out_rtO, out_nx, setD, setO, retS, retO, retV, retN, nilS, fgt, isB, truB, truD, notB, orV, andV, notV, b1, b2, bA, aC, aN, vr, vw, cst, nth, sset, bnd_r, opt_s, cond_true, cond_false, eTup_0, eTup_1, eTup_2, eTup_3, eLst_0, eLst_1, eLst_2, eLst_3, callE, mkE, List.replicate_succ, List.replicate_zero, List.length_cons, List.length_nil, List.length_map, if_true, if_false, Nat.reduceAdd, Nat.reduceSub, Bool.false_and, Bool.and_true, Bool.true_and, Bool.and_false, Bool.not_true, Bool.not_false, Bool.true_or, Bool.or_true, Bool.false_or, Bool.or_false, reduceIte, Bool.false_eq_true, dGt, dLt, dGe, dLe, dCmp, dSub, dNeg, aLen, seqD_tup, seqD_lst, seqD_T, Option.map_some, dIsN, dNotN, isNonD_non, isNonD_bl, isNonD_int, isNonD_str, isNonD_tup, isNonD_lst, isNonD_T, forL_nil, forL_cons, loop_nx, loop_ct, loop_bk, loop_rt, frzS, frzE, appS, parS, e1, appO_ok (ds := g.map T) (d := T p) (by rw [List.length_map]; omega)]
      refine Tr.ret ⟨_, rfl, g ++ [p], fun r hr => ?_, ?_, ?_⟩
      · rcases List.mem_append.mp hr with hr | hr
        · exact h1 r hr
        · rw [List.mem_singleton.mp hr]; exact hpl
      · rw [List.length_append]
        rw [List.length_cons] at h2
        show g.length + 1 + ds.length = m
        omega
      · rw [List.map_append]; rfl
    · rintro ρ ⟨g, h1, h2, rfl⟩
      exact ⟨_, rfl, g, h1, by simpa using h2, rfl⟩
  rintro _ ⟨g, h1, h2, rfl⟩
  simp only [run_r, seq_r, cont_nx, cont_rt, cont_bk, cont_ct, if_r, sel_t, sel_f, ife_r, sele_t, sele_f, and_r, or_r, sela_t, sela_f, selo_t, selo_f, out_rt, out_rtO, out_nx, setD, setO, retS, retO, retV, retN, nilS, fgt, isB, truB, truD, notB, orV, andV, notV, b1, b2, bA, aC, aN, vr, vw, cst, nth, sset, bnd_r, opt_s, cond_true, cond_false, eTup_0, eTup_1, eTup_2, eTup_3, eLst_0, eLst_1, eLst_2, eLst_3, callE, mkE, List.replicate_succ, List.replicate_zero, List.length_cons, List.length_nil, List.length_map, if_true, if_false, Nat.reduceAdd, Nat.reduceSub, Bool.false_and, Bool.and_true, Bool.true_and, Bool.and_false, Bool.not_true, Bool.not_false, Bool.true_or, Bool.or_true, Bool.false_or, Bool.or_false, reduceIte, Bool.false_eq_true, dGt, dLt, dGe, dLe, dCmp, dSub, dNeg, aLen, seqD_tup, seqD_lst, seqD_T, Option.map_some, dIsN, dNotN, isNonD_non, isNonD_bl, isNonD_int, isNonD_str, isNonD_tup, isNonD_lst, isNonD_T, forL_nil, forL_cons, loop_nx, loop_ct, loop_bk, loop_rt, frzS, frzE, appS, parS, aTuple, bnd_assoc]
  refine tr_drawN (by decide) (by decide) fun v hv => ?_
  simp only [run_r, seq_r, cont_nx, cont_rt, cont_bk, cont_ct, if_r, sel_t, sel_f, ife_r, sele_t, sele_f, and_r, or_r, sela_t, sela_f, selo_t, selo_f, out_rt, out_rtO, out_nx, setD, setO, retS, retO, retV, retN, nilS, fgt, isB, truB, truD, notB, orV, andV, notV, b1, b2, bA, aC, aN, vr, vw, cst, nth, sset, bnd_r, opt_s, cond_true, cond_false, eTup_0, eTup_1, eTup_2, eTup_3, eLst_0, eLst_1, eLst_2, eLst_3, callE, mkE, List.replicate_succ, List.replicate_zero, List.length_cons, List.length_nil, List.length_map, if_true, if_false, Nat.reduceAdd, Nat.reduceSub, Bool.false_and, Bool.and_true, Bool.true_and, Bool.and_false, Bool.not_true, Bool.not_false, Bool.true_or, Bool.or_true, Bool.false_or, Bool.or_false, reduceIte, Bool.false_eq_true, dGt, dLt, dGe, dLe, dCmp, dSub, dNeg, aLen, seqD_tup, seqD_lst, seqD_T, Option.map_some, dIsN, dNotN, isNonD_non, isNonD_bl, isNonD_int, isNonD_str, isNonD_tup, isNonD_lst, isNonD_T, forL_nil, forL_cons, loop_nx, loop_ct, loop_bk, loop_rt, frzS, frzE, appS, parS, dAdd_ii]
  refine Tr.ret ⟨_, rfl, ⟨m, g, v + 1⟩, ⟨m1, by show m ≤ 100; omega, h2, h1, by show 1 ≤ v + 1; omega, by show v + 1 ≤ 100; omega⟩, ?_⟩
  unfold rE
  rw [show (((v + 1 : Nat)) : Int) = 1 + (v : Int) by omega]
theorem parts_small : ∀ n : Fin 19, (parts 60 n.val n.val).length ≤ 400 ∧ (parts 60 n.val n.val).isEmpty = false := by decide +kernel
theorem parts_plen {n : Nat} (hn : n ≤ 18) {p : List Int} (h : p ∈ parts 60 n n) : p.length ≤ 18 := by
  obtain ⟨h1, h2⟩ := (P54.mem_parts (k := 60) (by omega)).mp h
  have := h1.sum_ge
  omega
theorem inner_tr {R : Ru} (h : Wf R) {n i : Nat} (hn : n ≤ 18) {t s4 s6 : SV} : Tr (b_law_1 [.un, .d .tok, t, .d (rE R), s4, .d (.lst ((parts 60 n n).map T)), s6, .d (.int (i : Int)), .un, .un, .un]) (fun o => ∃ ρ', o = .nx ρ' ∧ ρ' = [.un, .d .tok, t, .d (rE R), s4, .d (.lst ((parts 60 n n).map T)), s6, .un, .un, .un, .un]) := by
  unfold b_law_1
  obtain ⟨q1, q2⟩ := parts_small ⟨n, by omega⟩
  refine tr_seq' (fun ρ => ∃ p : List Int, p.length ≤ 1000 ∧ ρ = [.un, .d .tok, t, .d (rE R), s4, .d (.lst ((parts 60 n n).map T)), s6, .d (.int (i : Int)), .d (T p), .un, .un]) ?_ ?_
  · by_cases hi : (i : Int) < 4
    · have hp := pick_tr (L := (parts 60 n n).map T) (by
        intro e
        have : parts 60 n n = [] := List.map_eq_nil_iff.mp e
        have q2' : (parts 60 n n).isEmpty = false := q2
        rw [this] at q2'
        cases q2') (by rw [List.length_map]; have : (parts 60 n n).length ≤ 400 := q1; omega)
      simp only [run_r, seq_r, cont_nx, cont_rt, cont_bk, cont_ct, if_r, sel_t, sel_f, ife_r, sele_t, sele_f, and_r, or_r, sela_t, sela_f, selo_t, selo_f, out_rt, out_rtO, out_nx, setD, setO, retS, retO, retV, retN, nilS, fgt, isB, truB, truD, notB, orV, andV, notV, b1, b2, bA, aC, aN, vr, vw, cst, nth, sset, bnd_r, opt_s, cond_true, cond_false, eTup_0, eTup_1, eTup_2, eTup_3, eLst_0, eLst_1, eLst_2, eLst_3, callE, mkE, List.replicate_succ, List.replicate_zero, List.length_cons, List.length_nil, List.length_map, if_true, if_false, Nat.reduceAdd, Nat.reduceSub, Bool.false_and, Bool.and_true, Bool.true_and, Bool.and_false, Bool.not_true, Bool.not_false, Bool.true_or, Bool.or_true, Bool.false_or, Bool.or_false, reduceIte, Bool.false_eq_true, dGt, dLt, dGe, dLe, dCmp, dSub, dNeg, aLen, seqD_tup, seqD_lst, seqD_T, Option.map_some, dIsN, dNotN, isNonD_non, isNonD_bl, isNonD_int, isNonD_str, isNonD_tup, isNonD_lst, isNonD_T, forL_nil, forL_cons, loop_nx, loop_ct, loop_bk, loop_rt, frzS, frzE, appS, parS, hi, decide_true, pick_same, bnd_assoc]
      refine Tr.bnd hp ?_
      intro d hd
      rw [List.mem_map] at hd
      obtain ⟨p, hp', rfl⟩ := hd
      have := parts_plen hn hp'
      exact Tr.ret ⟨_, rfl, p, by omega, rfl⟩
    · simp only [run_r, seq_r, cont_nx, cont_rt, cont_bk, cont_ct, if_r, sel_t, sel_f, ife_r, sele_t, sele_f, and_r, or_r, sela_t, sela_f, selo_t, selo_f, out_rt, out_rtO, out_nx, setD, setO, retS, retO, retV, retN, nilS, fgt, isB, truB, truD, notB, orV, andV, notV, b1, b2, bA, aC, aN, vr, vw, cst, nth, sset, bnd_r, opt_s, cond_true, cond_false, eTup_0, eTup_1, eTup_2, eTup_3, eLst_0, eLst_1, eLst_2, eLst_3, callE, mkE, List.replicate_succ, List.replicate_zero, List.length_cons, List.length_nil, List.length_map, if_true, if_false, Nat.reduceAdd, Nat.reduceSub, Bool.false_and, Bool.and_true, Bool.true_and, Bool.and_false, Bool.not_true, Bool.not_false, Bool.true_or, Bool.or_true, Bool.false_or, Bool.or_false, reduceIte, Bool.false_eq_true, dGt, dLt, dGe, dLe, dCmp, dSub, dNeg, aLen, seqD_tup, seqD_lst, seqD_T, Option.map_some, dIsN, dNotN, isNonD_non, isNonD_bl, isNonD_int, isNonD_str, isNonD_tup, isNonD_lst, isNonD_T, forL_nil, forL_cons, loop_nx, loop_ct, loop_bk, loop_rt, frzS, frzE, appS, parS, hi, decide_false, bnd_assoc]
      refine tr_drawN (by decide) (by decide) fun v hv => ?_
      have hd := K54.drawn_tr (n := v + 1) (by omega)
      rw [show ((v + 1 : Nat) : Int) = 1 + (v : Int) by omega, ← drawn_same] at hd
      simp only [run_r, seq_r, cont_nx, cont_rt, cont_bk, cont_ct, if_r, sel_t, sel_f, ife_r, sele_t, sele_f, and_r, or_r, sela_t, sela_f, selo_t, selo_f, out_rt, out_rtO, out_nx, setD, setO, retS, retO, retV, retN, nilS, fgt, isB, truB, truD, notB, orV, andV, notV, b1, b2, bA, aC, aN, vr, vw, cst, nth, sset, bnd_r, opt_s, cond_true, cond_false, eTup_0, eTup_1, eTup_2, eTup_3, eLst_0, eLst_1, eLst_2, eLst_3, callE, mkE, List.replicate_succ, List.replicate_zero, List.length_cons, List.length_nil, List.length_map, if_true, if_false, Nat.reduceAdd, Nat.reduceSub, Bool.false_and, Bool.and_true, Bool.true_and, Bool.and_false, Bool.not_true, Bool.not_false, Bool.true_or, Bool.or_true, Bool.false_or, Bool.or_false, reduceIte, Bool.false_eq_true, dGt, dLt, dGe, dLe, dCmp, dSub, dNeg, aLen, seqD_tup, seqD_lst, seqD_T, Option.map_some, dIsN, dNotN, isNonD_non, isNonD_bl, isNonD_int, isNonD_str, isNonD_tup, isNonD_lst, isNonD_T, forL_nil, forL_cons, loop_nx, loop_ct, loop_bk, loop_rt, frzS, frzE, appS, parS, dAdd_ii, bnd_assoc]
      refine Tr.bnd hd ?_
      rintro _ ⟨p, rfl, h1, h2⟩
      have := h1.sum_ge
      exact Tr.ret ⟨_, rfl, p, by omega, rfl⟩
  rintro _ ⟨p, hp, rfl⟩
  refine tr_nx ?_ rfl
  have e1 := keeps_eq h hp
  have e2 := lkeeps_eq h hp
  have e3 := first_break_eq h hp
  have e4 := lbreak_eq h hp
  have e5 := leqB (keep R p)
  have e6 := leqN (brk R p)
  simp only [run_r, seq_r, cont_nx, cont_rt, cont_bk, cont_ct, if_r, sel_t, sel_f, ife_r, sele_t, sele_f, and_r, or_r, sela_t, sela_f, selo_t, selo_f, out_rt, out_rtO, out_nx, setD, setO, retS, retO, retV, retN, nilS, fgt, isB, truB, truD, notB, orV, andV, notV, b1, b2, bA, aC, aN, vr, vw, cst, nth, sset, bnd_r, opt_s, cond_true, cond_false, eTup_0, eTup_1, eTup_2, eTup_3, eLst_0, eLst_1, eLst_2, eLst_3, callE, mkE, List.replicate_succ, List.replicate_zero, List.length_cons, List.length_nil, List.length_map, if_true, if_false, Nat.reduceAdd, Nat.reduceSub, Bool.false_and, Bool.and_true, Bool.true_and, Bool.and_false, Bool.not_true, Bool.not_false, Bool.true_or, Bool.or_true, Bool.false_or, Bool.or_false, reduceIte, Bool.false_eq_true, dGt, dLt, dGe, dLe, dCmp, dSub, dNeg, aLen, seqD_tup, seqD_lst, seqD_T, Option.map_some, dIsN, dNotN, isNonD_non, isNonD_bl, isNonD_int, isNonD_str, isNonD_tup, isNonD_lst, isNonD_T, forL_nil, forL_cons, loop_nx, loop_ct, loop_bk, loop_rt, frzS, frzE, appS, parS, e1, e2, e3, e4, e5, e6]
theorem I_of {p : List Int} {m : Int} (h : IsP m p) : I (p.map Int.toNat) = p := by
  unfold I
  rw [List.map_map]
  refine (List.map_congr_left fun x hx => ?_).trans (List.map_id p)
  have := (h.2 x hx).1
  simp only [Function.comp, id]
  omega
theorem LL_nat {R : Ru} {n : Nat} (hn : n ≤ 18) (h0 : n ≠ 0) {p : List Int} (h : p ∈ LL R n) : ∃ y r, p = I (y :: r) ∧ (y :: r).sum = n ∧ ∀ z ∈ y :: r, 1 ≤ z := by
  have hm : p ∈ parts 60 n n := (List.mem_filter.mp h).1
  obtain ⟨h1, h2⟩ := (P54.mem_parts (k := 60) (by omega)).mp hm
  have hI := I_of h1
  have hs : ((p.map Int.toNat).sum : Int) = n := by rw [← sum_I, hI, h2]
  have hp : ∀ z ∈ p.map Int.toNat, 1 ≤ z := fun z hz => by
    rw [List.mem_map] at hz
    obtain ⟨x, hx, rfl⟩ := hz
    have := (h1.2 x hx).1
    omega
  cases hl : p.map Int.toNat with
  | nil =>
    rw [hl] at hs
    simp at hs
    omega
  | cons y r =>
    rw [hl] at hI hs hp
    exact ⟨y, r, hI.symm, by omega, hp⟩
theorem LL_plen {R : Ru} {n : Nat} (hn : n ≤ 18) {p : List Int} (h : p ∈ LL R n) : p.length ≤ 18 := parts_plen hn (List.mem_filter.mp h).1
theorem next_LL {R : Ru} (h : Wf R) {n k : Nat} (hn : n ≤ 18) (h0 : n ≠ 0) {p : List Int} (hk : (LL R n)[k]? = some p) : m_next_by_gaps [rE R, T p] = ret (optT (LL R n)[k + 1]?) := by
  have hm := List.mem_of_getElem? hk
  obtain ⟨y, r, rfl, hs, hp⟩ := LL_nat hn h0 hm
  have nd : (LL R n).Nodup := (P54.parts_nodup 60 n n).filter _
  rw [next_eq h hn hs hp, ← nx0_ok h0 (by omega) (y :: r) hm, after_get nd hk]
theorem body_tr {t : SV} : Tr (b_law_2 [.un, .d .tok, t, .un, .un, .un, .un, .un, .un, .un, .un]) (fun o => ∃ ρ', o = .nx ρ' ∧ ρ' = [.un, .d .tok, .un, .un, .un, .un, .un, .un, .un, .un, .un]) := by
  unfold b_law_2
  refine tr_seq' (fun ρ => ∃ R, Wf R ∧ ρ = [.un, .d .tok, t, .d (rE R), .un, .un, .un, .un, .un, .un, .un]) ?_ ?_
  · have g5 := gaps_tr (top := 5) (by decide)
    have g3 := gaps_tr (top := 3) (by decide)
    simp only [setD, callE, eLst, eTup, run_r, seq_r, cont_nx, cont_rt, cont_bk, cont_ct, if_r, sel_t, sel_f, ife_r, sele_t, sele_f, and_r, or_r, sela_t, sela_f, selo_t, selo_f, out_rt, out_rtO, out_nx, setD, setO, retS, retO, retV, retN, nilS, fgt, isB, truB, truD, notB, orV, andV, notV, b1, b2, bA, aC, aN, vr, vw, cst, nth, sset, bnd_r, opt_s, cond_true, cond_false, eTup_0, eTup_1, eTup_2, eTup_3, eLst_0, eLst_1, eLst_2, eLst_3, callE, mkE, List.replicate_succ, List.replicate_zero, List.length_cons, List.length_nil, List.length_map, if_true, if_false, Nat.reduceAdd, Nat.reduceSub, Bool.false_and, Bool.and_true, Bool.true_and, Bool.and_false, Bool.not_true, Bool.not_false, Bool.true_or, Bool.or_true, Bool.false_or, Bool.or_false, reduceIte, Bool.false_eq_true, dGt, dLt, dGe, dLe, dCmp, dSub, dNeg, aLen, seqD_tup, seqD_lst, seqD_T, Option.map_some, dIsN, dNotN, isNonD_non, isNonD_bl, isNonD_int, isNonD_str, isNonD_tup, isNonD_lst, isNonD_T, forL_nil, forL_cons, loop_nx, loop_ct, loop_bk, loop_rt, frzS, frzE, appS, parS, bnd_assoc]
    refine Tr.bnd g5 ?_
    rintro _ ⟨R1, w1, rfl⟩
    refine Tr.bnd g3 ?_
    rintro _ ⟨R2, w2, rfl⟩
    have hp := pick_tr (L := [rE R1, rE R2, rE ⟨1, [[2]], 1⟩, rE ⟨2, [[0, 2], [2, 0]], 2⟩]) (by simp) (by simp)
    have z1 : 1 ≤ sizeLine := by rw [sizeLine_eq]; omega
    have z2 : 2 ≤ sizeLine := by rw [sizeLine_eq]; omega
    have z3 : 3 ≤ sizeLine := by rw [sizeLine_eq]; omega
    have z4 : 4 ≤ sizeLine := by rw [sizeLine_eq]; omega
    simp only [z1, z2, z3, z4, if_true, opt_s, bnd_r, pick_same]
    refine Tr.bnd hp ?_
    intro d hd
    have : d = rE R1 ∨ d = rE R2 ∨ d = rE ⟨1, [[2]], 1⟩ ∨ d = rE ⟨2, [[0, 2], [2, 0]], 2⟩ := by simpa using hd
    rcases this with rfl | rfl | rfl | rfl
    · exact Tr.ret ⟨_, rfl, R1, w1, rfl⟩
    · exact Tr.ret ⟨_, rfl, R2, w2, rfl⟩
    · exact Tr.ret ⟨_, rfl, _, ⟨by decide, by decide, rfl, by decide, by decide, by decide⟩, rfl⟩
    · exact Tr.ret ⟨_, rfl, _, ⟨by decide, by decide, rfl, by decide, by decide, by decide⟩, rfl⟩
  rintro _ ⟨R, hR, rfl⟩
  refine tr_seq' (fun ρ => ∃ n : Nat, n ≤ 18 ∧ ρ = [.un, .d .tok, t, .d (rE R), .d (.int (n : Int)), .un, .un, .un, .un, .un, .un]) ?_ ?_
  · simp only [run_r, seq_r, cont_nx, cont_rt, cont_bk, cont_ct, if_r, sel_t, sel_f, ife_r, sele_t, sele_f, and_r, or_r, sela_t, sela_f, selo_t, selo_f, out_rt, out_rtO, out_nx, setD, setO, retS, retO, retV, retN, nilS, fgt, isB, truB, truD, notB, orV, andV, notV, b1, b2, bA, aC, aN, vr, vw, cst, nth, sset, bnd_r, opt_s, cond_true, cond_false, eTup_0, eTup_1, eTup_2, eTup_3, eLst_0, eLst_1, eLst_2, eLst_3, callE, mkE, List.replicate_succ, List.replicate_zero, List.length_cons, List.length_nil, List.length_map, if_true, if_false, Nat.reduceAdd, Nat.reduceSub, Bool.false_and, Bool.and_true, Bool.true_and, Bool.and_false, Bool.not_true, Bool.not_false, Bool.true_or, Bool.or_true, Bool.false_or, Bool.or_false, reduceIte, Bool.false_eq_true, dGt, dLt, dGe, dLe, dCmp, dSub, dNeg, aLen, seqD_tup, seqD_lst, seqD_T, Option.map_some, dIsN, dNotN, isNonD_non, isNonD_bl, isNonD_int, isNonD_str, isNonD_tup, isNonD_lst, isNonD_T, forL_nil, forL_cons, loop_nx, loop_ct, loop_bk, loop_rt, frzS, frzE, appS, parS, bnd_assoc]
    refine tr_drawN (by decide) (by decide) fun v hv => ?_
    exact Tr.ret ⟨_, rfl, v, by omega, rfl⟩
  rintro _ ⟨n, hn, rfl⟩
  have hparts := K54.parts_eq 60 n n (by omega) (by omega)
  rw [← lawp_eq] at hparts
  refine tr_seq' (fun ρ => ρ = [.un, .d .tok, t, .d (rE R), .d (.int (n : Int)), .d (.lst ((parts 60 n n).map T)), .un, .un, .un, .un, .un]) (tr_nx (by simp only [run_r, seq_r, cont_nx, cont_rt, cont_bk, cont_ct, if_r, sel_t, sel_f, ife_r, sele_t, sele_f, and_r, or_r, sela_t, sela_f, selo_t, selo_f, out_rt, out_rtO, out_nx, setD, setO, retS, retO, retV, retN, nilS, fgt, isB, truB, truD, notB, orV, andV, notV, b1, b2, bA, aC, aN, vr, vw, cst, nth, sset, bnd_r, opt_s, cond_true, cond_false, eTup_0, eTup_1, eTup_2, eTup_3, eLst_0, eLst_1, eLst_2, eLst_3, callE, mkE, List.replicate_succ, List.replicate_zero, List.length_cons, List.length_nil, List.length_map, if_true, if_false, Nat.reduceAdd, Nat.reduceSub, Bool.false_and, Bool.and_true, Bool.true_and, Bool.and_false, Bool.not_true, Bool.not_false, Bool.true_or, Bool.or_true, Bool.false_or, Bool.or_false, reduceIte, Bool.false_eq_true, dGt, dLt, dGe, dLe, dCmp, dSub, dNeg, aLen, seqD_tup, seqD_lst, seqD_T, Option.map_some, dIsN, dNotN, isNonD_non, isNonD_bl, isNonD_int, isNonD_str, isNonD_tup, isNonD_lst, isNonD_T, forL_nil, forL_cons, loop_nx, loop_ct, loop_bk, loop_rt, frzS, frzE, appS, parS, hparts]) rfl) ?_
  rintro _ rfl
  obtain ⟨q1, _⟩ := parts_small ⟨n, by omega⟩
  have q1' : (parts 60 n n).length ≤ 400 := q1
  refine tr_seq' (fun ρ => ρ = [.un, .d .tok, t, .d (rE R), .d (.int (n : Int)), .d (.lst ((parts 60 n n).map T)), .d (.lst ((LL R n).map T)), .un, .un, .un, .un]) (tr_nx ?_ rfl) ?_
  · have hc : c_law_1 [.un, .d .tok, t, .d (rE R), .d (.int (n : Int)), .d (.lst ((parts 60 n n).map T)), .un, .un, .un, .un, .un] = ret (.lst ((LL R n).map T)) := by
      unfold c_law_1
      rw [LL_keep R (by omega)]
      refine lcFil T (keep R) T (parts 60 n n) (by simp only [itS, run_r, seq_r, cont_nx, cont_rt, cont_bk, cont_ct, if_r, sel_t, sel_f, ife_r, sele_t, sele_f, and_r, or_r, sela_t, sela_f, selo_t, selo_f, out_rt, out_rtO, out_nx, setD, setO, retS, retO, retV, retN, nilS, fgt, isB, truB, truD, notB, orV, andV, notV, b1, b2, bA, aC, aN, vr, vw, cst, nth, sset, bnd_r, opt_s, cond_true, cond_false, eTup_0, eTup_1, eTup_2, eTup_3, eLst_0, eLst_1, eLst_2, eLst_3, callE, mkE, List.replicate_succ, List.replicate_zero, List.length_cons, List.length_nil, List.length_map, if_true, if_false, Nat.reduceAdd, Nat.reduceSub, Bool.false_and, Bool.and_true, Bool.true_and, Bool.and_false, Bool.not_true, Bool.not_false, Bool.true_or, Bool.or_true, Bool.false_or, Bool.or_false, reduceIte, Bool.false_eq_true, dGt, dLt, dGe, dLe, dCmp, dSub, dNeg, aLen, seqD_tup, seqD_lst, seqD_T, Option.map_some, dIsN, dNotN, isNonD_non, isNonD_bl, isNonD_int, isNonD_str, isNonD_tup, isNonD_lst, isNonD_T, forL_nil, forL_cons, loop_nx, loop_ct, loop_bk, loop_rt, frzS, frzE, appS, parS]) (by omega) fun p hp => ⟨_, rfl, ?_, fun _ => rfl⟩
      have := parts_plen hn hp
      simp only [run_r, seq_r, cont_nx, cont_rt, cont_bk, cont_ct, if_r, sel_t, sel_f, ife_r, sele_t, sele_f, and_r, or_r, sela_t, sela_f, selo_t, selo_f, out_rt, out_rtO, out_nx, setD, setO, retS, retO, retV, retN, nilS, fgt, isB, truB, truD, notB, orV, andV, notV, b1, b2, bA, aC, aN, vr, vw, cst, nth, sset, bnd_r, opt_s, cond_true, cond_false, eTup_0, eTup_1, eTup_2, eTup_3, eLst_0, eLst_1, eLst_2, eLst_3, callE, mkE, List.replicate_succ, List.replicate_zero, List.length_cons, List.length_nil, List.length_map, if_true, if_false, Nat.reduceAdd, Nat.reduceSub, Bool.false_and, Bool.and_true, Bool.true_and, Bool.and_false, Bool.not_true, Bool.not_false, Bool.true_or, Bool.or_true, Bool.false_or, Bool.or_false, reduceIte, Bool.false_eq_true, dGt, dLt, dGe, dLe, dCmp, dSub, dNeg, aLen, seqD_tup, seqD_lst, seqD_T, Option.map_some, dIsN, dNotN, isNonD_non, isNonD_bl, isNonD_int, isNonD_str, isNonD_tup, isNonD_lst, isNonD_T, forL_nil, forL_cons, loop_nx, loop_ct, loop_bk, loop_rt, frzS, frzE, appS, parS, lkeeps_eq hR (p := p) (by omega)]
    simp only [run_r, seq_r, cont_nx, cont_rt, cont_bk, cont_ct, if_r, sel_t, sel_f, ife_r, sele_t, sele_f, and_r, or_r, sela_t, sela_f, selo_t, selo_f, out_rt, out_rtO, out_nx, setD, setO, retS, retO, retV, retN, nilS, fgt, isB, truB, truD, notB, orV, andV, notV, b1, b2, bA, aC, aN, vr, vw, cst, nth, sset, bnd_r, opt_s, cond_true, cond_false, eTup_0, eTup_1, eTup_2, eTup_3, eLst_0, eLst_1, eLst_2, eLst_3, callE, mkE, List.replicate_succ, List.replicate_zero, List.length_cons, List.length_nil, List.length_map, if_true, if_false, Nat.reduceAdd, Nat.reduceSub, Bool.false_and, Bool.and_true, Bool.true_and, Bool.and_false, Bool.not_true, Bool.not_false, Bool.true_or, Bool.or_true, Bool.false_or, Bool.or_false, reduceIte, Bool.false_eq_true, dGt, dLt, dGe, dLe, dCmp, dSub, dNeg, aLen, seqD_tup, seqD_lst, seqD_T, Option.map_some, dIsN, dNotN, isNonD_non, isNonD_bl, isNonD_int, isNonD_str, isNonD_tup, isNonD_lst, isNonD_T, forL_nil, forL_cons, loop_nx, loop_ct, loop_bk, loop_rt, frzS, frzE, appS, parS, hc]
  rintro _ rfl
  have hLl : (LL R n).length ≤ 400 := Nat.le_trans (List.length_filter_le _ _) q1'
  refine tr_seq' (fun ρ => ρ = [.un, .d .tok, t, .d (rE R), .d (.int (n : Int)), .d (.lst ((parts 60 n n).map T)), .d (.lst ((LL R n).map T)), .un, .un, .un, .un]) (tr_nx ?_ rfl) ?_
  · have e1 := pbg_eq hR hn
    have e2 := leqL (L := LL R n) (by omega) (fun p hp => by have := LL_plen hn hp; omega)
    simp only [run_r, seq_r, cont_nx, cont_rt, cont_bk, cont_ct, if_r, sel_t, sel_f, ife_r, sele_t, sele_f, and_r, or_r, sela_t, sela_f, selo_t, selo_f, out_rt, out_rtO, out_nx, setD, setO, retS, retO, retV, retN, nilS, fgt, isB, truB, truD, notB, orV, andV, notV, b1, b2, bA, aC, aN, vr, vw, cst, nth, sset, bnd_r, opt_s, cond_true, cond_false, eTup_0, eTup_1, eTup_2, eTup_3, eLst_0, eLst_1, eLst_2, eLst_3, callE, mkE, List.replicate_succ, List.replicate_zero, List.length_cons, List.length_nil, List.length_map, if_true, if_false, Nat.reduceAdd, Nat.reduceSub, Bool.false_and, Bool.and_true, Bool.true_and, Bool.and_false, Bool.not_true, Bool.not_false, Bool.true_or, Bool.or_true, Bool.false_or, Bool.or_false, reduceIte, Bool.false_eq_true, dGt, dLt, dGe, dLe, dCmp, dSub, dNeg, aLen, seqD_tup, seqD_lst, seqD_T, Option.map_some, dIsN, dNotN, isNonD_non, isNonD_bl, isNonD_int, isNonD_str, isNonD_tup, isNonD_lst, isNonD_T, forL_nil, forL_cons, loop_nx, loop_ct, loop_bk, loop_rt, frzS, frzE, appS, parS, e1, e2]
  rintro _ rfl
  refine tr_seq' (fun ρ => ρ = [.un, .d .tok, t, .d (rE R), .d (.int (n : Int)), .d (.lst ((parts 60 n n).map T)), .d (.lst ((LL R n).map T)), .un, .un, .un, .un]) ?_ ?_
  · refine tr_forS (ds := (List.range 6).map fun k : Nat => D.int (k : Int)) (I := fun ds ρ => (∃ l : List Nat, ds = l.map fun k : Nat => D.int (k : Int)) ∧ ρ = [.un, .d .tok, t, .d (rE R), .d (.int (n : Int)), .d (.lst ((parts 60 n n).map T)), .d (.lst ((LL R n).map T)), .un, .un, .un, .un]) ?_ ⟨⟨List.range 6, rfl⟩, rfl⟩ ?_ ?_
    · simp only [itR1, run_r, seq_r, cont_nx, cont_rt, cont_bk, cont_ct, if_r, sel_t, sel_f, ife_r, sele_t, sele_f, and_r, or_r, sela_t, sela_f, selo_t, selo_f, out_rt, out_rtO, out_nx, setD, setO, retS, retO, retV, retN, nilS, fgt, isB, truB, truD, notB, orV, andV, notV, b1, b2, bA, aC, aN, vr, vw, cst, nth, sset, bnd_r, opt_s, cond_true, cond_false, eTup_0, eTup_1, eTup_2, eTup_3, eLst_0, eLst_1, eLst_2, eLst_3, callE, mkE, List.replicate_succ, List.replicate_zero, List.length_cons, List.length_nil, List.length_map, if_true, if_false, Nat.reduceAdd, Nat.reduceSub, Bool.false_and, Bool.and_true, Bool.true_and, Bool.and_false, Bool.not_true, Bool.not_false, Bool.true_or, Bool.or_true, Bool.false_or, Bool.or_false, reduceIte, Bool.false_eq_true, dGt, dLt, dGe, dLe, dCmp, dSub, dNeg, aLen, seqD_tup, seqD_lst, seqD_T, Option.map_some, dIsN, dNotN, isNonD_non, isNonD_bl, isNonD_int, isNonD_str, isNonD_tup, isNonD_lst, isNonD_T, forL_nil, forL_cons, loop_nx, loop_ct, loop_bk, loop_rt, frzS, frzE, appS, parS]
      rw [rg1_any (by omega) (by omega), opt_s]
      rfl
    · rintro d ds ρ _ ⟨⟨l, hl⟩, rfl⟩
      cases l with
      | nil => cases hl
      | cons k l =>
        rw [List.map_cons] at hl
        injection hl with e1 e2
        subst e1
        refine ⟨_, rfl, (inner_tr hR (i := k) hn).mono ?_⟩
        rintro o ⟨ρ', e, rfl⟩
        exact ⟨_, e, ⟨l, e2⟩, rfl⟩
    · rintro ρ ⟨_, rfl⟩
      exact ⟨_, rfl, rfl⟩
  rintro _ rfl
  have hne := dNe_nilL (ds := (LL R n).map T) (okd_rows _)
  rw [List.isEmpty_map] at hne
  refine tr_seq' (fun ρ => ρ = [.un, .d .tok, t, .d (rE R), .d (.int (n : Int)), .d (.lst ((parts 60 n n).map T)), .d (.lst ((LL R n).map T)), .un, .un, .un, .un]) ?_ ?_
  · by_cases hc : (LL R n).isEmpty = true
    · refine tr_nx ?_ rfl
      simp only [run_r, seq_r, cont_nx, cont_rt, cont_bk, cont_ct, if_r, sel_t, sel_f, ife_r, sele_t, sele_f, and_r, or_r, sela_t, sela_f, selo_t, selo_f, out_rt, out_rtO, out_nx, setD, setO, retS, retO, retV, retN, nilS, fgt, isB, truB, truD, notB, orV, andV, notV, b1, b2, bA, aC, aN, vr, vw, cst, nth, sset, bnd_r, opt_s, cond_true, cond_false, eTup_0, eTup_1, eTup_2, eTup_3, eLst_0, eLst_1, eLst_2, eLst_3, callE, mkE, List.replicate_succ, List.replicate_zero, List.length_cons, List.length_nil, List.length_map, if_true, if_false, Nat.reduceAdd, Nat.reduceSub, Bool.false_and, Bool.and_true, Bool.true_and, Bool.and_false, Bool.not_true, Bool.not_false, Bool.true_or, Bool.or_true, Bool.false_or, Bool.or_false, reduceIte, Bool.false_eq_true, dGt, dLt, dGe, dLe, dCmp, dSub, dNeg, aLen, seqD_tup, seqD_lst, seqD_T, Option.map_some, dIsN, dNotN, isNonD_non, isNonD_bl, isNonD_int, isNonD_str, isNonD_tup, isNonD_lst, isNonD_T, forL_nil, forL_cons, loop_nx, loop_ct, loop_bk, loop_rt, frzS, frzE, appS, parS, hne, hc]
    · have hc' : (LL R n).isEmpty = false := by simpa using hc
      by_cases h0 : n = 0
      · refine tr_nx ?_ rfl
        have : ¬ (0 : Int) < (n : Int) := by omega
        simp only [run_r, seq_r, cont_nx, cont_rt, cont_bk, cont_ct, if_r, sel_t, sel_f, ife_r, sele_t, sele_f, and_r, or_r, sela_t, sela_f, selo_t, selo_f, out_rt, out_rtO, out_nx, setD, setO, retS, retO, retV, retN, nilS, fgt, isB, truB, truD, notB, orV, andV, notV, b1, b2, bA, aC, aN, vr, vw, cst, nth, sset, bnd_r, opt_s, cond_true, cond_false, eTup_0, eTup_1, eTup_2, eTup_3, eLst_0, eLst_1, eLst_2, eLst_3, callE, mkE, List.replicate_succ, List.replicate_zero, List.length_cons, List.length_nil, List.length_map, if_true, if_false, Nat.reduceAdd, Nat.reduceSub, Bool.false_and, Bool.and_true, Bool.true_and, Bool.and_false, Bool.not_true, Bool.not_false, Bool.true_or, Bool.or_true, Bool.false_or, Bool.or_false, reduceIte, Bool.false_eq_true, dGt, dLt, dGe, dLe, dCmp, dSub, dNeg, aLen, seqD_tup, seqD_lst, seqD_T, Option.map_some, dIsN, dNotN, isNonD_non, isNonD_bl, isNonD_int, isNonD_str, isNonD_tup, isNonD_lst, isNonD_T, forL_nil, forL_cons, loop_nx, loop_ct, loop_bk, loop_rt, frzS, frzE, appS, parS, hne, hc', this, decide_false]
      · have hpos : (0 : Int) < (n : Int) := by omega
        have hlen : 0 < (LL R n).length := by
          cases hL : LL R n with
          | nil => rw [hL] at hc'; cases hc'
          | cons _ _ => simp
        simp only [run_r, seq_r, cont_nx, cont_rt, cont_bk, cont_ct, if_r, sel_t, sel_f, ife_r, sele_t, sele_f, and_r, or_r, sela_t, sela_f, selo_t, selo_f, out_rt, out_rtO, out_nx, setD, setO, retS, retO, retV, retN, nilS, fgt, isB, truB, truD, notB, orV, andV, notV, b1, b2, bA, aC, aN, vr, vw, cst, nth, sset, bnd_r, opt_s, cond_true, cond_false, eTup_0, eTup_1, eTup_2, eTup_3, eLst_0, eLst_1, eLst_2, eLst_3, callE, mkE, List.replicate_succ, List.replicate_zero, List.length_cons, List.length_nil, List.length_map, if_true, if_false, Nat.reduceAdd, Nat.reduceSub, Bool.false_and, Bool.and_true, Bool.true_and, Bool.and_false, Bool.not_true, Bool.not_false, Bool.true_or, Bool.or_true, Bool.false_or, Bool.or_false, reduceIte, Bool.false_eq_true, dGt, dLt, dGe, dLe, dCmp, dSub, dNeg, aLen, seqD_tup, seqD_lst, seqD_T, Option.map_some, dIsN, dNotN, isNonD_non, isNonD_bl, isNonD_int, isNonD_str, isNonD_tup, isNonD_lst, isNonD_T, forL_nil, forL_cons, loop_nx, loop_ct, loop_bk, loop_rt, frzS, frzE, appS, parS, hne, hc', hpos, decide_true, bnd_assoc]
        refine tr_drawN (by omega) (by omega) fun k hk => ?_
        have hk' : k < (LL R n).length := by omega
        have hkg : (LL R n)[k]? = some (LL R n)[k] := List.getElem?_eq_getElem hk'
        have x1 := ixD (ds := (LL R n).map T) (k := k) (d := T (LL R n)[k]) (by rw [List.getElem?_map, hkg]; rfl)
        have n1 := next_LL hR hn h0 hkg
        have l1 := leqO (o := (LL R n)[k + 1]?) (fun p hp => by have := LL_plen hn (List.mem_of_getElem? hp); omega)
        have hlast : (LL R n)[(LL R n).length - 1]? = some (LL R n)[(LL R n).length - 1] := List.getElem?_eq_getElem (by omega)
        have n2 := next_LL hR hn h0 hlast
        rw [show (LL R n).length - 1 + 1 = (LL R n).length by omega, List.getElem?_eq_none (Nat.le_refl _)] at n2
        have x2 : dIx (.lst ((LL R n).map T)) (.int (-1)) = some (T (LL R n)[(LL R n).length - 1]) := by
          have hne' : LL R n ≠ [] := List.length_pos_iff.mp hlen
          have e := (List.dropLast_concat_getLast hne').symm
          rw [List.getLast_eq_getElem] at e
          generalize (LL R n)[(LL R n).length - 1] = z at *
          rw [e, List.map_append]
          exact ixD_last _ _
        have l2 := leqO (o := none) (fun p hp => by cases hp)
        by_cases hk2 : (k : Int) + 1 < ((LL R n).length : Int)
        · have hkg2 : (LL R n)[k + 1]? = some (LL R n)[k + 1] := List.getElem?_eq_getElem (by omega)
          have x3 := ixD (ds := (LL R n).map T) (k := k + 1) (d := T (LL R n)[k + 1]) (by rw [List.getElem?_map, hkg2]; rfl)
          rw [show ((k + 1 : Nat) : Int) = (k : Int) + 1 by omega] at x3
          rw [hkg2] at n1 l1
          have n1' : m_next_by_gaps [rE R, T (LL R n)[k]] = ret (T (LL R n)[k + 1]) := n1
          have l1' : m__law_eq 60 [T (LL R n)[k + 1], T (LL R n)[k + 1]] = ret (.bl true) := l1
          have n2' : m_next_by_gaps [rE R, T (LL R n)[(LL R n).length - 1]] = ret .non := n2
          have l2' : m__law_eq 60 [.non, .non] = ret (.bl true) := l2
          simp only [run_r, seq_r, cont_nx, cont_rt, cont_bk, cont_ct, if_r, sel_t, sel_f, ife_r, sele_t, sele_f, and_r, or_r, sela_t, sela_f, selo_t, selo_f, out_rt, out_rtO, out_nx, setD, setO, retS, retO, retV, retN, nilS, fgt, isB, truB, truD, notB, orV, andV, notV, b1, b2, bA, aC, aN, vr, vw, cst, nth, sset, bnd_r, opt_s, cond_true, cond_false, eTup_0, eTup_1, eTup_2, eTup_3, eLst_0, eLst_1, eLst_2, eLst_3, callE, mkE, List.replicate_succ, List.replicate_zero, List.length_cons, List.length_nil, List.length_map, if_true, if_false, Nat.reduceAdd, Nat.reduceSub, Bool.false_and, Bool.and_true, Bool.true_and, Bool.and_false, Bool.not_true, Bool.not_false, Bool.true_or, Bool.or_true, Bool.false_or, Bool.or_false, reduceIte, Bool.false_eq_true, dGt, dLt, dGe, dLe, dCmp, dSub, dNeg, aLen, seqD_tup, seqD_lst, seqD_T, Option.map_some, dIsN, dNotN, isNonD_non, isNonD_bl, isNonD_int, isNonD_str, isNonD_tup, isNonD_lst, isNonD_T, forL_nil, forL_cons, loop_nx, loop_ct, loop_bk, loop_rt, frzS, frzE, appS, parS, dAdd_ii, hk2, decide_true, x3, x1, n1', l1', x2, n2', l2']
          exact Tr.ret ⟨_, rfl, rfl⟩
        · rw [List.getElem?_eq_none (by omega)] at n1
          have n1' : m_next_by_gaps [rE R, T (LL R n)[k]] = ret .non := n1
          have n2' : m_next_by_gaps [rE R, T (LL R n)[(LL R n).length - 1]] = ret .non := n2
          have l2' : m__law_eq 60 [.non, .non] = ret (.bl true) := l2
          simp only [run_r, seq_r, cont_nx, cont_rt, cont_bk, cont_ct, if_r, sel_t, sel_f, ife_r, sele_t, sele_f, and_r, or_r, sela_t, sela_f, selo_t, selo_f, out_rt, out_rtO, out_nx, setD, setO, retS, retO, retV, retN, nilS, fgt, isB, truB, truD, notB, orV, andV, notV, b1, b2, bA, aC, aN, vr, vw, cst, nth, sset, bnd_r, opt_s, cond_true, cond_false, eTup_0, eTup_1, eTup_2, eTup_3, eLst_0, eLst_1, eLst_2, eLst_3, callE, mkE, List.replicate_succ, List.replicate_zero, List.length_cons, List.length_nil, List.length_map, if_true, if_false, Nat.reduceAdd, Nat.reduceSub, Bool.false_and, Bool.and_true, Bool.true_and, Bool.and_false, Bool.not_true, Bool.not_false, Bool.true_or, Bool.or_true, Bool.false_or, Bool.or_false, reduceIte, Bool.false_eq_true, dGt, dLt, dGe, dLe, dCmp, dSub, dNeg, aLen, seqD_tup, seqD_lst, seqD_T, Option.map_some, dIsN, dNotN, isNonD_non, isNonD_bl, isNonD_int, isNonD_str, isNonD_tup, isNonD_lst, isNonD_T, forL_nil, forL_cons, loop_nx, loop_ct, loop_bk, loop_rt, frzS, frzE, appS, parS, dAdd_ii, hk2, decide_false, x1, n1', x2, n2', l2']
          exact Tr.ret ⟨_, rfl, rfl⟩
  rintro _ rfl
  exact tr_nx (by simp only [run_r, seq_r, cont_nx, cont_rt, cont_bk, cont_ct, if_r, sel_t, sel_f, ife_r, sele_t, sele_f, and_r, or_r, sela_t, sela_f, selo_t, selo_f, out_rt, out_rtO, out_nx, setD, setO, retS, retO, retV, retN, nilS, fgt, isB, truB, truD, notB, orV, andV, notV, b1, b2, bA, aC, aN, vr, vw, cst, nth, sset, bnd_r, opt_s, cond_true, cond_false, eTup_0, eTup_1, eTup_2, eTup_3, eLst_0, eLst_1, eLst_2, eLst_3, callE, mkE, List.replicate_succ, List.replicate_zero, List.length_cons, List.length_nil, List.length_map, if_true, if_false, Nat.reduceAdd, Nat.reduceSub, Bool.false_and, Bool.and_true, Bool.true_and, Bool.and_false, Bool.not_true, Bool.not_false, Bool.true_or, Bool.or_true, Bool.false_or, Bool.or_false, reduceIte, Bool.false_eq_true, dGt, dLt, dGe, dLe, dCmp, dSub, dNeg, aLen, seqD_tup, seqD_lst, seqD_T, Option.map_some, dIsN, dNotN, isNonD_non, isNonD_bl, isNonD_int, isNonD_str, isNonD_tup, isNonD_lst, isNonD_T, forL_nil, forL_cons, loop_nx, loop_ct, loop_bk, loop_rt, frzS, frzE, appS, parS]) rfl
theorem law_true : Tr (m_law m_start) isTrue' := by
  unfold m_law
  refine tr_seq' (fun ρ => ρ = [.un, .d .tok, .un, .un, .un, .un, .un, .un, .un, .un, .un]) ?_ ?_
  · refine tr_same (n := 3) (I := fun ρ => ρ = [.un, .d .tok, .un, .un, .un, .un, .un, .un, .un, .un, .un]) rfl rfl ?_
    rintro d _ rfl
    exact ⟨_, rfl, body_tr⟩
  rintro _ rfl
  have w1 : Wf ⟨1, [[2]], 1⟩ := ⟨by decide, by decide, rfl, by decide, by decide, by decide⟩
  have w3 : Wf ⟨1, [[2]], 3⟩ := ⟨by decide, by decide, rfl, by decide, by decide, by decide⟩
  have e1 : m_partitions_by_gaps [.tup [.int 1, .tup [.tup [.int 2]], .int 1], .int 0] = ret (.lst [.tup []]) := pbg_eq w1 (n := 0) (by decide)
  have e2 : m_keeps_gaps [.tup [.int 1, .tup [.tup [.int 2]], .int 3], .tup []] = ret (.bl true) := keeps_eq w3 (p := []) (by simp)
  have e3 : m__law_eq 60 [.lst [.tup []], .lst [.tup []]] = ret (.bl true) := leqL (L := [[]]) (by simp) (by simp)
  have e4 := leqB true
  simp only [run_r, seq_r, cont_nx, cont_rt, cont_bk, cont_ct, if_r, sel_t, sel_f, ife_r, sele_t, sele_f, and_r, or_r, sela_t, sela_f, selo_t, selo_f, out_rt, out_rtO, out_nx, setD, setO, retS, retO, retV, retN, nilS, fgt, isB, truB, truD, notB, orV, andV, notV, b1, b2, bA, aC, aN, vr, vw, cst, nth, sset, bnd_r, opt_s, cond_true, cond_false, eTup_0, eTup_1, eTup_2, eTup_3, eLst_0, eLst_1, eLst_2, eLst_3, callE, mkE, List.replicate_succ, List.replicate_zero, List.length_cons, List.length_nil, List.length_map, if_true, if_false, Nat.reduceAdd, Nat.reduceSub, Bool.false_and, Bool.and_true, Bool.true_and, Bool.and_false, Bool.not_true, Bool.not_false, Bool.true_or, Bool.or_true, Bool.false_or, Bool.or_false, reduceIte, Bool.false_eq_true, dGt, dLt, dGe, dLe, dCmp, dSub, dNeg, aLen, seqD_tup, seqD_lst, seqD_T, Option.map_some, dIsN, dNotN, isNonD_non, isNonD_bl, isNonD_int, isNonD_str, isNonD_tup, isNonD_lst, isNonD_T, forL_nil, forL_cons, loop_nx, loop_ct, loop_bk, loop_rt, frzS, frzE, appS, parS, e1, e2, e3, e4]
  exact Tr.ret trivial
end K35
end
section
namespace K35
open PySem PySem.Spec PyProof.Rows L2 FL
def topS (i : Nat) : Stmt := PySem.Challenge.pw_sumwright_k35_partitions_by_gaps.main.body.getD i (.Pass ⟨0, 0, 0, 0⟩)
abbrev s_may_stand : Stmt := topS 1
abbrev s_first_break : Stmt := topS 2
abbrev s_keeps_gaps : Stmt := topS 3
abbrev s_endings : Stmt := topS 4
abbrev s_partitions_by_gaps : Stmt := topS 5
abbrev s_first_ending : Stmt := topS 6
abbrev s_next_by_gaps : Stmt := topS 7
abbrev s__law_state : Stmt := topS 9
abbrev s__law_draw : Stmt := topS 10
abbrev s__law_pick : Stmt := topS 11
abbrev s__law_eq : Stmt := topS 12
abbrev s__law_partitions : Stmt := topS 13
abbrev s__law_drawn : Stmt := topS 14
abbrev s__law_gaps : Stmt := topS 15
abbrev s__law_stands : Stmt := topS 16
abbrev s__law_keeps : Stmt := topS 17
abbrev s__law_break : Stmt := topS 18
abbrev s_law : Stmt := topS 19
theorem sc_may_stand : FnScope ["rule", "x", "y", "modulus", "gaps", "_", "gap"] ["rule", "x", "y"] (defScope s_may_stand) := ⟨rfl, rfl, rfl, by decide +kernel, rfl, by decide +kernel, by decide +kernel⟩
theorem sc_first_break : FnScope ["rule", "partition", "place"] ["rule", "partition"] (defScope s_first_break) := ⟨rfl, rfl, rfl, by decide +kernel, rfl, by decide +kernel, by decide +kernel⟩
theorem sc_keeps_gaps : FnScope ["rule", "partition"] ["rule", "partition"] (defScope s_keeps_gaps) := ⟨rfl, rfl, rfl, by decide +kernel, rfl, by decide +kernel, by decide +kernel⟩
theorem sc_endings : FnScope ["rule", "n", "x", "told", "y", "rest"] ["rule", "n", "x"] (defScope s_endings) := ⟨rfl, rfl, rfl, by decide +kernel, rfl, by decide +kernel, by decide +kernel⟩
theorem sc_partitions_by_gaps : FnScope ["rule", "n", "told", "x", "rest"] ["rule", "n"] (defScope s_partitions_by_gaps) := ⟨rfl, rfl, rfl, by decide +kernel, rfl, by decide +kernel, by decide +kernel⟩
theorem sc_first_ending : FnScope ["rule", "n", "x", "most", "y", "rest"] ["rule", "n", "x", "most"] (defScope s_first_ending) := ⟨rfl, rfl, rfl, by decide +kernel, rfl, by decide +kernel, by decide +kernel⟩
theorem sc_next_by_gaps : FnScope ["rule", "partition", "place", "left", "x", "rest"] ["rule", "partition"] (defScope s_next_by_gaps) := ⟨rfl, rfl, rfl, by decide +kernel, rfl, by decide +kernel, by decide +kernel⟩
theorem sc__law_state : FnScope ["script", "seed", "cell"] ["script"] (defScope s__law_state) := ⟨rfl, rfl, rfl, by decide +kernel, rfl, by decide +kernel, by decide +kernel⟩
theorem sc__law_draw : FnScope ["state", "many", "cells", "value", "mixed"] ["state", "many"] (defScope s__law_draw) := ⟨rfl, rfl, rfl, by decide +kernel, rfl, by decide +kernel, by decide +kernel⟩
theorem sc__law_pick : FnScope ["state", "row"] ["state", "row"] (defScope s__law_pick) := ⟨rfl, rfl, rfl, by decide +kernel, rfl, by decide +kernel, by decide +kernel⟩
theorem sc__law_eq : FnScope ["told", "due", "k"] ["told", "due"] (defScope s__law_eq) := ⟨rfl, rfl, rfl, by decide +kernel, rfl, by decide +kernel, by decide +kernel⟩
theorem sc__law_partitions : FnScope ["n", "most", "told", "x", "rest"] ["n", "most"] (defScope s__law_partitions) := ⟨rfl, rfl, rfl, by decide +kernel, rfl, by decide +kernel, by decide +kernel⟩
theorem sc__law_drawn : FnScope ["state", "n", "told", "left", "x"] ["state", "n"] (defScope s__law_drawn) := ⟨rfl, rfl, rfl, by decide +kernel, rfl, by decide +kernel, by decide +kernel⟩
theorem sc__law_gaps : FnScope ["state", "top", "m", "rows", "r", "s"] ["state", "top"] (defScope s__law_gaps) := ⟨rfl, rfl, rfl, by decide +kernel, rfl, by decide +kernel, by decide +kernel⟩
theorem sc__law_stands : FnScope ["rule", "x", "y", "gap"] ["rule", "x", "y"] (defScope s__law_stands) := ⟨rfl, rfl, rfl, by decide +kernel, rfl, by decide +kernel, by decide +kernel⟩
theorem sc__law_keeps : FnScope ["rule", "parts", "k"] ["rule", "parts"] (defScope s__law_keeps) := ⟨rfl, rfl, rfl, by decide +kernel, rfl, by decide +kernel, by decide +kernel⟩
theorem sc__law_break : FnScope ["rule", "parts", "wrong", "k"] ["rule", "parts"] (defScope s__law_break) := ⟨rfl, rfl, rfl, by decide +kernel, rfl, by decide +kernel, by decide +kernel⟩
theorem sc_law : FnScope ["script", "state", "turn", "rule", "n", "every", "due", "again", "parts", "k", "after"] ["script"] (defScope s_law) := ⟨rfl, rfl, rfl, by decide +kernel, rfl, by decide +kernel, by decide +kernel⟩
structure Tx (K : PySem.W.Frag) (mg : Str → Option Value) where
  a_may_stand : Addr
  d_may_stand : FuncData
  F_may_stand : Fun K "may_stand" "may_stand" s_may_stand a_may_stand d_may_stand
  b_may_stand : L2.Binds K d_may_stand ["rule", "x", "y"] []
  g_may_stand : mg "may_stand" = some (.ref a_may_stand)
  a_first_break : Addr
  d_first_break : FuncData
  F_first_break : Fun K "first_break" "first_break" s_first_break a_first_break d_first_break
  b_first_break : L2.Binds K d_first_break ["rule", "partition"] []
  g_first_break : mg "first_break" = some (.ref a_first_break)
  a_keeps_gaps : Addr
  d_keeps_gaps : FuncData
  F_keeps_gaps : Fun K "keeps_gaps" "keeps_gaps" s_keeps_gaps a_keeps_gaps d_keeps_gaps
  b_keeps_gaps : L2.Binds K d_keeps_gaps ["rule", "partition"] []
  g_keeps_gaps : mg "keeps_gaps" = some (.ref a_keeps_gaps)
  a_endings : Addr
  d_endings : FuncData
  F_endings : Fun K "endings" "endings" s_endings a_endings d_endings
  b_endings : L2.Binds K d_endings ["rule", "n", "x"] []
  g_endings : mg "endings" = some (.ref a_endings)
  a_partitions_by_gaps : Addr
  d_partitions_by_gaps : FuncData
  F_partitions_by_gaps : Fun K "partitions_by_gaps" "partitions_by_gaps" s_partitions_by_gaps a_partitions_by_gaps d_partitions_by_gaps
  b_partitions_by_gaps : L2.Binds K d_partitions_by_gaps ["rule", "n"] []
  g_partitions_by_gaps : mg "partitions_by_gaps" = some (.ref a_partitions_by_gaps)
  a_first_ending : Addr
  d_first_ending : FuncData
  F_first_ending : Fun K "first_ending" "first_ending" s_first_ending a_first_ending d_first_ending
  b_first_ending : L2.Binds K d_first_ending ["rule", "n", "x", "most"] []
  g_first_ending : mg "first_ending" = some (.ref a_first_ending)
  a_next_by_gaps : Addr
  d_next_by_gaps : FuncData
  F_next_by_gaps : Fun K "next_by_gaps" "next_by_gaps" s_next_by_gaps a_next_by_gaps d_next_by_gaps
  b_next_by_gaps : L2.Binds K d_next_by_gaps ["rule", "partition"] []
  g_next_by_gaps : mg "next_by_gaps" = some (.ref a_next_by_gaps)
  a__law_state : Addr
  d__law_state : FuncData
  F__law_state : Fun K "_law_state" "_law_state" s__law_state a__law_state d__law_state
  b__law_state : L2.Binds K d__law_state ["script"] []
  g__law_state : mg "_law_state" = some (.ref a__law_state)
  a__law_draw : Addr
  d__law_draw : FuncData
  F__law_draw : Fun K "_law_draw" "_law_draw" s__law_draw a__law_draw d__law_draw
  b__law_draw : L2.Binds K d__law_draw ["state", "many"] []
  g__law_draw : mg "_law_draw" = some (.ref a__law_draw)
  a__law_pick : Addr
  d__law_pick : FuncData
  F__law_pick : Fun K "_law_pick" "_law_pick" s__law_pick a__law_pick d__law_pick
  b__law_pick : L2.Binds K d__law_pick ["state", "row"] []
  g__law_pick : mg "_law_pick" = some (.ref a__law_pick)
  a__law_eq : Addr
  d__law_eq : FuncData
  F__law_eq : Fun K "_law_eq" "_law_eq" s__law_eq a__law_eq d__law_eq
  b__law_eq : L2.Binds K d__law_eq ["told", "due"] []
  g__law_eq : mg "_law_eq" = some (.ref a__law_eq)
  a__law_partitions : Addr
  d__law_partitions : FuncData
  F__law_partitions : Fun K "_law_partitions" "_law_partitions" s__law_partitions a__law_partitions d__law_partitions
  b__law_partitions : L2.Binds K d__law_partitions ["n", "most"] []
  g__law_partitions : mg "_law_partitions" = some (.ref a__law_partitions)
  a__law_drawn : Addr
  d__law_drawn : FuncData
  F__law_drawn : Fun K "_law_drawn" "_law_drawn" s__law_drawn a__law_drawn d__law_drawn
  b__law_drawn : L2.Binds K d__law_drawn ["state", "n"] []
  g__law_drawn : mg "_law_drawn" = some (.ref a__law_drawn)
  a__law_gaps : Addr
  d__law_gaps : FuncData
  F__law_gaps : Fun K "_law_gaps" "_law_gaps" s__law_gaps a__law_gaps d__law_gaps
  b__law_gaps : L2.Binds K d__law_gaps ["state", "top"] []
  g__law_gaps : mg "_law_gaps" = some (.ref a__law_gaps)
  a__law_stands : Addr
  d__law_stands : FuncData
  F__law_stands : Fun K "_law_stands" "_law_stands" s__law_stands a__law_stands d__law_stands
  b__law_stands : L2.Binds K d__law_stands ["rule", "x", "y"] []
  g__law_stands : mg "_law_stands" = some (.ref a__law_stands)
  a__law_keeps : Addr
  d__law_keeps : FuncData
  F__law_keeps : Fun K "_law_keeps" "_law_keeps" s__law_keeps a__law_keeps d__law_keeps
  b__law_keeps : L2.Binds K d__law_keeps ["rule", "parts"] []
  g__law_keeps : mg "_law_keeps" = some (.ref a__law_keeps)
  a__law_break : Addr
  d__law_break : FuncData
  F__law_break : Fun K "_law_break" "_law_break" s__law_break a__law_break d__law_break
  b__law_break : L2.Binds K d__law_break ["rule", "parts"] []
  g__law_break : mg "_law_break" = some (.ref a__law_break)
  z_abs : mg "abs" = none
  z_bool : mg "bool" = none
  z_int : mg "int" = none
  z_isinstance : mg "isinstance" = none
  z_len : mg "len" = none
  z_list : mg "list" = none
  z_min : mg "min" = none
  z_range : mg "range" = none
  z_str : mg "str" = none
  z_sum : mg "sum" = none
  z_tuple : mg "tuple" = none
section
variable {P : Program} {w : World} {K : PySem.W.Frag} {mg : Str → Option Value} {base : Heap}
theorem ok__law_state (T : Tx K mg) : FnOk P w K mg base CX0 1 T.a__law_state T.d__law_state ["script"] (spState K) := by
  refine T.F__law_state.ok sc__law_state (fun vs H Q E h => ?_) (fun cdv A outer s H vs Q E hr h => ?_)
  · obtain ⟨a, ns, rfl, _⟩ := h; rfl
  · obtain ⟨a, ns, rfl, hS, hlen, q⟩ := h
    refine ⟨_, pss_cons (ps_set (i := 1) sc__law_state.nd rfl (.inl rfl) pe_int)
      (pss_cons (ps_for PassesOwn.never rfl (pi_list (pv 0)) (pg_name (i := 2) sc__law_state.nd rfl (.inl rfl))
        (pss_one (ps_set (i := 1) sc__law_state.nd rfl (.inl rfl) (pe_op op_mod (pe_callTy call_int1 (by rfl) T.z_int PyProof.Rows.boot_int (pa_cons (pe_op op_add (pe_op op_mul (pv 1) pe_int) (pv 2)) pa_nil)) pe_int))))
      (pss_one (ps_ret (pe_lst (pa_cons (pe_lc (own := [("cell", 2)]) (g := gName 2) (tt := tYes) rfl sc__law_state.nd (pi_list (pv 0)) (blkOk_by (by kernel_rfl)) (fun _ _ _ _ _ => pg_name (i := 2) sc__law_state.nd rfl (.inl rfl)) (fun _ _ _ _ _ => pts_nil)
        (fun _ _ _ _ _ => pe_callB call_abs (by rfl) T.z_abs PyProof.Rows.boot_abs (pa_cons (pv 2) pa_nil))) (pa_cons (pe_op op_add (pv 1) pe_int) pa_nil)))))), ?_⟩
    refine ⟨.ref a, rfl, a, rfl, ⟨_, hS⟩, for_list (xs := ns.map V.int) (fun i σ H' => H' = H ∧ ∃ (seed : Int) (y : Option V), σ = [some (.ref a), some (.int seed), y]) ⟨rfl, 7, none, rfl⟩ (fun i σ H' _ h => by rw [h.1]; exact hS) (fun i x σ H' hx h => ?_) (fun σ H' h => ?_)⟩
    · obtain ⟨e, seed, y, rfl⟩ := h
      subst H'
      rw [List.getElem?_map] at hx
      cases hn : ns[i]? with
      | none => rw [hn] at hx; cases hx
      | some n =>
        rw [hn] at hx
        cases hx
        exact ⟨_, rfl, seed, 31, rfl, rfl, .inr (by decide), _, rfl, _, n, rfl, rfl, .inl ⟨_, rfl, _, _, rfl, rfl, (by show (0 : Int) < 1000003; decide), rfl, _, some (.int n), rfl⟩⟩
    · obtain ⟨e, seed, y, rfl⟩ := h
      subst H'
      refine ⟨.ref a, rfl, a, rfl, ⟨_, hS⟩, fun D hD => lc_list (K := K) (xs := ns.map V.int) (fun i H' => Same H' H' ∧ (∀ b o, H' b = some o → b = D ∨ H b = some o) ∧ Same H H' ∧ H' D = some (.lst (((ns.take i).map fun n => if n < 0 then -n else n).map V.int)))
        ⟨.refl _, fun b o e => ?_, same_new hD, ?_⟩ (fun i H' _ h => h.2.2.1.seq hS) (fun i x H' hx h => ?_) (fun H' h => ?_)⟩
      · by_cases hb : b = D
        · exact .inl hb
        · rw [upd_ne hb] at e; exact .inr e
      · rw [upd_same]; rfl
      · obtain ⟨_, h1, h2, h3⟩ := h
        rw [List.getElem?_map] at hx
        cases hn : ns[i]? with
        | none => rw [hn] at hx; cases hx
        | some n =>
          rw [hn] at hx
          cases hx
          have hil : i < ns.length := (List.getElem?_eq_some_iff.mp hn).1
          refine ⟨rfl, ?_⟩
          dsimp only [tYes, gName]
          rw [if_pos rfl]
          refine ⟨_, rfl, n, rfl, _, h3, ?_, .refl _, fun b o e => ?_, fun b o e => ?_, ?_⟩
          · rw [List.length_map, List.length_map, List.length_take]
            exact small1000 (by omega)
          · by_cases hb : b = D
            · exact .inl hb
            · rw [upd_ne hb] at e; exact h1 b o e
          · rw [upd_ne (ne_of_none e hD)]; exact h2 b o e
          · rw [upd_same, List.take_add_one, hn]
            simp
      · obtain ⟨_, h1, h2, h3⟩ := h
        refine ⟨_, rfl, seed, 1, rfl, rfl, by show 2 ≤ sizeLine; decide, fun p hp => q _ p D ((ns.map fun n => if n < 0 then -n else n), seed + 1) (fun e => ?_) ?_ ?_⟩
        · rw [e, h3] at hp; cases hp
        · rw [upd_same]
        · rw [upd_ne (fun e => by rw [e] at h3; rw [h3] at hp; cases hp), h3, List.take_of_length_le (by rw [List.length_map]; exact Nat.le_refl _)]
theorem ok__law_draw (T : Tx K mg) : FnOk P w K mg base CX0 1 T.a__law_draw T.d__law_draw ["state", "many"] (spD K false drawM) := by
  refine T.F__law_draw.ok sc__law_draw (fun vs H Q E h => ?_) (fun cdv A outer s H vs Q E hr h => ?_)
  · obtain ⟨q, F, ds, ω, d, ω', hs, ho, hr, e, k⟩ := h
    obtain ⟨m, rfl, _⟩ := drawM_some e
    exact hr.length
  · obtain ⟨q, F, ds, ω, d, ω', hs, ho, hreps, e, k⟩ := h
    obtain ⟨m, rfl, hm0, hm1, rfl, rfl⟩ := drawM_some e
    cases hreps with
    | cons r1 rr =>
      cases rr with
      | cons r2 rr =>
        cases rr
        cases r2
        cases r1 with
        | @tok sa ca hq =>
          obtain ⟨hne, hF1, hF2, hH1, hH2⟩ := ho _ hq
          refine ⟨_, pss_cons (ps_set (i := 2) sc__law_draw.nd rfl (.inl rfl) (pe_ix ix_list (pv 0) pe_int (fun _ _ => rfl)))
            (pss_cons (ps_while PassesOwn.never (PW.pt (pw_and (pt_cmpR op_gt (pe_callB call_len_seq (by rfl) T.z_len PySem.boot_len (pa_cons (pv 2) pa_nil)) pe_int (nomark _)) (pw_and1 (pt_cmpR op_eq (pe_ix ix_list (pv 2) pe_int (fun _ _ => rfl)) pe_int (nomark _)))))
              (pss_one (ps_expr (pe_bm PySem.F.plainAttrs_list PySem.F.slot_list_pop PySem.F.type_list_pop mt_popAt (pv 2) (pa_cons pe_int pa_nil)))))
            (pss_cons (ps_if (pt_cmpR op_gt (pe_callB call_len_seq (by rfl) T.z_len PySem.boot_len (pa_cons (pv 2) pa_nil)) pe_int (nomark _))
              (pss_cons (ps_set (i := 3) sc__law_draw.nd rfl (.inl rfl) (pe_ix ix_list (pv 2) pe_int (fun _ _ => rfl)))
              (pss_cons (ps_asg (pe_op op_fdivW (pv 3) (pv 1)) (pg_sub (pv 2) pe_int set_list))
              (pss_one (ps_ret (pe_op op_mod (pe_callTy call_int1 (by rfl) T.z_int PyProof.Rows.boot_int (pa_cons (pv 3) pa_nil)) (pv 1)))))) pss_nil)
            (pss_cons (ps_set (i := 4) sc__law_draw.nd rfl (.inl rfl) (pe_op op_mod (pe_callTy call_int1 (by rfl) T.z_int PyProof.Rows.boot_int (pa_cons (pe_op op_add (pe_op op_mul (pe_ix ix_list (pv 0) pe_int (fun _ _ => rfl)) pe_int) pe_int) pa_nil)) pe_int))
            (pss_cons (ps_asg (pv 4) (pg_sub (pv 0) pe_int set_list))
            (pss_one (ps_ret (pe_op op_mod (pe_callTy call_int1 (by rfl) T.z_int PyProof.Rows.boot_int (pa_cons (pe_op op_fdivW (pv 4) pe_int) pa_nil)) (pv 1)))))))), ?_⟩
          refine ⟨.ref sa, rfl, sa, _, 0, .ref ca, rfl, rfl, SqL.of hH1, atI_nat (j := 0) rfl, ?_⟩
          refine ⟨fun n σ H' => ∃ cs : List Int, n = cs.length ∧ dropZ cs = dropZ ω.1 ∧ σ = [some (.ref sa), some (.int m), some (.ref ca), none, none] ∧ H' ca = some (.lst (cs.map V.int)) ∧ ∀ b, b ≠ ca → H' b = H b,
            ⟨_, ω.1, rfl, rfl, rfl, hH2, fun _ _ => rfl⟩, fun n σ H' h => ?_⟩
          obtain ⟨cs, rfl, hd, rfl, hc, ho'⟩ := h
          have fin : ∀ {H2 : Hp} {c2 : List Int} {x2 : Int}, H2 ca = some (.lst (c2.map V.int)) → H2 sa = some (.lst [.ref ca, .int x2]) → (∀ b, b ≠ ca → b ≠ sa → H2 b = H b) → Post q F H F H2 (c2, x2) := fun {H2 c2 x2} g1 g2 g3 =>
            ⟨.refl F, fun _ _ => rfl, fun b o e => by
              have n1 : b ≠ ca := fun z => by rw [z, hF2] at e; cases e
              have n2 : b ≠ sa := fun z => by rw [z, hF1] at e; cases e
              rw [g3 b n1 n2]; exact hs b o e, fun b o e qf => by
              have qf' := qf _ hq
              rw [g3 b qf'.2 qf'.1]; exact e, fun p hp => by
              rw [hq] at hp; cases hp
              exact ⟨hne, hF1, hF2, g2, g1⟩⟩
          have hsa : H' sa = some (.lst [.ref ca, .int ω.2]) := by rw [ho' sa hne]; exact hH1
          refine ⟨.ref ca, rfl, ca, _, rfl, .inl (SqL.of hc), _, _, rfl, rfl, _, rfl, ?_⟩
          cases cs with
          | nil =>
            refine iteF (iteF ⟨.ref ca, rfl, ca, _, rfl, .inl (SqL.of hc), _, _, rfl, rfl, _, rfl, iteF ?_⟩)
            have hdz : dropZ ω.1 = [] := hd.symm
            have e1 : drawF ω m = ((ω.2 * 48271 + 12345) % 2147483647 / 64 % m, ([], (ω.2 * 48271 + 12345) % 2147483647)) := by unfold drawF; rw [hdz]
            refine ⟨.ref sa, rfl, sa, _, 1, .int ω.2, rfl, rfl, SqL.of hsa, atI_nat (j := 1) rfl, ω.2, 48271, rfl, rfl, .inr (by decide), _, 12345, rfl, rfl, .inl ⟨_, rfl, _, 2147483647, rfl, rfl, (by show (0 : Int) < 2147483647; decide), ?_⟩⟩
            refine ⟨_, rfl, .ref sa, rfl, sa, _, 1, 1, rfl, rfl, hsa, rfl, ?_⟩
            refine ⟨_, rfl, _, 64, rfl, rfl, wide_div (by decide) (b := 8) (by decide) (by decide) (by decide), .inl ⟨_, rfl, _, rfl, _, m, rfl, rfl, hm0, ?_⟩⟩
            rw [e1] at k
            refine k F _ _ (fin ?_ ?_ ?_) (.int _)
            · rw [upd_ne (Ne.symm hne)]; exact hc
            · rw [upd_same]; rfl
            · intro b n1 n2; rw [upd_ne n2, ho' b n1]
          | cons x r =>
            refine iteB (b := decide ((0 : Int) < (((x :: r).map V.int).length : Nat))) (fun _ => ?_) (fun z => absurd z (by simp))
            refine ⟨.ref ca, rfl, ca, _, 0, .int x, rfl, rfl, SqL.of hc, atI_nat (j := 0) rfl, rfl, _, rfl, ?_⟩
            by_cases hx : x = 0
            · subst hx
              rw [decide_eq_true rfl]
              refine iteT ⟨fun σ' H2 => ∃ cs : List Int, cs.length = r.length ∧ dropZ cs = dropZ ω.1 ∧ σ' = [some (.ref sa), some (.int m), some (.ref ca), none, none] ∧ H2 ca = some (.lst (cs.map V.int)) ∧ ∀ b, b ≠ ca → H2 b = H b,
                fun σ' H2 ⟨cs, h1, h2, h3, h4, h5⟩ => ⟨cs.length, by rw [h1]; simp, cs, rfl, h2, h3, h4, h5⟩, ?_⟩
              refine ⟨.ref ca, rfl, .inl ⟨rfl, _, SqL.of hc⟩, ca, _, 0, 0, .int 0, rfl, rfl, hc, by decide, by decide, ?_, rfl, r, rfl, ?_, rfl, ?_, ?_⟩
              · simp [PySem.seqIndex?]
              · rw [← hd, dropZ_cons0]
              · rw [upd_same]; rfl
              · intro b hb; rw [upd_ne hb, ho' b hb]
            · rw [decide_eq_false (fun z => hx (V.int.inj z))]
              refine iteF ⟨.ref ca, rfl, ca, _, rfl, .inl (SqL.of hc), _, _, rfl, rfl, _, rfl, ?_⟩
              refine iteB (b := decide ((0 : Int) < (((x :: r).map V.int).length : Nat))) (fun _ => ?_) (fun z => absurd z (by simp))
              have hdz : dropZ ω.1 = x :: r := by rw [← hd, dropZ_ne r hx]
              have e1 : drawF ω m = (x % m, (x / m :: r, ω.2)) := by unfold drawF; rw [hdz]
              rw [e1] at k
              refine ⟨.ref ca, rfl, ca, _, 0, .int x, rfl, rfl, SqL.of hc, atI_nat (j := 0) rfl, ?_⟩
              refine ⟨_, rfl, _, rfl, x, m, rfl, rfl, wide_div hm0 hm1 (by decide) (by decide), .ref ca, rfl, ca, _, 0, 0, rfl, rfl, hc, ixN0, ?_⟩
              refine ⟨_, rfl, .inl ⟨_, rfl, _, rfl, _, m, rfl, rfl, hm0, ?_⟩⟩
              refine k F _ _ (fin ?_ ?_ ?_) (.int _)
              · rw [upd_same]; rfl
              · rw [upd_ne hne]; exact hsa
              · intro b n1 n2; rw [upd_ne n1, ho' b n1]
theorem ok_may_stand (T : Tx K mg) : FnOk P w K mg base CX0 1 T.a_may_stand T.d_may_stand ["rule", "x", "y"] (spD K false m_may_stand) :=
  fn_ok T.F_may_stand sc_may_stand false (fun cdv A outer s' H E hr => (s_cons (s_asg (e_var 0) (g_tup rfl (g_cons (g_name 3 sc_may_stand.nd) (g_cons (g_name 4 sc_may_stand.nd) (g_cons (g_name 5 sc_may_stand.nd) g_nil))) (by exact gsLen3)))
  (s_cons (s_set 6 sc_may_stand.nd (e_ix (bE (e_ix (b_var 4) (bE (e_bin op_mod mod_pure (b_var 1) (b_var 3))))) (bE (e_bin op_mod mod_pure (b_var 2) (b_var 3)))))
  (s_cons (s_ret (e_and (e_cmp op_ge (cmp_pure _) (b_var 6) (bE e_int)) (e_one (e_cmp op_ge (cmp_pure _) (bE (e_bin op_sub sub_pure (b_var 1) (b_var 2))) (b_var 6)))))
  (s_nil [])))))
theorem ok_first_break (T : Tx K mg) : FnOk P w K mg base CX0 2 T.a_first_break T.d_first_break ["rule", "partition"] (spD K false m_first_break) :=
  fn_ok T.F_first_break sc_first_break false (fun cdv A outer s' H E hr => (s_cons (s_for rfl PassesOwn.never (i_range1 T.z_range (bE (e_bin op_sub sub_pure (bE (e_callB call_len_seq len_pure T.z_len (a_cons (b_var 1) a_nil))) (bE e_int)))) (g_name 2 sc_first_break.nd)
  (s_cons (s_if (t_not (t_tru (bE (e_call (ok_may_stand T) (hr.mono (by decide)) T.g_may_stand T.F_may_stand.kp T.b_may_stand (ae_cons (e_var 0) (ae_cons (e_ix (b_var 1) (b_var 2)) (ae_cons (e_ix (b_var 1) (bE (e_bin op_addA add_pure (b_var 2) (bE e_int)))) ae_nil)))))))
  (s_cons (s_ret (e_var 2))
  (s_nil []))
  (s_nil []))
  (s_nil [2])))
  (s_cons (s_if (PW.pt (w_and (t_cmp op_gt (cmp_pure _) (bE (e_callB call_len_seq len_pure T.z_len (a_cons (b_var 1) a_nil))) (bE e_int)) (w_and1 (t_cmp op_lt (cmp_pure _) (bE (e_ix (b_var 1) (bE (e_un un_neg neg_pure (bE e_int))))) (bE (e_ix (b_var 0) (bE e_int)))))))
  (s_cons (s_ret (e_bin op_sub sub_pure (bE (e_callB call_len_seq len_pure T.z_len (a_cons (b_var 1) a_nil))) (bE e_int)))
  (s_nil []))
  (s_nil []))
  (s_cons (s_ret e_non)
  (s_nil [])))))
theorem ok_keeps_gaps (T : Tx K mg) : FnOk P w K mg base CX0 3 T.a_keeps_gaps T.d_keeps_gaps ["rule", "partition"] (spD K false m_keeps_gaps) :=
  fn_ok T.F_keeps_gaps sc_keeps_gaps false (fun cdv A outer s' H E hr => (s_cons (s_ret (e_cmp op_isN isN_pure (bE (e_call (ok_first_break T) (hr.mono (by decide)) T.g_first_break T.F_first_break.kp T.b_first_break (ae_cons (e_var 0) (ae_cons (e_var 1) ae_nil)))) (bE e_non)))
  (s_nil [])))
theorem ok_endings (T : Tx K mg) (k : Nat) : FnOk P w K mg base CX0 (1 + k) T.a_endings T.d_endings ["rule", "n", "x"] (spD K false (m_endings k)) := by
  induction k with
  | zero => exact fn_never (fun _ _ => rfl)
  | succ k ih => exact fn_ok T.F_endings sc_endings false (fun cdv A outer s' H E hr => (s_cons (s_if (t_cmp (op_eqD hr.units) eq_pure (b_var 1) (bE e_int))
  (s_cons (s_ret (eF (f_lst (ae_cons (e_tup ae_nil) ae_nil))))
  (s_nil []))
  (s_nil []))
  (s_cons (s_set 3 sc_endings.nd (eF (f_lst ae_nil)))
  (s_cons (s_for rfl PassesOwn.never (i_range3 T.z_range (bE (e_callB (cr_min2 rfl) min_pure T.z_min (a_cons (b_var 1) (a_cons (b_var 2) a_nil)))) (bE (e_bin op_sub sub_pure (bE (e_ix (b_var 0) (bE e_int))) (bE e_int))) (bE (e_un un_neg neg_pure (bE e_int)))) (g_name 4 sc_endings.nd)
  (s_cons (s_if (t_tru (bE (e_call (ok_may_stand T) (hr.mono (by rw [Nat.add_eq]; omega)) T.g_may_stand T.F_may_stand.kp T.b_may_stand (ae_cons (e_var 0) (ae_cons (e_var 2) (ae_cons (e_var 4) ae_nil))))))
  (s_cons (s_set 3 sc_endings.nd (e_bin op_addA add_pure (b_var 3) (bF (f_lc [("rest", 5)] sc_endings.nd (i_seq (e_call ih hr T.g_endings T.F_endings.kp T.b_endings (ae_cons (e_var 0) (ae_cons (e_bin op_sub sub_pure (b_var 1) (b_var 4)) (ae_cons (e_var 4) ae_nil))))) (fun _ _ _ _ _ => (g_name 5 sc_endings.nd)) (fun _ _ _ _ _ => t_yes) (fun _ _ _ _ _ => (e_bin op_addA add_pure (bE (e_tup (ae_cons (e_var 4) ae_nil))) (b_var 5)))))))
  (s_nil []))
  (s_nil []))
  (s_nil [4])))
  (s_cons (s_ret (e_var 3))
  (s_nil []))))))
theorem ok_partitions_by_gaps (T : Tx K mg) : FnOk P w K mg base CX0 62 T.a_partitions_by_gaps T.d_partitions_by_gaps ["rule", "n"] (spD K false m_partitions_by_gaps) :=
  fn_ok T.F_partitions_by_gaps sc_partitions_by_gaps false (fun cdv A outer s' H E hr => (s_cons (s_if (t_cmp (op_eqD hr.units) eq_pure (b_var 1) (bE e_int))
  (s_cons (s_ret (eF (f_lst (ae_cons (e_tup ae_nil) ae_nil))))
  (s_nil []))
  (s_nil []))
  (s_cons (s_set 2 sc_partitions_by_gaps.nd (eF (f_lst ae_nil)))
  (s_cons (s_for rfl PassesOwn.never (i_range3 T.z_range (b_var 1) (bE (e_bin op_sub sub_pure (bE (e_ix (b_var 0) (bE e_int))) (bE e_int))) (bE (e_un un_neg neg_pure (bE e_int)))) (g_name 3 sc_partitions_by_gaps.nd)
  (s_cons (s_set 2 sc_partitions_by_gaps.nd (e_bin op_addA add_pure (b_var 2) (bF (f_lc [("rest", 4)] sc_partitions_by_gaps.nd (i_seq (e_call (ok_endings T 60) (hr.mono (by decide)) T.g_endings T.F_endings.kp T.b_endings (ae_cons (e_var 0) (ae_cons (e_bin op_sub sub_pure (b_var 1) (b_var 3)) (ae_cons (e_var 3) ae_nil))))) (fun _ _ _ _ _ => (g_name 4 sc_partitions_by_gaps.nd)) (fun _ _ _ _ _ => t_yes) (fun _ _ _ _ _ => (e_bin op_addA add_pure (bE (e_tup (ae_cons (e_var 3) ae_nil))) (b_var 4)))))))
  (s_nil [3])))
  (s_cons (s_ret (e_var 2))
  (s_nil []))))))
theorem ok_first_ending (T : Tx K mg) (k : Nat) : FnOk P w K mg base CX0 (1 + k) T.a_first_ending T.d_first_ending ["rule", "n", "x", "most"] (spD K false (m_first_ending k)) := by
  induction k with
  | zero => exact fn_never (fun _ _ => rfl)
  | succ k ih => exact fn_ok T.F_first_ending sc_first_ending false (fun cdv A outer s' H E hr => (s_cons (s_if (t_cmp (op_eqD hr.units) eq_pure (b_var 1) (bE e_int))
  (s_cons (s_ret (e_tup ae_nil))
  (s_nil []))
  (s_nil []))
  (s_cons (s_for rfl PassesOwn.never (i_range3 T.z_range (bE (e_callB (call_min3Nu rfl) min3_pure T.z_min (a_cons (b_var 1) (a_cons (b_var 2) (a_cons (b_var 3) a_nil))))) (bE (e_bin op_sub sub_pure (bE (e_ix (b_var 0) (bE e_int))) (bE e_int))) (bE (e_un un_neg neg_pure (bE e_int)))) (g_name 4 sc_first_ending.nd)
  (s_cons (s_if (t_tru (bE (e_call (ok_may_stand T) (hr.mono (by rw [Nat.add_eq]; omega)) T.g_may_stand T.F_may_stand.kp T.b_may_stand (ae_cons (e_var 0) (ae_cons (e_var 2) (ae_cons (e_var 4) ae_nil))))))
  (s_cons (s_set 5 sc_first_ending.nd (e_call ih hr T.g_first_ending T.F_first_ending.kp T.b_first_ending (ae_cons (e_var 0) (ae_cons (e_bin op_sub sub_pure (b_var 1) (b_var 4)) (ae_cons (e_var 4) (ae_cons (e_var 4) ae_nil))))))
  (s_cons (s_if (t_cmp op_notN notN_pure (b_var 5) (bE e_non))
  (s_cons (s_ret (e_bin op_addA add_pure (bE (e_tup (ae_cons (e_var 4) ae_nil))) (b_var 5)))
  (s_nil []))
  (s_nil []))
  (s_nil [5])))
  (s_nil []))
  (s_nil [4, 5])))
  (s_cons (s_ret e_non)
  (s_nil [])))))
theorem ok_next_by_gaps (T : Tx K mg) : FnOk P w K mg base CX0 62 T.a_next_by_gaps T.d_next_by_gaps ["rule", "partition"] (spD K false m_next_by_gaps) :=
  fn_ok T.F_next_by_gaps sc_next_by_gaps false (fun cdv A outer s' H E hr => (s_cons (s_for rfl PassesOwn.never (i_range3 T.z_range (bE (e_bin op_sub sub_pure (bE (e_callB call_len_seq len_pure T.z_len (a_cons (b_var 1) a_nil))) (bE e_int))) (bE (e_un un_neg neg_pure (bE e_int))) (bE (e_un un_neg neg_pure (bE e_int)))) (g_name 2 sc_next_by_gaps.nd)
  (s_cons (s_set 3 sc_next_by_gaps.nd (e_callB (cr_sumA rfl) sum_pure T.z_sum (a_cons (bE (e_slice (b_var 1) (o_some (b_var 2)) o_none)) a_nil)))
  (s_cons (s_if (t_cmp (op_eqD hr.units) eq_pure (b_var 2) (bE e_int))
  (s_cons (s_for rfl PassesOwn.never (i_range3 T.z_range (bE (e_bin op_sub sub_pure (bE (e_ix (b_var 1) (bE e_int))) (bE e_int))) (bE (e_bin op_sub sub_pure (bE (e_ix (b_var 0) (bE e_int))) (bE e_int))) (bE (e_un un_neg neg_pure (bE e_int)))) (g_name 4 sc_next_by_gaps.nd)
  (s_cons (s_set 5 sc_next_by_gaps.nd (e_call (ok_first_ending T 60) (hr.mono (by decide)) T.g_first_ending T.F_first_ending.kp T.b_first_ending (ae_cons (e_var 0) (ae_cons (e_bin op_sub sub_pure (b_var 3) (b_var 4)) (ae_cons (e_var 4) (ae_cons (e_var 4) ae_nil))))))
  (s_cons (s_if (t_cmp op_notN notN_pure (b_var 5) (bE e_non))
  (s_cons (s_ret (e_bin op_addA add_pure (bE (e_tup (ae_cons (e_var 4) ae_nil))) (b_var 5)))
  (s_nil []))
  (s_nil []))
  (s_nil [4, 5]))))
  (s_nil [4, 5]))
  (s_cons (s_set 5 sc_next_by_gaps.nd (e_call (ok_first_ending T 60) (hr.mono (by decide)) T.g_first_ending T.F_first_ending.kp T.b_first_ending (ae_cons (e_var 0) (ae_cons (e_var 3) (ae_cons (e_ix (b_var 1) (bE (e_bin op_sub sub_pure (b_var 2) (bE e_int)))) (ae_cons (e_bin op_sub sub_pure (bE (e_ix (b_var 1) (b_var 2))) (bE e_int)) ae_nil))))))
  (s_cons (s_if (t_cmp op_notN notN_pure (b_var 5) (bE e_non))
  (s_cons (s_ret (e_bin op_addA add_pure (bE (e_slice (b_var 1) o_none (o_some (b_var 2)))) (b_var 5)))
  (s_nil []))
  (s_nil []))
  (s_nil [5]))))
  (s_nil [2, 3, 4, 5]))))
  (s_cons (s_ret e_non)
  (s_nil []))))
theorem ok__law_pick (T : Tx K mg) : FnOk P w K mg base CX0 2 T.a__law_pick T.d__law_pick ["state", "row"] (spD K false m__law_pick) :=
  fn_ok T.F__law_pick sc__law_pick false (fun cdv A outer s' H E hr => (s_cons (s_ret (e_ix (b_var 1) (bE (e_call (ok__law_draw T) (hr.mono (by decide)) T.g__law_draw T.F__law_draw.kp T.b__law_draw (ae_cons (e_var 0) (ae_cons (e_callB call_len_seq len_pure T.z_len (a_cons (b_var 1) a_nil)) ae_nil))))))
  (s_nil [])))
theorem ok__law_eq (T : Tx K mg) (k : Nat) : FnOk P w K mg base CX0 (0 + k) T.a__law_eq T.d__law_eq ["told", "due"] (spD K false (m__law_eq k)) := by
  induction k with
  | zero => exact fn_never (fun _ _ => rfl)
  | succ k ih => exact fn_ok T.F__law_eq sc__law_eq false (fun cdv A outer s' H E hr => (s_cons (s_if (PW.pt (w_or (t_tru (bE (e_isi "list" T.z_isinstance T.z_list (b_var 1)))) (w_or1 (t_tru (bE (e_isi "tuple" T.z_isinstance T.z_tuple (b_var 1)))))))
  (s_cons (s_if (PW.pt (w_or (t_cmp (op_neD hr.units) ne_pure (bE (e_isi "list" T.z_isinstance T.z_list (b_var 0))) (bE (e_isi "list" T.z_isinstance T.z_list (b_var 1)))) (w_or1 (t_cmp (op_neD hr.units) ne_pure (bE (e_isi "tuple" T.z_isinstance T.z_tuple (b_var 0))) (bE (e_isi "tuple" T.z_isinstance T.z_tuple (b_var 1)))))))
  (s_cons (s_ret e_bl)
  (s_nil []))
  (s_nil []))
  (s_cons (s_if (t_cmp (op_neD hr.units) ne_pure (bE (e_callB call_len_seq len_pure T.z_len (a_cons (b_var 0) a_nil))) (bE (e_callB call_len_seq len_pure T.z_len (a_cons (b_var 1) a_nil))))
  (s_cons (s_ret e_bl)
  (s_nil []))
  (s_nil []))
  (s_cons (s_ret (e_cmp (op_eqD hr.units) eq_pure (bF (f_lc [("k", 2)] sc__law_eq.nd (i_range1 T.z_range (bE (e_callB call_len_seq len_pure T.z_len (a_cons (b_var 1) a_nil)))) (fun _ _ _ _ _ => (g_name 2 sc__law_eq.nd)) (fun _ _ _ _ _ => (t_one (t_not (t_tru (bE (e_call ih hr T.g__law_eq T.F__law_eq.kp T.b__law_eq (ae_cons (e_ix (b_var 0) (b_var 2)) (ae_cons (e_ix (b_var 1) (b_var 2)) ae_nil)))))))) (fun _ _ _ _ _ => (e_var 2)))) (bF (f_lst ae_nil))))
  (s_nil []))))
  (s_nil []))
  (s_cons (s_if (t_cmp op_isN isN_pure (b_var 1) (bE e_non))
  (s_cons (s_ret (e_cmp op_isN isN_pure (b_var 0) (bE e_non)))
  (s_nil []))
  (s_nil []))
  (s_cons (s_if (t_tru (bE (e_isi "str" T.z_isinstance T.z_str (b_var 1))))
  (s_cons (s_ret (e_and (e_isi "str" T.z_isinstance T.z_str (b_var 0)) (e_one (e_cmp (op_eqD hr.units) eq_pure (b_var 0) (b_var 1)))))
  (s_nil []))
  (s_nil []))
  (s_cons (s_if (t_tru (bE (e_isi "bool" T.z_isinstance T.z_bool (b_var 1))))
  (s_cons (s_ret (e_and (e_isi "bool" T.z_isinstance T.z_bool (b_var 0)) (e_one (e_cmp (op_eqD hr.units) eq_pure (b_var 0) (b_var 1)))))
  (s_nil []))
  (s_nil []))
  (s_cons (s_ret (e_and (e_isi "int" T.z_isinstance T.z_int (b_var 0)) (e_and (e_not (e_isi "bool" T.z_isinstance T.z_bool (b_var 0))) (e_one (e_cmp (op_eqD hr.units) eq_pure (b_var 0) (b_var 1))))))
  (s_nil [])))))))
theorem ok__law_partitions (T : Tx K mg) (k : Nat) : FnOk P w K mg base CX0 (0 + k) T.a__law_partitions T.d__law_partitions ["n", "most"] (spD K false (m__law_partitions k)) := by
  induction k with
  | zero => exact fn_never (fun _ _ => rfl)
  | succ k ih => exact fn_ok T.F__law_partitions sc__law_partitions false (fun cdv A outer s' H E hr => (s_cons (s_if (t_cmp (op_eqD hr.units) eq_pure (b_var 0) (bE e_int))
  (s_cons (s_ret (eF (f_lst (ae_cons (e_tup ae_nil) ae_nil))))
  (s_nil []))
  (s_nil []))
  (s_cons (s_set 2 sc__law_partitions.nd (eF (f_lst ae_nil)))
  (s_cons (s_for rfl PassesOwn.never (i_range3 T.z_range (bE (e_callB (cr_min2 rfl) min_pure T.z_min (a_cons (b_var 0) (a_cons (b_var 1) a_nil)))) (bE e_int) (bE (e_un un_neg neg_pure (bE e_int)))) (g_name 3 sc__law_partitions.nd)
  (s_cons (s_set 2 sc__law_partitions.nd (e_bin op_addA add_pure (b_var 2) (bF (f_lc [("rest", 4)] sc__law_partitions.nd (i_seq (e_call ih hr T.g__law_partitions T.F__law_partitions.kp T.b__law_partitions (ae_cons (e_bin op_sub sub_pure (b_var 0) (b_var 3)) (ae_cons (e_var 3) ae_nil)))) (fun _ _ _ _ _ => (g_name 4 sc__law_partitions.nd)) (fun _ _ _ _ _ => t_yes) (fun _ _ _ _ _ => (e_bin op_addA add_pure (bE (e_tup (ae_cons (e_var 3) ae_nil))) (b_var 4)))))))
  (s_nil [3])))
  (s_cons (s_ret (e_var 2))
  (s_nil []))))))
theorem ok__law_drawn (T : Tx K mg) : FnOk P w K mg base CX0 2 T.a__law_drawn T.d__law_drawn ["state", "n"] (spD K false m__law_drawn) :=
  fn_ok T.F__law_drawn sc__law_drawn false (fun cdv A outer s' H E hr => (s_cons (s_setO 2 sc__law_drawn.nd (f_lst ae_nil))
  (s_cons (s_set 3 sc__law_drawn.nd (e_var 1))
  (s_cons (s_while PassesOwn.never (t_cmp op_gt (cmp_pure _) (b_var 3) (bE e_int))
  (s_cons (s_set 4 sc__law_drawn.nd (e_bin op_addA add_pure (bE e_int) (bE (e_call (ok__law_draw T) (hr.mono (by decide)) T.g__law_draw T.F__law_draw.kp T.b__law_draw (ae_cons (e_var 0) (ae_cons (e_callB (cr_min2 rfl) min_pure T.z_min (a_cons (b_var 3) (a_cons (bE (e_if (t_cmp (op_neD hr.units) ne_pure (b_var 2) (bF (f_lst ae_nil))) (e_ix (b_var 2) (bE (e_un un_neg neg_pure (bE e_int)))) (e_var 3))) a_nil))) ae_nil))))))
  (s_cons (s_app 2 (pv 2) (e_var 4))
  (s_cons (s_set 3 sc__law_drawn.nd (e_bin op_sub sub_pure (b_var 3) (b_var 4)))
  (s_nil [4])))))
  (s_cons (s_ret (e_callTy call_tuple_of tuple_pure T.z_tuple (a_cons (b_var 2) a_nil)))
  (s_nil []))))))
theorem ok__law_gaps (T : Tx K mg) : FnOk P w K mg base CX0 3 T.a__law_gaps T.d__law_gaps ["state", "top"] (spD K false m__law_gaps) :=
  fn_ok T.F__law_gaps sc__law_gaps false (fun cdv A outer s' H E hr => (s_cons (s_set 2 sc__law_gaps.nd (e_bin op_addA add_pure (bE e_int) (bE (e_call (ok__law_draw T) (hr.mono (by decide)) T.g__law_draw T.F__law_draw.kp T.b__law_draw (ae_cons (e_var 0) (ae_cons (e_call (ok__law_pick T) (hr.mono (by decide)) T.g__law_pick T.F__law_pick.kp T.b__law_pick (ae_cons (e_var 0) (ae_cons (eF (f_lst (ae_cons e_int (ae_cons e_int (ae_cons e_int ae_nil))))) ae_nil))) ae_nil))))))
  (s_cons (s_setO 3 sc__law_gaps.nd (f_lst ae_nil))
  (s_cons (s_for rfl PassesOwn.never (i_range1 T.z_range (b_var 2)) (g_name 4 sc__law_gaps.nd)
  (s_cons (s_app 3 (pv 3) (e_callTy call_tuple_of tuple_pure T.z_tuple (a_cons (bF (f_lc [("s", 5)] sc__law_gaps.nd (i_range1 T.z_range (b_var 2)) (fun _ _ _ _ _ => (g_name 5 sc__law_gaps.nd)) (fun _ _ _ _ _ => t_yes) (fun _ _ _ _ _ => (e_if (t_cmp op_gt (cmp_pure _) (bE (e_call (ok__law_draw T) (hr.mono (by decide)) T.g__law_draw T.F__law_draw.kp T.b__law_draw (ae_cons (e_var 0) (ae_cons e_int ae_nil)))) (bE e_int)) (e_bin op_sub sub_pure (bE (e_call (ok__law_draw T) (hr.mono (by decide)) T.g__law_draw T.F__law_draw.kp T.b__law_draw (ae_cons (e_var 0) (ae_cons (e_bin op_addA add_pure (b_var 1) (bE e_int)) ae_nil)))) (bE e_int)) (e_call (ok__law_draw T) (hr.mono (by decide)) T.g__law_draw T.F__law_draw.kp T.b__law_draw (ae_cons (e_var 0) (ae_cons e_int ae_nil))))))) a_nil)))
  (s_nil [4])))
  (s_cons (s_ret (e_tup (ae_cons (e_var 2) (ae_cons (e_callTy call_tuple_of tuple_pure T.z_tuple (a_cons (b_var 3) a_nil)) (ae_cons (e_bin op_addA add_pure (bE e_int) (bE (e_call (ok__law_draw T) (hr.mono (by decide)) T.g__law_draw T.F__law_draw.kp T.b__law_draw (ae_cons (e_var 0) (ae_cons e_int ae_nil))))) ae_nil)))))
  (s_nil []))))))
theorem ok__law_stands (T : Tx K mg) : FnOk P w K mg base CX0 1 T.a__law_stands T.d__law_stands ["rule", "x", "y"] (spD K false m__law_stands) :=
  fn_ok T.F__law_stands sc__law_stands false (fun cdv A outer s' H E hr => (s_cons (s_set 3 sc__law_stands.nd (e_ix (bE (e_ix (bE (e_ix (b_var 0) (bE e_int))) (bE (e_bin op_mod mod_pure (bE (e_callTy call_int1 int_pure T.z_int (a_cons (b_var 1) a_nil))) (bE (e_ix (b_var 0) (bE e_int))))))) (bE (e_bin op_mod mod_pure (bE (e_callTy call_int1 int_pure T.z_int (a_cons (b_var 2) a_nil))) (bE (e_ix (b_var 0) (bE e_int)))))))
  (s_cons (s_ret (e_and (e_cmp op_ge (cmp_pure _) (b_var 3) (bE e_int)) (e_one (e_cmp op_ge (cmp_pure _) (bE (e_bin op_sub sub_pure (b_var 1) (b_var 2))) (b_var 3)))))
  (s_nil []))))
theorem ok__law_keeps (T : Tx K mg) : FnOk P w K mg base CX0 2 T.a__law_keeps T.d__law_keeps ["rule", "parts"] (spD K false m__law_keeps) :=
  fn_ok T.F__law_keeps sc__law_keeps false (fun cdv A outer s' H E hr => (s_cons (s_if (PW.pt (w_and (t_cmp (op_neD hr.units) ne_pure (b_var 1) (bE (e_tup ae_nil))) (w_and1 (t_cmp op_lt (cmp_pure _) (bE (e_ix (b_var 1) (bE (e_un un_neg neg_pure (bE e_int))))) (bE (e_ix (b_var 0) (bE e_int)))))))
  (s_cons (s_ret e_bl)
  (s_nil []))
  (s_nil []))
  (s_cons (s_ret (e_cmp (op_eqD hr.units) eq_pure (bF (f_lc [("k", 2)] sc__law_keeps.nd (i_range1 T.z_range (bE (e_bin op_sub sub_pure (bE (e_callB call_len_seq len_pure T.z_len (a_cons (b_var 1) a_nil))) (bE e_int)))) (fun _ _ _ _ _ => (g_name 2 sc__law_keeps.nd)) (fun _ _ _ _ _ => (t_one (t_not (t_tru (bE (e_call (ok__law_stands T) (hr.mono (by decide)) T.g__law_stands T.F__law_stands.kp T.b__law_stands (ae_cons (e_var 0) (ae_cons (e_ix (b_var 1) (b_var 2)) (ae_cons (e_ix (b_var 1) (bE (e_bin op_addA add_pure (b_var 2) (bE e_int)))) ae_nil))))))))) (fun _ _ _ _ _ => (e_var 2)))) (bF (f_lst ae_nil))))
  (s_nil []))))
theorem ok__law_break (T : Tx K mg) : FnOk P w K mg base CX0 2 T.a__law_break T.d__law_break ["rule", "parts"] (spD K false m__law_break) :=
  fn_ok T.F__law_break sc__law_break false (fun cdv A outer s' H E hr => (s_cons (s_lcD 2 [("k", 3)] sc__law_break.nd (i_range1 T.z_range (bE (e_bin op_sub sub_pure (bE (e_callB call_len_seq len_pure T.z_len (a_cons (b_var 1) a_nil))) (bE e_int)))) (fun _ _ _ _ _ => (g_name 3 sc__law_break.nd)) (fun _ _ _ _ _ => (t_one (t_not (t_tru (bE (e_call (ok__law_stands T) (hr.mono (by decide)) T.g__law_stands T.F__law_stands.kp T.b__law_stands (ae_cons (e_var 0) (ae_cons (e_ix (b_var 1) (b_var 3)) (ae_cons (e_ix (b_var 1) (bE (e_bin op_addA add_pure (b_var 3) (bE e_int)))) ae_nil))))))))) (fun _ _ _ _ _ => (e_var 3)))
  (s_cons (s_if (t_cmp (op_neD hr.units) ne_pure (b_var 2) (bF (f_lst ae_nil)))
  (s_cons (s_ret (e_ix (b_var 2) (bE e_int)))
  (s_nil []))
  (s_nil []))
  (s_cons (s_ret (e_if (PW.pt (w_and (t_cmp (op_neD hr.units) ne_pure (b_var 1) (bE (e_tup ae_nil))) (w_and1 (t_cmp op_lt (cmp_pure _) (bE (e_ix (b_var 1) (bE (e_un un_neg neg_pure (bE e_int))))) (bE (e_ix (b_var 0) (bE e_int))))))) (e_bin op_sub sub_pure (bE (e_callB call_len_seq len_pure T.z_len (a_cons (b_var 1) a_nil))) (bE e_int)) e_non))
  (s_nil [])))))
end
section
variable {P : Program} {w : World} {K : PySem.W.Frag} {mg : Str → Option Value} {base : Heap}
theorem ok_law {f : Addr} {fd : FuncData} (F : Fun K "law" "law" s_law f fd) (T : Tx K mg) (hs : Tr (m_law m_start) isTrue') : FnOk P w K mg base CX0 63 f fd ["script"] (spLaw K) := by
  refine F.ok sc_law (fun vs H Q E h => ?_) (fun cdv A outer s' H vs Q E hr h => ?_)
  · obtain ⟨a, ns, rfl, _⟩ := h; rfl
  · obtain ⟨a, ns, rfl, hS, hlen, q⟩ := h
    refine ⟨_, pss_cons (ps_set (i := 1) sc_law.nd rfl (by first | exact .inl rfl | exact .inr rfl) (pe_call (ok__law_state T) (hr.mono (by decide)) (by rfl) T.g__law_state T.F__law_state.kp T.b__law_state .nil pass0 (pa_cons (pv 0) pa_nil)))
      (s_cons (s_for rfl PassesOwn.never (i_range1 T.z_range (bE e_int)) (g_name 2 sc_law.nd)
  (s_cons (s_set 3 sc_law.nd (e_call (ok__law_pick T) (hr.mono (by decide)) T.g__law_pick T.F__law_pick.kp T.b__law_pick (ae_cons (e_var 1) (ae_cons (eF (f_lst (ae_cons (e_call (ok__law_gaps T) (hr.mono (by decide)) T.g__law_gaps T.F__law_gaps.kp T.b__law_gaps (ae_cons (e_var 1) (ae_cons e_int ae_nil))) (ae_cons (e_call (ok__law_gaps T) (hr.mono (by decide)) T.g__law_gaps T.F__law_gaps.kp T.b__law_gaps (ae_cons (e_var 1) (ae_cons e_int ae_nil))) (ae_cons (e_tup (ae_cons e_int (ae_cons (e_tup (ae_cons (e_tup (ae_cons e_int ae_nil)) ae_nil)) (ae_cons e_int ae_nil)))) (ae_cons (e_tup (ae_cons e_int (ae_cons (e_tup (ae_cons (e_tup (ae_cons e_int (ae_cons e_int ae_nil))) (ae_cons (e_tup (ae_cons e_int (ae_cons e_int ae_nil))) ae_nil))) (ae_cons e_int ae_nil)))) ae_nil)))))) ae_nil))))
  (s_cons (s_set 4 sc_law.nd (e_call (ok__law_draw T) (hr.mono (by decide)) T.g__law_draw T.F__law_draw.kp T.b__law_draw (ae_cons (e_var 1) (ae_cons e_int ae_nil))))
  (s_cons (s_set 5 sc_law.nd (e_call (ok__law_partitions T 60) (hr.mono (by decide)) T.g__law_partitions T.F__law_partitions.kp T.b__law_partitions (ae_cons (e_var 4) (ae_cons (e_var 4) ae_nil))))
  (s_cons (s_lcD 6 [("parts", 8)] sc_law.nd (i_seq (e_var 5)) (fun _ _ _ _ _ => (g_name 8 sc_law.nd)) (fun _ _ _ _ _ => (t_one (t_tru (bE (e_call (ok__law_keeps T) (hr.mono (by decide)) T.g__law_keeps T.F__law_keeps.kp T.b__law_keeps (ae_cons (e_var 3) (ae_cons (e_var 8) ae_nil))))))) (fun _ _ _ _ _ => (e_var 8)))
  (s_cons (s_if (t_not (t_tru (bE (e_call (ok__law_eq T 60) (hr.mono (by decide)) T.g__law_eq T.F__law_eq.kp T.b__law_eq (ae_cons (e_call (ok_partitions_by_gaps T) (hr.mono (by decide)) T.g_partitions_by_gaps T.F_partitions_by_gaps.kp T.b_partitions_by_gaps (ae_cons (e_var 3) (ae_cons (e_var 4) ae_nil))) (ae_cons (e_var 6) ae_nil))))))
  (s_cons (s_ret e_bl)
  (s_nil []))
  (s_nil []))
  (s_cons (s_for rfl PassesOwn.never (i_range1 T.z_range (bE e_int)) (g_name 7 sc_law.nd)
  (s_cons (s_set 8 sc_law.nd (e_if (t_cmp op_lt (cmp_pure _) (b_var 7) (bE e_int)) (e_call (ok__law_pick T) (hr.mono (by decide)) T.g__law_pick T.F__law_pick.kp T.b__law_pick (ae_cons (e_var 1) (ae_cons (e_var 5) ae_nil))) (e_call (ok__law_drawn T) (hr.mono (by decide)) T.g__law_drawn T.F__law_drawn.kp T.b__law_drawn (ae_cons (e_var 1) (ae_cons (e_bin op_addA add_pure (bE e_int) (bE (e_call (ok__law_draw T) (hr.mono (by decide)) T.g__law_draw T.F__law_draw.kp T.b__law_draw (ae_cons (e_var 1) (ae_cons e_int ae_nil))))) ae_nil)))))
  (s_cons (s_if (PW.pt (w_or (t_not (t_tru (bE (e_call (ok__law_eq T 60) (hr.mono (by decide)) T.g__law_eq T.F__law_eq.kp T.b__law_eq (ae_cons (e_call (ok_keeps_gaps T) (hr.mono (by decide)) T.g_keeps_gaps T.F_keeps_gaps.kp T.b_keeps_gaps (ae_cons (e_var 3) (ae_cons (e_var 8) ae_nil))) (ae_cons (e_call (ok__law_keeps T) (hr.mono (by decide)) T.g__law_keeps T.F__law_keeps.kp T.b__law_keeps (ae_cons (e_var 3) (ae_cons (e_var 8) ae_nil))) ae_nil)))))) (w_or1 (t_not (t_tru (bE (e_call (ok__law_eq T 60) (hr.mono (by decide)) T.g__law_eq T.F__law_eq.kp T.b__law_eq (ae_cons (e_call (ok_first_break T) (hr.mono (by decide)) T.g_first_break T.F_first_break.kp T.b_first_break (ae_cons (e_var 3) (ae_cons (e_var 8) ae_nil))) (ae_cons (e_call (ok__law_break T) (hr.mono (by decide)) T.g__law_break T.F__law_break.kp T.b__law_break (ae_cons (e_var 3) (ae_cons (e_var 8) ae_nil))) ae_nil)))))))))
  (s_cons (s_ret e_bl)
  (s_nil []))
  (s_nil []))
  (s_nil [7, 8]))))
  (s_cons (s_if (PW.pt (w_and (t_cmp (op_neD hr.units) ne_pure (b_var 6) (bF (f_lst ae_nil))) (w_and1 (t_cmp op_gt (cmp_pure _) (b_var 4) (bE e_int)))))
  (s_cons (s_set 9 sc_law.nd (e_call (ok__law_draw T) (hr.mono (by decide)) T.g__law_draw T.F__law_draw.kp T.b__law_draw (ae_cons (e_var 1) (ae_cons (e_callB call_len_seq len_pure T.z_len (a_cons (b_var 6) a_nil)) ae_nil))))
  (s_cons (s_set 10 sc_law.nd (e_if (t_cmp op_lt (cmp_pure _) (bE (e_bin op_addA add_pure (b_var 9) (bE e_int))) (bE (e_callB call_len_seq len_pure T.z_len (a_cons (b_var 6) a_nil)))) (e_ix (b_var 6) (bE (e_bin op_addA add_pure (b_var 9) (bE e_int)))) e_non))
  (s_cons (s_if (PW.pt (w_or (t_not (t_tru (bE (e_call (ok__law_eq T 60) (hr.mono (by decide)) T.g__law_eq T.F__law_eq.kp T.b__law_eq (ae_cons (e_call (ok_next_by_gaps T) (hr.mono (by decide)) T.g_next_by_gaps T.F_next_by_gaps.kp T.b_next_by_gaps (ae_cons (e_var 3) (ae_cons (e_ix (b_var 6) (b_var 9)) ae_nil))) (ae_cons (e_var 10) ae_nil)))))) (w_or1 (t_not (t_tru (bE (e_call (ok__law_eq T 60) (hr.mono (by decide)) T.g__law_eq T.F__law_eq.kp T.b__law_eq (ae_cons (e_call (ok_next_by_gaps T) (hr.mono (by decide)) T.g_next_by_gaps T.F_next_by_gaps.kp T.b_next_by_gaps (ae_cons (e_var 3) (ae_cons (e_ix (b_var 6) (bE (e_un un_neg neg_pure (bE e_int)))) ae_nil))) (ae_cons e_non ae_nil)))))))))
  (s_cons (s_ret e_bl)
  (s_nil []))
  (s_nil []))
  (s_nil [9, 10]))))
  (s_nil []))
  (s_nil [2, 3, 4, 5, 6, 7, 8, 9, 10])))))))))
  (s_cons (s_ret (e_and (e_call (ok__law_eq T 60) (hr.mono (by decide)) T.g__law_eq T.F__law_eq.kp T.b__law_eq (ae_cons (e_call (ok_partitions_by_gaps T) (hr.mono (by decide)) T.g_partitions_by_gaps T.F_partitions_by_gaps.kp T.b_partitions_by_gaps (ae_cons (e_tup (ae_cons e_int (ae_cons (e_tup (ae_cons (e_tup (ae_cons e_int ae_nil)) ae_nil)) (ae_cons e_int ae_nil)))) (ae_cons e_int ae_nil))) (ae_cons (eF (f_lst (ae_cons (e_tup ae_nil) ae_nil))) ae_nil))) (e_one (e_call (ok__law_eq T 60) (hr.mono (by decide)) T.g__law_eq T.F__law_eq.kp T.b__law_eq (ae_cons (e_call (ok_keeps_gaps T) (hr.mono (by decide)) T.g_keeps_gaps T.F_keeps_gaps.kp T.b_keeps_gaps (ae_cons (e_tup (ae_cons e_int (ae_cons (e_tup (ae_cons (e_tup (ae_cons e_int ae_nil)) ae_nil)) (ae_cons e_int ae_nil)))) (ae_cons (e_tup ae_nil) ae_nil))) (ae_cons e_bl ae_nil))))))
  (s_nil []))), ?_⟩
    exact ⟨.ref a, rfl, a, ns, rfl, hS, hlen, fun H' s c ω hne h1 h2 => law_run (s := m_law) hs (n := 9) rfl hne h1 h2 q⟩
end
theorem all_mk {l : PySem.W.OpenLaw} {w : World} {K : PySem.W.Frag} {h : Heap} {mg : Str → Option Value} {fa : Addr} (hs : Tr (m_law m_start) isTrue') (X : K.In h) (G : h.Ns mainGlobals mg) (hfa : mg "law" = some (.ref fa))
    {f0 : Addr} {od0 an0 : Option Addr} {sl0 : Array (Option Value)} {oc0 kV0 dc0 pm0 cd0 ct0 : Value}
    (a0 : PySem.W.nsIn K mainGlobals "may_stand" = some (some (.ref f0))) (l0 : K.lookup f0 = some ⟨oc0, od0, .func (PySem.W.fnOf "may_stand" "may_stand" (defArgs s_may_stand) (defBody s_may_stand) (defScope s_may_stand) .none kV0 dc0 pm0 an0 cd0 ct0), sl0⟩) (c0 : PySem.W.codeIn K cd0 "may_stand" = true) (k0 : PySem.W.keepIn K (.ref f0) = true)
    {f1 : Addr} {od1 an1 : Option Addr} {sl1 : Array (Option Value)} {oc1 kV1 dc1 pm1 cd1 ct1 : Value}
    (a1 : PySem.W.nsIn K mainGlobals "first_break" = some (some (.ref f1))) (l1 : K.lookup f1 = some ⟨oc1, od1, .func (PySem.W.fnOf "first_break" "first_break" (defArgs s_first_break) (defBody s_first_break) (defScope s_first_break) .none kV1 dc1 pm1 an1 cd1 ct1), sl1⟩) (c1 : PySem.W.codeIn K cd1 "first_break" = true) (k1 : PySem.W.keepIn K (.ref f1) = true)
    {f2 : Addr} {od2 an2 : Option Addr} {sl2 : Array (Option Value)} {oc2 kV2 dc2 pm2 cd2 ct2 : Value}
    (a2 : PySem.W.nsIn K mainGlobals "keeps_gaps" = some (some (.ref f2))) (l2 : K.lookup f2 = some ⟨oc2, od2, .func (PySem.W.fnOf "keeps_gaps" "keeps_gaps" (defArgs s_keeps_gaps) (defBody s_keeps_gaps) (defScope s_keeps_gaps) .none kV2 dc2 pm2 an2 cd2 ct2), sl2⟩) (c2 : PySem.W.codeIn K cd2 "keeps_gaps" = true) (k2 : PySem.W.keepIn K (.ref f2) = true)
    {f3 : Addr} {od3 an3 : Option Addr} {sl3 : Array (Option Value)} {oc3 kV3 dc3 pm3 cd3 ct3 : Value}
    (a3 : PySem.W.nsIn K mainGlobals "endings" = some (some (.ref f3))) (l3 : K.lookup f3 = some ⟨oc3, od3, .func (PySem.W.fnOf "endings" "endings" (defArgs s_endings) (defBody s_endings) (defScope s_endings) .none kV3 dc3 pm3 an3 cd3 ct3), sl3⟩) (c3 : PySem.W.codeIn K cd3 "endings" = true) (k3 : PySem.W.keepIn K (.ref f3) = true)
    {f4 : Addr} {od4 an4 : Option Addr} {sl4 : Array (Option Value)} {oc4 kV4 dc4 pm4 cd4 ct4 : Value}
    (a4 : PySem.W.nsIn K mainGlobals "partitions_by_gaps" = some (some (.ref f4))) (l4 : K.lookup f4 = some ⟨oc4, od4, .func (PySem.W.fnOf "partitions_by_gaps" "partitions_by_gaps" (defArgs s_partitions_by_gaps) (defBody s_partitions_by_gaps) (defScope s_partitions_by_gaps) .none kV4 dc4 pm4 an4 cd4 ct4), sl4⟩) (c4 : PySem.W.codeIn K cd4 "partitions_by_gaps" = true) (k4 : PySem.W.keepIn K (.ref f4) = true)
    {f5 : Addr} {od5 an5 : Option Addr} {sl5 : Array (Option Value)} {oc5 kV5 dc5 pm5 cd5 ct5 : Value}
    (a5 : PySem.W.nsIn K mainGlobals "first_ending" = some (some (.ref f5))) (l5 : K.lookup f5 = some ⟨oc5, od5, .func (PySem.W.fnOf "first_ending" "first_ending" (defArgs s_first_ending) (defBody s_first_ending) (defScope s_first_ending) .none kV5 dc5 pm5 an5 cd5 ct5), sl5⟩) (c5 : PySem.W.codeIn K cd5 "first_ending" = true) (k5 : PySem.W.keepIn K (.ref f5) = true)
    {f6 : Addr} {od6 an6 : Option Addr} {sl6 : Array (Option Value)} {oc6 kV6 dc6 pm6 cd6 ct6 : Value}
    (a6 : PySem.W.nsIn K mainGlobals "next_by_gaps" = some (some (.ref f6))) (l6 : K.lookup f6 = some ⟨oc6, od6, .func (PySem.W.fnOf "next_by_gaps" "next_by_gaps" (defArgs s_next_by_gaps) (defBody s_next_by_gaps) (defScope s_next_by_gaps) .none kV6 dc6 pm6 an6 cd6 ct6), sl6⟩) (c6 : PySem.W.codeIn K cd6 "next_by_gaps" = true) (k6 : PySem.W.keepIn K (.ref f6) = true)
    {f7 : Addr} {od7 an7 : Option Addr} {sl7 : Array (Option Value)} {oc7 kV7 dc7 pm7 cd7 ct7 : Value}
    (a7 : PySem.W.nsIn K mainGlobals "_law_state" = some (some (.ref f7))) (l7 : K.lookup f7 = some ⟨oc7, od7, .func (PySem.W.fnOf "_law_state" "_law_state" (defArgs s__law_state) (defBody s__law_state) (defScope s__law_state) .none kV7 dc7 pm7 an7 cd7 ct7), sl7⟩) (c7 : PySem.W.codeIn K cd7 "_law_state" = true) (k7 : PySem.W.keepIn K (.ref f7) = true)
    {f8 : Addr} {od8 an8 : Option Addr} {sl8 : Array (Option Value)} {oc8 kV8 dc8 pm8 cd8 ct8 : Value}
    (a8 : PySem.W.nsIn K mainGlobals "_law_draw" = some (some (.ref f8))) (l8 : K.lookup f8 = some ⟨oc8, od8, .func (PySem.W.fnOf "_law_draw" "_law_draw" (defArgs s__law_draw) (defBody s__law_draw) (defScope s__law_draw) .none kV8 dc8 pm8 an8 cd8 ct8), sl8⟩) (c8 : PySem.W.codeIn K cd8 "_law_draw" = true) (k8 : PySem.W.keepIn K (.ref f8) = true)
    {f9 : Addr} {od9 an9 : Option Addr} {sl9 : Array (Option Value)} {oc9 kV9 dc9 pm9 cd9 ct9 : Value}
    (a9 : PySem.W.nsIn K mainGlobals "_law_pick" = some (some (.ref f9))) (l9 : K.lookup f9 = some ⟨oc9, od9, .func (PySem.W.fnOf "_law_pick" "_law_pick" (defArgs s__law_pick) (defBody s__law_pick) (defScope s__law_pick) .none kV9 dc9 pm9 an9 cd9 ct9), sl9⟩) (c9 : PySem.W.codeIn K cd9 "_law_pick" = true) (k9 : PySem.W.keepIn K (.ref f9) = true)
    {f10 : Addr} {od10 an10 : Option Addr} {sl10 : Array (Option Value)} {oc10 kV10 dc10 pm10 cd10 ct10 : Value}
    (a10 : PySem.W.nsIn K mainGlobals "_law_eq" = some (some (.ref f10))) (l10 : K.lookup f10 = some ⟨oc10, od10, .func (PySem.W.fnOf "_law_eq" "_law_eq" (defArgs s__law_eq) (defBody s__law_eq) (defScope s__law_eq) .none kV10 dc10 pm10 an10 cd10 ct10), sl10⟩) (c10 : PySem.W.codeIn K cd10 "_law_eq" = true) (k10 : PySem.W.keepIn K (.ref f10) = true)
    {f11 : Addr} {od11 an11 : Option Addr} {sl11 : Array (Option Value)} {oc11 kV11 dc11 pm11 cd11 ct11 : Value}
    (a11 : PySem.W.nsIn K mainGlobals "_law_partitions" = some (some (.ref f11))) (l11 : K.lookup f11 = some ⟨oc11, od11, .func (PySem.W.fnOf "_law_partitions" "_law_partitions" (defArgs s__law_partitions) (defBody s__law_partitions) (defScope s__law_partitions) .none kV11 dc11 pm11 an11 cd11 ct11), sl11⟩) (c11 : PySem.W.codeIn K cd11 "_law_partitions" = true) (k11 : PySem.W.keepIn K (.ref f11) = true)
    {f12 : Addr} {od12 an12 : Option Addr} {sl12 : Array (Option Value)} {oc12 kV12 dc12 pm12 cd12 ct12 : Value}
    (a12 : PySem.W.nsIn K mainGlobals "_law_drawn" = some (some (.ref f12))) (l12 : K.lookup f12 = some ⟨oc12, od12, .func (PySem.W.fnOf "_law_drawn" "_law_drawn" (defArgs s__law_drawn) (defBody s__law_drawn) (defScope s__law_drawn) .none kV12 dc12 pm12 an12 cd12 ct12), sl12⟩) (c12 : PySem.W.codeIn K cd12 "_law_drawn" = true) (k12 : PySem.W.keepIn K (.ref f12) = true)
    {f13 : Addr} {od13 an13 : Option Addr} {sl13 : Array (Option Value)} {oc13 kV13 dc13 pm13 cd13 ct13 : Value}
    (a13 : PySem.W.nsIn K mainGlobals "_law_gaps" = some (some (.ref f13))) (l13 : K.lookup f13 = some ⟨oc13, od13, .func (PySem.W.fnOf "_law_gaps" "_law_gaps" (defArgs s__law_gaps) (defBody s__law_gaps) (defScope s__law_gaps) .none kV13 dc13 pm13 an13 cd13 ct13), sl13⟩) (c13 : PySem.W.codeIn K cd13 "_law_gaps" = true) (k13 : PySem.W.keepIn K (.ref f13) = true)
    {f14 : Addr} {od14 an14 : Option Addr} {sl14 : Array (Option Value)} {oc14 kV14 dc14 pm14 cd14 ct14 : Value}
    (a14 : PySem.W.nsIn K mainGlobals "_law_stands" = some (some (.ref f14))) (l14 : K.lookup f14 = some ⟨oc14, od14, .func (PySem.W.fnOf "_law_stands" "_law_stands" (defArgs s__law_stands) (defBody s__law_stands) (defScope s__law_stands) .none kV14 dc14 pm14 an14 cd14 ct14), sl14⟩) (c14 : PySem.W.codeIn K cd14 "_law_stands" = true) (k14 : PySem.W.keepIn K (.ref f14) = true)
    {f15 : Addr} {od15 an15 : Option Addr} {sl15 : Array (Option Value)} {oc15 kV15 dc15 pm15 cd15 ct15 : Value}
    (a15 : PySem.W.nsIn K mainGlobals "_law_keeps" = some (some (.ref f15))) (l15 : K.lookup f15 = some ⟨oc15, od15, .func (PySem.W.fnOf "_law_keeps" "_law_keeps" (defArgs s__law_keeps) (defBody s__law_keeps) (defScope s__law_keeps) .none kV15 dc15 pm15 an15 cd15 ct15), sl15⟩) (c15 : PySem.W.codeIn K cd15 "_law_keeps" = true) (k15 : PySem.W.keepIn K (.ref f15) = true)
    {f16 : Addr} {od16 an16 : Option Addr} {sl16 : Array (Option Value)} {oc16 kV16 dc16 pm16 cd16 ct16 : Value}
    (a16 : PySem.W.nsIn K mainGlobals "_law_break" = some (some (.ref f16))) (l16 : K.lookup f16 = some ⟨oc16, od16, .func (PySem.W.fnOf "_law_break" "_law_break" (defArgs s__law_break) (defBody s__law_break) (defScope s__law_break) .none kV16 dc16 pm16 an16 cd16 ct16), sl16⟩) (c16 : PySem.W.codeIn K cd16 "_law_break" = true) (k16 : PySem.W.keepIn K (.ref f16) = true)
    {f17 : Addr} {od17 an17 : Option Addr} {sl17 : Array (Option Value)} {oc17 kV17 dc17 pm17 cd17 ct17 : Value}
    (a17 : PySem.W.nsIn K mainGlobals "law" = some (some (.ref f17))) (l17 : K.lookup f17 = some ⟨oc17, od17, .func (PySem.W.fnOf "law" "law" (defArgs s_law) (defBody s_law) (defScope s_law) .none kV17 dc17 pm17 an17 cd17 ct17), sl17⟩) (c17 : PySem.W.codeIn K cd17 "law" = true) (k17 : PySem.W.keepIn K (.ref f17) = true)
    (z_abs : PySem.W.nsIn K mainGlobals "abs" = some none)
    (z_bool : PySem.W.nsIn K mainGlobals "bool" = some none)
    (z_int : PySem.W.nsIn K mainGlobals "int" = some none)
    (z_isinstance : PySem.W.nsIn K mainGlobals "isinstance" = some none)
    (z_len : PySem.W.nsIn K mainGlobals "len" = some none)
    (z_list : PySem.W.nsIn K mainGlobals "list" = some none)
    (z_min : PySem.W.nsIn K mainGlobals "min" = some none)
    (z_range : PySem.W.nsIn K mainGlobals "range" = some none)
    (z_str : PySem.W.nsIn K mainGlobals "str" = some none)
    (z_sum : PySem.W.nsIn K mainGlobals "sum" = some none)
    (z_tuple : PySem.W.nsIn K mainGlobals "tuple" = some none)
    : ∃ fd : FuncData, (∀ (s : Shared) (v : Value), BindsTo s fd ⟨[v], []⟩ [("script", v)]) ∧ ∀ base : Heap, K.In base → base.Ns mainGlobals mg → FnOk l.prog w K mg base CX0 63 fa fd ["script"] (spLaw K) := by
  have e := hfa.symm.trans (PySem.W.mg_of X G a17)
  cases e
  have F0 := fun_mk (st := s_may_stand) l0 c0 k0
  have F1 := fun_mk (st := s_first_break) l1 c1 k1
  have F2 := fun_mk (st := s_keeps_gaps) l2 c2 k2
  have F3 := fun_mk (st := s_endings) l3 c3 k3
  have F4 := fun_mk (st := s_partitions_by_gaps) l4 c4 k4
  have F5 := fun_mk (st := s_first_ending) l5 c5 k5
  have F6 := fun_mk (st := s_next_by_gaps) l6 c6 k6
  have F7 := fun_mk (st := s__law_state) l7 c7 k7
  have F8 := fun_mk (st := s__law_draw) l8 c8 k8
  have F9 := fun_mk (st := s__law_pick) l9 c9 k9
  have F10 := fun_mk (st := s__law_eq) l10 c10 k10
  have F11 := fun_mk (st := s__law_partitions) l11 c11 k11
  have F12 := fun_mk (st := s__law_drawn) l12 c12 k12
  have F13 := fun_mk (st := s__law_gaps) l13 c13 k13
  have F14 := fun_mk (st := s__law_stands) l14 c14 k14
  have F15 := fun_mk (st := s__law_keeps) l15 c15 k15
  have F16 := fun_mk (st := s__law_break) l16 c16 k16
  have F17 := fun_mk (st := s_law) l17 c17 k17
  refine ⟨PySem.W.fnOf "law" "law" (defArgs s_law) (defBody s_law) (defScope s_law) .none kV17 dc17 pm17 an17 cd17 ct17, fun s v => .of_eq rfl, fun base _ _ => ok_law F17 { 
    a_may_stand := f0, d_may_stand := _, F_may_stand := F0, b_may_stand := F0.binds (ps := ["rule", "x", "y"]) (fun _ _ _ _ _ _ us hl => match us, hl with | [_, _, _], _ => rfl), g_may_stand := PySem.W.mg_of X G a0,
    a_first_break := f1, d_first_break := _, F_first_break := F1, b_first_break := F1.binds (ps := ["rule", "partition"]) (fun _ _ _ _ _ _ us hl => match us, hl with | [_, _], _ => rfl), g_first_break := PySem.W.mg_of X G a1,
    a_keeps_gaps := f2, d_keeps_gaps := _, F_keeps_gaps := F2, b_keeps_gaps := F2.binds (ps := ["rule", "partition"]) (fun _ _ _ _ _ _ us hl => match us, hl with | [_, _], _ => rfl), g_keeps_gaps := PySem.W.mg_of X G a2,
    a_endings := f3, d_endings := _, F_endings := F3, b_endings := F3.binds (ps := ["rule", "n", "x"]) (fun _ _ _ _ _ _ us hl => match us, hl with | [_, _, _], _ => rfl), g_endings := PySem.W.mg_of X G a3,
    a_partitions_by_gaps := f4, d_partitions_by_gaps := _, F_partitions_by_gaps := F4, b_partitions_by_gaps := F4.binds (ps := ["rule", "n"]) (fun _ _ _ _ _ _ us hl => match us, hl with | [_, _], _ => rfl), g_partitions_by_gaps := PySem.W.mg_of X G a4,
    a_first_ending := f5, d_first_ending := _, F_first_ending := F5, b_first_ending := F5.binds (ps := ["rule", "n", "x", "most"]) (fun _ _ _ _ _ _ us hl => match us, hl with | [_, _, _, _], _ => rfl), g_first_ending := PySem.W.mg_of X G a5,
    a_next_by_gaps := f6, d_next_by_gaps := _, F_next_by_gaps := F6, b_next_by_gaps := F6.binds (ps := ["rule", "partition"]) (fun _ _ _ _ _ _ us hl => match us, hl with | [_, _], _ => rfl), g_next_by_gaps := PySem.W.mg_of X G a6,
    a__law_state := f7, d__law_state := _, F__law_state := F7, b__law_state := F7.binds (ps := ["script"]) (fun _ _ _ _ _ _ us hl => match us, hl with | [_], _ => rfl), g__law_state := PySem.W.mg_of X G a7,
    a__law_draw := f8, d__law_draw := _, F__law_draw := F8, b__law_draw := F8.binds (ps := ["state", "many"]) (fun _ _ _ _ _ _ us hl => match us, hl with | [_, _], _ => rfl), g__law_draw := PySem.W.mg_of X G a8,
    a__law_pick := f9, d__law_pick := _, F__law_pick := F9, b__law_pick := F9.binds (ps := ["state", "row"]) (fun _ _ _ _ _ _ us hl => match us, hl with | [_, _], _ => rfl), g__law_pick := PySem.W.mg_of X G a9,
    a__law_eq := f10, d__law_eq := _, F__law_eq := F10, b__law_eq := F10.binds (ps := ["told", "due"]) (fun _ _ _ _ _ _ us hl => match us, hl with | [_, _], _ => rfl), g__law_eq := PySem.W.mg_of X G a10,
    a__law_partitions := f11, d__law_partitions := _, F__law_partitions := F11, b__law_partitions := F11.binds (ps := ["n", "most"]) (fun _ _ _ _ _ _ us hl => match us, hl with | [_, _], _ => rfl), g__law_partitions := PySem.W.mg_of X G a11,
    a__law_drawn := f12, d__law_drawn := _, F__law_drawn := F12, b__law_drawn := F12.binds (ps := ["state", "n"]) (fun _ _ _ _ _ _ us hl => match us, hl with | [_, _], _ => rfl), g__law_drawn := PySem.W.mg_of X G a12,
    a__law_gaps := f13, d__law_gaps := _, F__law_gaps := F13, b__law_gaps := F13.binds (ps := ["state", "top"]) (fun _ _ _ _ _ _ us hl => match us, hl with | [_, _], _ => rfl), g__law_gaps := PySem.W.mg_of X G a13,
    a__law_stands := f14, d__law_stands := _, F__law_stands := F14, b__law_stands := F14.binds (ps := ["rule", "x", "y"]) (fun _ _ _ _ _ _ us hl => match us, hl with | [_, _, _], _ => rfl), g__law_stands := PySem.W.mg_of X G a14,
    a__law_keeps := f15, d__law_keeps := _, F__law_keeps := F15, b__law_keeps := F15.binds (ps := ["rule", "parts"]) (fun _ _ _ _ _ _ us hl => match us, hl with | [_, _], _ => rfl), g__law_keeps := PySem.W.mg_of X G a15,
    a__law_break := f16, d__law_break := _, F__law_break := F16, b__law_break := F16.binds (ps := ["rule", "parts"]) (fun _ _ _ _ _ _ us hl => match us, hl with | [_, _], _ => rfl), g__law_break := PySem.W.mg_of X G a16,
    z_abs := PySem.W.mg_none_of X G z_abs,
    z_bool := PySem.W.mg_none_of X G z_bool,
    z_int := PySem.W.mg_none_of X G z_int,
    z_isinstance := PySem.W.mg_none_of X G z_isinstance,
    z_len := PySem.W.mg_none_of X G z_len,
    z_list := PySem.W.mg_none_of X G z_list,
    z_min := PySem.W.mg_none_of X G z_min,
    z_range := PySem.W.mg_none_of X G z_range,
    z_str := PySem.W.mg_none_of X G z_str,
    z_sum := PySem.W.mg_none_of X G z_sum,
    z_tuple := PySem.W.mg_none_of X G z_tuple } hs⟩
end K35
open PySem PySem.W PyProof.Rows
set_option maxHeartbeats 0 in
theorem PySem.Challenge.cw_sumwright_k35_partitions_by_gaps_holds : PySem.Challenge.rw_sumwright_k35_partitions_by_gaps.Holds := by
  w_on; o_law; k_head; (case hw => w_witness2)
  k_fill
  refine L2.walk_of (l := PySem.Challenge.rw_sumwright_k35_partitions_by_gaps) (n := 63) (k := 63) (x := "script") (CX := fun _ => L2.CX0) (sp := fun w => FL.spLaw _) rfl (by decide) rfl ⟨rfl, by decide, by decide⟩ (fun w h Y => PySem.W.kIn_of Y) ?F (fun _ _ a ns hl _ hS => ⟨a, ns, rfl, hS, hl, fun _ => rfl⟩) (fun _ _ _ _ _ h => h)
  case F =>
    intro w mg fa h KX G hmg
    refine' K35.all_mk K35.law_true KX G hmg ?a0 ?l0 ?c0 ?k0 ?a1 ?l1 ?c1 ?k1 ?a2 ?l2 ?c2 ?k2 ?a3 ?l3 ?c3 ?k3 ?a4 ?l4 ?c4 ?k4 ?a5 ?l5 ?c5 ?k5 ?a6 ?l6 ?c6 ?k6 ?a7 ?l7 ?c7 ?k7 ?a8 ?l8 ?c8 ?k8 ?a9 ?l9 ?c9 ?k9 ?a10 ?l10 ?c10 ?k10 ?a11 ?l11 ?c11 ?k11 ?a12 ?l12 ?c12 ?k12 ?a13 ?l13 ?c13 ?k13 ?a14 ?l14 ?c14 ?k14 ?a15 ?l15 ?c15 ?k15 ?a16 ?l16 ?c16 ?k16 ?a17 ?l17 ?c17 ?k17 ?z_abs ?z_bool ?z_int ?z_isinstance ?z_len ?z_list ?z_min ?z_range ?z_str ?z_sum ?z_tuple
    (case a0 => k_is); (case l0 => k_is); (case c0 => k_is); (case k0 => k_is); (case a1 => k_is); (case l1 => k_is); (case c1 => k_is); (case k1 => k_is); (case a2 => k_is); (case l2 => k_is); (case c2 => k_is); (case k2 => k_is); (case a3 => k_is); (case l3 => k_is); (case c3 => k_is); (case k3 => k_is); (case a4 => k_is); (case l4 => k_is); (case c4 => k_is); (case k4 => k_is); (case a5 => k_is); (case l5 => k_is); (case c5 => k_is); (case k5 => k_is); (case a6 => k_is); (case l6 => k_is); (case c6 => k_is); (case k6 => k_is); (case a7 => k_is); (case l7 => k_is); (case c7 => k_is); (case k7 => k_is); (case a8 => k_is); (case l8 => k_is); (case c8 => k_is); (case k8 => k_is); (case a9 => k_is); (case l9 => k_is); (case c9 => k_is); (case k9 => k_is); (case a10 => k_is); (case l10 => k_is); (case c10 => k_is); (case k10 => k_is); (case a11 => k_is); (case l11 => k_is); (case c11 => k_is); (case k11 => k_is); (case a12 => k_is); (case l12 => k_is); (case c12 => k_is); (case k12 => k_is); (case a13 => k_is); (case l13 => k_is); (case c13 => k_is); (case k13 => k_is); (case a14 => k_is); (case l14 => k_is); (case c14 => k_is); (case k14 => k_is); (case a15 => k_is); (case l15 => k_is); (case c15 => k_is); (case k15 => k_is); (case a16 => k_is); (case l16 => k_is); (case c16 => k_is); (case k16 => k_is); (case a17 => k_is); (case l17 => k_is); (case c17 => k_is); (case k17 => k_is); (case z_abs => k_is); (case z_bool => k_is); (case z_int => k_is); (case z_isinstance => k_is); (case z_len => k_is); (case z_list => k_is); (case z_min => k_is); (case z_range => k_is); (case z_str => k_is); (case z_sum => k_is); (case z_tuple => k_is)
end
